import PyProof.Rows.All
import Wide.All
import OpenK.AllK
import Wide.FinOn
import HandS.ForMost
import HandS.AnyAll
import HandS.Lambda
import HandS.GenList
import PyProof.CodeObjX
import PyProof.ConsumeS
import PyProof.TupleOfGen
import HandS.ForExc
import HandS.EndTab
import HandS.HeadHook4
import HandS.HeadNt
import HandS.Head0
import HandS.Head1
import HandS.Head2
import HandS.HeadHook1
import HandS.HeadHook2
import HandS.HeadHook3
import HandS.HeadWalk
import HandS.Defaults
import KE.GoesNew
import HandS.DictComp
import HandS.Flow
import HandS.Style
import HandS.Conv
import HandS.StrMore
import HandS.FStr
import HandS.Sort
import PyProof.ListStr
import HandS.Strs
import HandS.Wide
import HandS.Codes
import HandS.NoneIn
import HandS.Dict
import HandS.Iter
import HandS.More
import KE.SortKeyHeap
import KE.SortUse
import HandS.SortKw
import HandS.Text
import PyProof.DictKinds
import PyProof.MeetsSeq
import KE.SortData
import HandS.Deep
import HandS.ListItems
import HandS.WordsDict
import PyProof.WalkInts
import HandS.HeadEnd
import PySem.Challenge.RW_signalstack_k02_towers_that_see
set_option Elab.async false
set_option linter.all false
-- text GenR
set_option maxRecDepth 100000
set_option maxHeartbeats 4000000
/-! GenR: a generator expression handed to a built-in, its element any expression that the layer serves. -/
namespace GX
open PySem PySem.Spec PyProof.Rows L2 LamX

/-- the names of a generator expression's own frame -/
structure GSc (N : List Str) (sc scope : Scope) (own : List (Str × Nat)) : Prop where
  blk : BlkOk N sc scope own
  co : scope.isCoroutine = false
  cell : ∀ y ∈ scope.names, y.2 ≠ .cell
  dot : scope.names.lookup (".0" : Str) = some NameKind.local

def gscB (scope : Scope) : Bool := !scope.isCoroutine && (scope.names.all fun y => !decide (y.2 = .cell)) && decide (scope.names.lookup (".0" : Str) = some NameKind.local)
theorem gsc_by {N : List Str} {sc scope : Scope} {own : List (Str × Nat)} (b : BlkOk N sc scope own) (h : gscB scope = true) : GSc N sc scope own := by
  unfold gscB at h
  simp only [Bool.and_eq_true, Bool.not_eq_true', List.all_eq_true, decide_eq_true_eq, decide_eq_false_iff_not] at h
  exact ⟨b, h.1.1, fun y hy => h.1.2 y hy, h.2⟩

abbrev gEnv (X : Cx) (scope : Scope) (C : Addr) (code : Value) : Env := genEnv scope (cloFrom X.env.cells scope.names []) C code builtinsNs X.env
/-- the frame of a generator expression that was made at s, run from A under the frames outer -/
def gcx (X : Cx) (A : Around) (s : Shared) (H : Hp) (scope : Scope) (code : Value) (ex : List Addr) : Cx :=
  { X with A := A.deeper (gEnv X scope s.heap.objs.size code), s_0 := s, H_0 := H, env := gEnv X scope s.heap.objs.size code, outer := X.stack, stack := gEnv X scope s.heap.objs.size code :: X.stack,
           ex := ex, fn := fun _ => false, calm := true, pn := [], xe := fun _ _ => False }

theorem over_gen {A : Around} {elt : Expr} {gs : List Comprehension} {scope : Scope} {pos : Pos} {it acc : Value} {env : Env} : A.over (.compLoop (.GeneratorExp elt gs scope pos) 0 it acc env) [] = A.deeper env := by
  first
    | rfl
    | (obtain ⟨a, b, c, d, e⟩ := A; simp [Around.over, Around.deeper, marksOver, frameCount, unitsOf, envsOf, guardsOf, pushEnvs, pushGuards, Code.envs, Code.env?, Code.isFrame, Code.guards, Code.isGuard, Code.weight, Code.frames, Code.isCreation, Code.isCaller, Code.cUnits])
theorem over_genStart {A : Around} {elt : Expr} {gs : List Comprehension} {scope : Scope} {pos : Pos} {it acc : Value} {env : Env} : A.over (.compStart (.GeneratorExp elt gs scope pos) 0 it acc env) [] = A.deeper env := by
  first
    | rfl
    | (obtain ⟨a, b, c, d, e⟩ := A; simp [Around.over, Around.deeper, marksOver, frameCount, unitsOf, envsOf, guardsOf, pushEnvs, pushGuards, Code.envs, Code.env?, Code.isFrame, Code.guards, Code.isGuard, Code.weight, Code.frames, Code.isCreation, Code.isCaller, Code.cUnits])

section
variable {X : Cx} {pins : List (Addr × Obj)} {σ : L2.St} {H : Hp} {s s5 : Shared}

/-- the frame is ready: what the generator's own context knows when it was made (s: ahead of its frame's dict; s5: behind) -/
theorem gen_start {A : Around} {scope : Scope} {own : List (Str × Nat)} {fp : List Addr} {code : Value} {m : Str → Option Value} (I : Inv X pins σ H s) (ok : GSc X.N X.env.scope scope own) (hN : X.N.Nodup) (hd : A.handled = none) (hfr : A.frames = some X.stack)
    (hfp : ∀ b ∈ fp, FpOk X pins H b ∧ b < s.heap.objs.size) (hns : s5.heap.Ns s.heap.objs.size m) (kp : ∀ b o, s.heap.get? b = some o → s5.heap.get? b = some o) (hos : s5.os = s.os) (hb : AllBare s5.gens) :
    Inv (gcx X A s H scope code fp) [] (wipe σ (own.map (·.2))) H s5 := by
  have hfree : ∀ y ∈ scope.names, y.2 = .free → ∃ c, X.env.cells.lookup y.1 = some c := fun y hy e => by
    rcases ok.blk.free y hy e with k | k
    · exact I.ok.has _ (.inl k)
    · exact I.ok.has _ (.inr k)
  have cm : ∀ {y c}, (cloFrom X.env.cells scope.names []).lookup y = some c → X.env.cells.lookup y = some c ∧ c < s.heap.objs.size := fun {y c} e => by
    rcases cloFrom_mem (PySem.mem_of_lookup e) with hm | ⟨h1, h2⟩
    · cases hm
    · obtain ⟨c1, hc⟩ := hfree _ h1 rfl
      have hc : X.env.cells.lookup y = some c1 := hc
      have e2 : c = c1 := by rw [h2, hc] <;> rfl
      subst e2
      obtain ⟨w, z⟩ := I.cell _ _ hc
      exact ⟨hc, z.lt⟩
  have look : ∀ {y}, scope.names.lookup y = some .free → ∃ c, (cloFrom X.env.cells scope.names []).lookup y = some c := fun {y} hl =>
    mem_lookup (cloFrom_has (cells := X.env.cells) (acc := []) (show (y, NameKind.free) ∈ scope.names from PySem.mem_of_lookup hl))
  have cellK : ∀ {c : Addr} {v : Option Value}, s.heap.IsCell c v → s5.heap.IsCell c v := fun {c v} ⟨o, ho, hd⟩ => ⟨o, kp _ _ ho, hd⟩
  refine ⟨⟨I.ok.mod, ok.blk.kind, I.ok.glob, rfl, Nat.le_refl _, fun y z c e1 e2 => I.ok.inj y z c (cm e1).1 (cm e2).1, fun y hy => ?_, fun y c z _ => ?_, fun _ => hd, Around.frames_deeper hfr, .inr ⟨rfl, rfl⟩,
      fun b hb => ⟨Nat.ne_of_lt (hfp b hb).2, fun y c e => (hfp b hb).1.2.2.2.2.1 y c (cm e).1⟩, I.bs, Nat.le_trans I.ok.bsz I.sz, fun b o e hb => ?_, fun b hb z => ?_, I.stack, I.stkFree⟩,
    hos, hb, Un.kept kp, ⟨m, hns, fun i y v e1 e2 e3 => ?_⟩, fun y c e => ?_, I.hok.fresh (Nat.le_refl _), fun y c e => I.freeC y c (cm e).1, fun p hp => absurd (show p ∈ ([] : List (Addr × Obj)) ++ [] from hp) (by simp), I.hok.kept kp, by rw [wipe_length]; exact I.len⟩
  · have hy : scope.names.lookup y = some .cell ∨ scope.names.lookup y = some .free := hy
    rcases hy with hy | hy
    · exact absurd rfl (ok.cell _ (PySem.mem_of_lookup hy))
    · exact look hy
  · have z : false = true := z
    cases z
  · rcases (hfp b hb).1.2.2.2.1 with z | z
    · exact I.ok.noex b o e z
    · exact absurd (Nat.lt_of_lt_of_le (Heap.lt_size e) (Nat.le_trans I.ok.bsz z)) (Nat.lt_irrefl _)
  · have z : b ∈ frs X.stack := z
    rcases List.mem_cons.mp (I.stkSub b z) with z | z
    · exact (hfp b hb).1.2.1 z
    · exact (hfp b hb).1.2.2.1 z
  · obtain ⟨e2, hne⟩ := wipe_some e2
    have e3 : Vis scope y := e3
    have no : ∀ k, (y, k) ∈ scope.names → k = .local ∨ k = .cell → False := fun k hk hh => by
      rcases ok.blk.own _ hk hh with e' | e'
      · obtain ⟨p, hp, hpy⟩ := List.mem_map.mp e'
        have e4 := ok.blk.ix p hp
        have : p.1 = y := hpy
        rw [this] at e4
        exact hne (List.mem_map.mpr ⟨p, hp, nodup_ix hN e4 e1⟩)
      · exact e' (List.mem_of_getElem? e1)
    rcases e3 with k | k | k
    · exact (no _ (PySem.mem_of_lookup k) (.inl rfl)).elim
    · exact (no _ (PySem.mem_of_lookup k) (.inr rfl)).elim
    · obtain ⟨m2, hn2, hl⟩ := I.loc
      have hvis : Vis X.env.scope y := (ok.blk.free _ (PySem.mem_of_lookup k) rfl).elim (fun k => .inr (.inl k)) (fun k => .inr (.inr k))
      obtain ⟨w', r, q⟩ := hl i y v e1 e2 hvis
      obtain ⟨c2, h2⟩ := look k
      refine ⟨w', r, .inr ⟨.inr k, c2, h2, ?_⟩⟩
      have c1 := (cm h2).1
      rcases q with ⟨k', _⟩ | ⟨_, c3, e', z⟩
      · have k' : X.env.scope.names.lookup y = some .local := k'
        rcases ok.blk.free _ (PySem.mem_of_lookup k) rfl with k2 | k2 <;> rw [show X.env.scope.names.lookup y = _ from k2] at k' <;> cases k'
      · rw [c1] at e'
        cases e'
        exact cellK z
  · obtain ⟨w', z⟩ := I.cell y c (cm e).1
    exact ⟨w', cellK z⟩

/-- back in the frame that made it -/
theorem gen_back {A : Around} {scope : Scope} {fp : List Addr} {code : Value} {ps : List (Addr × Obj)} {σ' : L2.St} {H' : Hp} {s1 s2 : Shared} (I : Inv X pins σ H s) (J : Inv (gcx X A s H scope code fp) ps σ' H' s1)
    (hfp : ∀ b ∈ fp, FpOk X pins H b) (ho : s2.os = s1.os) (kp : ∀ b o, s1.heap.get? b = some o → s2.heap.get? b = some o) (hb : AllBare s2.gens) : Inv X pins σ H' s2 :=
  I.call' (ch := fp) (ho.trans J.os) (J.base.trans (Un.kept kp)) (J.hok.kept kp) hb fun b hb => ⟨(hfp b hb).2.2.2.1, (hfp b hb).2.1, (hfp b hb).2.2.2.2.1, (hfp b hb).2.2.2.2.2⟩
end

/-! ### the turns -/
/-- what does not change while the generator lives: its object a (go), the consumer's own list S, the state s and the heap H when it was made -/
structure GD where
  X : Cx
  A : Around
  s : Shared
  H : Hp
  scope : Scope
  code : Value
  fp : List Addr
  a : Addr
  go : Obj
  g : Nat
  S : Addr
  σ : L2.St
abbrev GD.cx (G : GD) : Cx := gcx G.X G.A G.s G.H G.scope G.code G.fp
/-- asleep between two turns -/
def GD.at (G : GD) (H : Hp) (s : Shared) : Prop := ∃ oS : Obj, (∀ v, oS.data ≠ .cell v) ∧ Inv G.cx [(G.a, G.go), (G.S, oS)] G.σ H s
/-- the consumer's doing between two turns: S may change, the table of generators too -/
structure GD.Rs (G : GD) (s s' : Shared) : Prop where
  os : s'.os = s.os
  bare : AllBare s'.gens
  keep : ∀ b o, b ≠ G.S → s.heap.get? b = some o → s'.heap.get? b = some o
  ga : s'.heap.get? G.a = some G.go
  gs : ∃ o, s'.heap.get? G.S = some o ∧ ∀ v, o.data ≠ .cell v
theorem GD.at.facts {G : GD} {H : Hp} {s : Shared} (h : G.at H s) : H G.S = none ∧ G.S ≠ G.cx.env.locals ∧ G.S ∉ G.cx.fs ∧ H G.a = none ∧ s.heap.get? G.a = some G.go ∧ ∃ oS : Obj, s.heap.get? G.S = some oS ∧ ∀ v, oS.data ≠ .cell v := by
  obtain ⟨oS, hc, I⟩ := h
  obtain ⟨h1, h2, h3, h4, _⟩ := I.pin (G.S, oS) (List.mem_append_right _ (List.mem_cons_of_mem _ List.mem_cons_self))
  obtain ⟨g1, g2, _⟩ := I.pin (G.a, G.go) (List.mem_append_right _ List.mem_cons_self)
  exact ⟨h2, h3, h4, g2, g1, oS, h1, hc⟩
theorem GD.at.woken {G : GD} {H : Hp} {s s' : Shared} (h : G.at H s) (hS : G.s.heap.objs.size ≤ G.S) (r : G.Rs s s') : G.at H s' := by
  obtain ⟨hS0, hSL, hSf, ha0, _, _⟩ := h.facts
  obtain ⟨oS, hc, I⟩ := h
  obtain ⟨o', ho', hc'⟩ := r.gs
  have I0 : Inv G.cx [] G.σ H s := I.pins_of fun p hp => by cases hp
  have nc : ∀ b, b ∉ [G.S] → b ≠ G.S := fun b hb e => hb (by rw [e]; exact List.mem_singleton.mpr rfl)
  have nS : ∀ b u, H b = some u → b ≠ G.S := fun b u e z => by rw [z, hS0] at e; cases e
  have cellS : ∀ x c, G.cx.env.cells.lookup x = some c → c ≠ G.S := fun x c e z => by
    obtain ⟨v, o, ho, hd⟩ := I.cell x c e
    obtain ⟨q1, _, _, _, q5⟩ := I.pin (G.S, oS) (List.mem_append_right _ (List.mem_cons_of_mem _ List.mem_cons_self))
    rw [z, q1] at ho
    cases ho
    exact q5 v hd
  have hok : HOk G.cx.prog G.cx.w H s'.heap := fun b u e => (I0.hok b u e).stay (fun c v hcb q => r.keep c v (by
      rcases hcb with z | z
      · rw [z]; exact nS b u e
      · exact nS c _ z) q) (fun _ q => q) fun _ _ q => q
  have J : Inv G.cx [] G.σ H s' := by
    refine I0.call' (ch := [G.S]) r.os ?_ hok r.bare fun b hb => ?_
    · refine ⟨fun b o e _ _ hx => r.keep b o (nc b hx) e, fun b o e _ _ hx => ⟨o.slots, r.keep b o (nc b hx) e⟩, fun _ _ _ n _ => n, fun b o e hx => ⟨o, r.keep b o (nc b hx) e⟩, fun _ _ q => q, fun _ _ _ q => q, fun b ps q => ⟨#[], by rw [q]; simp⟩⟩
    · rw [List.mem_singleton.mp hb]
      exact ⟨.inr hS, hSL, cellS, fun p hp => absurd (show p ∈ ([] : List (Addr × Obj)) ++ [] from hp) (by simp)⟩
  refine ⟨o', hc', J.pins_of fun p hp => ?_⟩
  obtain ⟨q1, q2, q3, q4, q5⟩ := I.pin (G.a, G.go) (List.mem_append_right _ List.mem_cons_self)
  rcases List.mem_cons.mp hp with z | z
  · rw [z]
    exact ⟨r.ga, q2, q3, q4, q5⟩
  · rw [List.mem_singleton.mp z]
    exact ⟨ho', hS0, hSL, hSf, hc'⟩

/-- one turn's promise: i the turn, ys what is out -/
structure Turns (G : GD) (J : It) (g : TG) (te : TE) (vs : List Nat) (n₀ : Nat) (W : Nat → List V → Hp → Prop) (Yd : Nat → List V → V → Hp → Prop) (Ct : Nat → List V → V → Prop) (Po : Nat → List V → V → Hp → Prop) : Prop where
  step : ∀ i ys H, i < n₀ → W i ys H → J.go i H ∧ ∀ x H', J.yld i H x H' → g x G.σ H' fun σ2 H2 => wipe σ2 vs = G.σ ∧ te σ2 H2 fun y H4 => Po i ys y H4
  post : ∀ i ys y H, i < n₀ → Po i ys y H → Yd i ys y H ∧ (Ct i ys y → W (i + 1) (ys ++ [y]) H)
  stop : ∀ ys H, W n₀ ys H → J.stop n₀ H

/-- an item is out -/
def GD.Y (G : GD) (tn : Nat → Heap → Prop) (n₀ : Nat) (Gh : Nat → Shared → List V → Prop) (Yd : Nat → List V → V → Hp → Prop) (Ct : Nat → List V → V → Prop) : Protocol := fun n s₀ v s kap =>
  ∃ i ys y H, i + n = n₀ ∧ i < n₀ ∧ Gh i s₀ ys ∧ RelV y v ∧ G.at H s ∧ (∀ o, s₀.heap.get? G.S = some o → s.heap.get? G.S = some o) ∧ Yd i ys y H ∧
    ∀ s', G.Rs s s' → Ct i ys y → Gh (i + 1) s' (ys ++ [y]) → kap (.send .none) s'
/-- the end -/
def GD.E (G : GD) (n₀ : Nat) (Gh : Nat → Shared → List V → Prop) (W : Nat → List V → Hp → Prop) : Nat → Shared → Shared → Prop := fun n s₀ s =>
  n = 1 ∧ ∃ ys H, Gh n₀ s₀ ys ∧ G.at H s ∧ (∀ o, s₀.heap.get? G.S = some o → s.heap.get? G.S = some o) ∧ W n₀ ys H

section
variable {G : GD} {tg iter elt : Expr} {pos : Pos} {own : List (Str × Nat)} {J : It} {g : TG} {te : TE} {it : Addr} {tn : Nat → Heap → Prop} {n₀ : Nat} {Gh : Nat → Shared → List V → Prop} {W : Nat → List V → Hp → Prop} {Yd : Nat → List V → V → Hp → Prop} {Ct : Nat → List V → V → Prop} {Po : Nat → List V → V → Hp → Prop}

theorem thnZ {α : Type} {t : Sem α} {Q Q' : α → Shared → Prop} {M : Model} {A : Around} {E : Value → Shared → Prop} {s : Shared} (h : wpAny M A t Q (fun _ _ => False) s) (hQ : ∀ a s, Q a s → Q' a s) : wpAny M A t Q' E s := wpAny_mono h hQ fun _ _ z => False.elim z

theorem seg_turns (T : Turn G.X.prog G.X.w G.X.K tg J G.fp it tn) (hg : PG G.cx tg g) (he : PE G.cx elt te) (hco : G.scope.isCoroutine = false) (hfp : ∀ b ∈ G.fp, b < G.s.heap.objs.size) (haS : ∀ b ∈ G.fp, b ≠ G.a ∧ b ≠ G.S) (hS : G.s.heap.objs.size ≤ G.S)
    (hσ : wipe G.σ (own.map (·.2)) = G.σ) (P : Turns G J g te (own.map (·.2)) n₀ W Yd Ct Po) :
    ∀ (n i : Nat) (s₀ s : Shared) (ys : List V) (H : Hp), i + n = n₀ + 1 → i ≤ n₀ → Gh i s₀ ys → G.at H s → tn i s.heap → (∀ b ∈ G.fp, H b = none) → (∀ o, s₀.heap.get? G.S = some o → s.heap.get? G.S = some o) → W i ys H →
      Seg (model G.X.prog G.X.w) G.A (fun n s₀ r s₁ => r = .ok .next ∧ G.E n₀ Gh W n s₀ s₁) (G.Y tn n₀ Gh Yd Ct) n s₀
        (.compLoop (.GeneratorExp elt [⟨tg, iter, [], 0⟩] G.scope pos) 0 (.ref it) .none G.cx.env) ((model G.X.prog G.X.w).den (.compLoop (.GeneratorExp elt [⟨tg, iter, [], 0⟩] G.scope pos) 0 (.ref it) .none G.cx.env)) [] s := by
  have hov : G.A.over (.compLoop (.GeneratorExp elt [⟨tg, iter, [], 0⟩] G.scope pos) 0 (.ref it) .none G.cx.env) [] = G.cx.A := over_gen
  have fpok : ∀ {oS : Obj} {σ' : L2.St} {H' : Hp} {s' : Shared}, Inv G.cx [(G.a, G.go), (G.S, oS)] σ' H' s' → (∀ b ∈ G.fp, H' b = none) → ∀ b ∈ G.fp, FpOk G.cx [(G.a, G.go), (G.S, oS)] H' b := fun {oS σ' H' s'} I' hn b hb =>
    ⟨hn b hb, (I'.ok.exf b hb).1, I'.ok.exfs b hb, .inl hb, fun x c e => (I'.ok.exf b hb).2 x c e, fun p hp => by
      have hp : p ∈ [(G.a, G.go), (G.S, oS)] := hp
      rcases List.mem_cons.mp hp with z | z
      · rw [z]; exact fun q => (haS b hb).1 q.symm
      · rw [List.mem_singleton.mp z]; exact fun q => (haS b hb).2 q.symm⟩
  intro n
  induction n with
  | zero =>
    intro i s₀ s ys H hi hle hgh hat ht hn hkS hw
    exact absurd hi (by omega)
  | succ n ih =>
    intro i s₀ s ys H hi hle hgh hat ht hn hkS hw
    by_cases hin : i = n₀
    · subst hin
      show Seg _ G.A _ _ _ s₀ _ ((compTurn (.GeneratorExp elt [⟨tg, iter, [], 0⟩] G.scope pos) 0 (.ref it) .none G.cx.env).onRaise (leaving G.cx.env)) [] s
      rw [compTurn_gen, Sem.onRaise_eq_wrap]
      refine seg_bind_wrap (wpAny_standAt ?_)
      obtain ⟨oS, hc, I⟩ := hat
      have td := T.done G.cx rfl rfl rfl rfl i _ s _ H (fun _ _ => False) I (fpok I hn) ht (P.stop ys H hw)
      refine seg_bind_wrap ?_
      rw [hov]
      refine thnZ td fun r s6 ⟨hr, I6⟩ => ?_
      subst hr
      have pS := (I.pin (G.S, oS) (List.mem_append_right _ (List.mem_cons_of_mem _ List.mem_cons_self))).1
      have pS6 := (I6.pin (G.S, oS) (List.mem_append_right _ (List.mem_cons_of_mem _ List.mem_cons_self))).1
      refine seg_end (.ok .next) ⟨rfl, by omega, ys, H, hgh, ⟨oS, hc, I6⟩, fun o ho => ?_, hw⟩
      have := hkS o ho
      rw [pS] at this
      rw [← this]
      exact pS6
    obtain ⟨hgo, hst⟩ := P.step i ys H (by omega) hw
    show Seg _ G.A _ _ _ s₀ _ ((compTurn (.GeneratorExp elt [⟨tg, iter, [], 0⟩] G.scope pos) 0 (.ref it) .none G.cx.env).onRaise (leaving G.cx.env)) [] s
    rw [compTurn_gen, Sem.onRaise_eq_wrap]
    refine seg_bind_wrap (wpAny_standAt ?_)
    obtain ⟨oS, hc, I⟩ := hat
    have ti := T.item G.cx rfl rfl rfl rfl i _ s _ H (fun _ _ => False) I (fpok I hn) ht hgo
    refine seg_bind_wrap ?_
    rw [hov]
    refine thnZ ti fun r s6 ⟨u, hr, h6⟩ => ?_
    subst hr
    refine seg_bind_wrap ?_
    rw [hov]
    refine thnZ h6 fun _ s7 ⟨x, H7, I7, r7, y7, st7, n7⟩ => ?_
    have I7' := I7.pinned (fpok I7 n7) (T.obj _ _ st7)
    refine seg_bind_wrap ?_
    rw [hov]
    refine thnZ (hg.run _ s7 _ H7 x u _ I7' r7 (hst x H7 y7)) fun _ s8 ⟨σ8, H8, I8, hw8, q8⟩ => ?_
    refine seg_bind_wrap (wpAny_tests_nil ?_)
    have hy : ∀ v, yieldOut G.cx.env v = yieldValue v := fun v => by
      have hco' : G.cx.env.scope.isCoroutine = false := hco
      simp only [yieldOut, hco', Bool.false_eq_true, if_false]
    simp only [if_true, hy]
    rw [Sem.bind_eq_wrap', Sem.bind_eq_wrap', Sem.wrap_wrap, Sem.wrap_wrap]
    refine seg_wrap ?_
    rw [hov]
    refine thnZ (he.run _ s8 σ8 H8 _ I8 q8) fun v s9 ⟨yv, H9, I9, r9, hpo⟩ => ?_
    obtain ⟨hyd, hct⟩ := P.post i ys yv H9 (by omega) hpo
    have I9' : Inv G.cx [(G.a, G.go), (G.S, oS)] G.σ H9 s9 := (I9.unpinned (pins := [(G.a, G.go), (G.S, oS)])).weak (by rw [← hw8, wipe_length]) fun j v e => by
      rw [← hw8] at e
      exact (wipe_some e).1
    have pS := (I.pin (G.S, oS) (List.mem_append_right _ (List.mem_cons_of_mem _ List.mem_cons_self))).1
    have pS9 := (I9'.pin (G.S, oS) (List.mem_append_right _ (List.mem_cons_of_mem _ List.mem_cons_self))).1
    have A9 : G.at H9 s9 := ⟨oS, hc, I9'⟩
    have pin9 : ∀ b ∈ G.fp, ∀ o, s7.heap.get? b = some o → s9.heap.get? b = some o ∧ H9 b = none := fun b hb o e =>
      let z := I9.pin (b, o) (List.mem_append_right _ (List.mem_append_right _ (mem_pinsAt hb e)))
      ⟨z.1, z.2.1⟩
    have st9 : tn (i + 1) s9.heap := T.keep _ _ _ st7 fun b hb o e => (pin9 b hb o e).1
    have n9 : ∀ b ∈ G.fp, H9 b = none := fun b hb => by
      obtain ⟨o, e, _⟩ := T.obj _ _ st7 b hb
      exact (pin9 b hb o e).2
    refine seg_at (seg_yield rfl rfl rfl ⟨i, ys, yv, H9, by omega, by omega, hgh, r9, A9, fun o ho => ?_, hyd, fun s' hr hc' hgh' => ?_⟩)
    · have := hkS o ho
      rw [pS] at this
      rw [← this]
      exact pS9
    · have A' := A9.woken hS hr
      refine seg_again rfl (ih (i + 1) s' s' (ys ++ [yv]) H9 (by omega) (by omega) hgh' A' (T.keep _ _ _ st9 fun b hb o e => hr.keep b o (haS b hb).2 e) n9 (fun o ho => ho) (hct hc'))
end
end GX

-- text GenS
set_option maxRecDepth 100000
set_option maxHeartbeats 4000000
namespace GX
open PySem PySem.Spec PyProof.Rows L2 LamX
section
variable {X : Cx} {pins : List (Addr × Obj)} {σ : L2.St} {H : Hp} {s : Shared}

/-- what stands when a generator expression has been made -/
structure Made (X : Cx) (pins : List (Addr × Obj)) (σ : L2.St) (tg iter elt : Expr) (scope : Scope) (gpos : Pos) (J : It) (H2 : Hp) (it : Addr) (fp : List Addr) (tn : Nat → Heap → Prop) (code : Value) (a : Addr) (go : Obj) (g : Nat) (s4 s5 : Shared) : Prop where
  inv : Inv X pins σ H2 s4
  turn : Turn X.prog X.w X.K tg J fp it tn
  tn0 : tn 0 s5.heap
  fps : ∀ b ∈ fp, FpOk X pins H2 b ∧ b < s4.heap.objs.size
  ns : ∃ m, s5.heap.Ns s4.heap.objs.size m
  keep : ∀ b o, s4.heap.get? b = some o → s5.heap.get? b = some o
  os : s5.os = s4.os
  bare : AllBare s5.gens
  lt : s4.heap.objs.size < a
  ltS : a < s5.heap.objs.size
  ga : s5.heap.get? a = some go
  isG : ∀ h : Heap, h.get? a = some go → h.IsGen a g
  cellG : ∀ v, go.data ≠ .cell v
  gens : s5.gens[g]? = some (.fresh (.compStart (.GeneratorExp elt [⟨tg, iter, [], 0⟩] scope gpos) 0 (.ref it) .none (gEnv X scope s4.heap.objs.size code)))

theorem upd_none2 {H : Hp} {a b : Addr} {o : HO} (e : upd H a o b = Option.none) : H b = Option.none := by
  unfold upd at e
  split at e
  · cases e
  · exact e

theorem gen_make {T : List (Addr × Str)} {c P : Addr} {own : List (Str × Nat)} {tg iter elt : Expr} {scope : Scope} {gpos : Pos} {wi : TI} {R : It → Hp → Prop} {Q' : Value → Shared → Prop}
    (I : Inv X pins σ H s) (hi : PI X tg iter wi) (ok : GSc X.N X.env.scope scope own) (TB : TabB X.base X.mg c P) (hcode : X.env.code = .ref c) (hmT : (P, X.env.qual ++ "<genexpr>") ∈ T) (hu : ∀ p ∈ T, p.1 = P → p.2 = X.env.qual ++ "<genexpr>")
    (hroom : X.A.depth < recursionLimit) (hs : ∀ v, genFold iter X.env v = pure v) (h : wi σ H fun J H1 => Tabs T H1 ∧ R J H1)
    (hQ : ∀ J H1 H2 it fp tn code a go g s4 s5, R J H1 → ExtN H1 H2 → Tabs T H2 → (∀ b, H2 b = none → H1 b = none) → Made X pins σ tg iter elt scope gpos J H2 it fp tn code a go g s4 s5 → Q' (.ref a) s5) :
    wpAny (model X.prog X.w) X.A (eval (.GeneratorExp elt [⟨tg, iter, [], 0⟩] scope gpos) X.env) Q' X.xe s := by
  have hfree : ∀ y ∈ scope.names, y.2 = .free → ∃ c, X.env.cells.lookup y.1 = some c := fun y hy e => by
    rcases ok.blk.free y hy e with k | k
    · exact I.ok.has _ (.inl k)
    · exact I.ok.has _ (.inr k)
  refine wpAny_GeneratorExp_make ok.co (closure_ok hfree) ok.cell ok.dot ok.blk.kind hroom ?_ hs
  refine thn (hi.run pins s σ H _ I h) fun xv s1 hx => thn hx fun itv s2 h2 => ?_
  obtain ⟨it, fp, tn, J, H1, e, I2, Tn, st2, f2, hT, hR⟩ := h2
  subst e
  refine ⟨I2.nolimit, ?_⟩
  obtain ⟨ps, hP, ht, hall⟩ := hT _ hmT
  have hPs : s2.heap.get? P = some { cls := .none, data := .fields ps } := I2.hok P _ hP
  have hPlt : P < s2.heap.objs.size := Heap.lt_size hPs
  have cd : PySem.W.CodeHd s2.heap c P := TB.code.keeps I2.bk
  have hbm : s2.heap.BuiltinsAt X.mg P := TB.bm.keeps I2.bk
  -- what follows from the new code object on
  have cont : ∀ (code : Value) (H2 : Hp) (s3 : Shared), Inv X pins σ H2 s3 → ExtN H1 H2 → Tabs T H2 → (∀ b, H2 b = none → H1 b = none) → (∀ b o, b ≠ P → s2.heap.get? b = some o → s3.heap.get? b = some o) → (∀ b ∈ fp, H2 b = none) →
      wpAny (model X.prog X.w) X.A (builtinsFor X.env.globals X.env.builtins) (fun bi s₄ =>
        ∀ h', h'.Ns s₄.heap.objs.size (fun y => if y = ".0" then some (.ref it) else none) → Heap.SameBut s₄.heap.objs.size (s₄.heap.push { cls := .type "frame", data := .dict #[] }) h' →
          Q' (.ref h'.objs.size) { s₄ with
            gens := s₄.gens.push (.fresh (.compStart (.GeneratorExp elt [⟨tg, iter, [], 0⟩] scope gpos) 0 (.ref it) .none (genEnv scope (cloFrom X.env.cells scope.names []) s₄.heap.objs.size code bi X.env))),
            toks := s₄.toks + 1 + 1 + 1,
            heap := h'.push { cls := .type "generator", data := .fields #[.int s₄.gens.size 0, .str "<genexpr>" (s₄.toks + 1), .str (X.env.qual ++ "<genexpr>") (s₄.toks + 1 + 1)] } }) X.xe s3 := by
    intro code H2 s3 I3 hE hT3 hno kp3 nfp
    obtain ⟨bm, ob, e1, e2, e3, e4, e5, e6, e7, e8⟩ := TB.bm
    refine wpAny_builtinsFor (m := X.mg) (by rw [I3.ok.glob]; exact I3.mod.glob.keeps I3.bk) e1 e2 (I3.bk _ _ e5) e6 e7 e8 ?_
    intro h' hns hsb
    have sz' : h'.objs.size = s3.heap.objs.size + 1 := by rw [hsb.1, Heap.size_push]
    have kp4 : ∀ b o, s3.heap.get? b = some o → h'.get? b = some o := fun b o e => hsb.extBut b o (Nat.ne_of_lt (Heap.lt_size e)) (Heap.get?_push_of_some _ e)
    have kp5 : ∀ (go : Obj) b o, s3.heap.get? b = some o → (h'.push go).get? b = some o := fun go b o e => Heap.get?_push_of_some _ (kp4 b o e)
    have nP : ∀ b ∈ fp, b ≠ P := fun b hb z => by
      have := (f2 b hb).1
      rw [z, hP] at this
      cases this
    have fpL : ∀ b ∈ fp, b < s2.heap.objs.size := fun b hb => by
      obtain ⟨o, e, _⟩ := Tn.obj _ _ st2 b hb
      exact Heap.lt_size e
    have fpG : ∀ b ∈ fp, ∀ o, s2.heap.get? b = some o → s3.heap.get? b = some o := fun b hb o e => kp3 b o (nP b hb) e
    refine hQ J H1 H2 it fp tn code h'.objs.size _ s3.gens.size s3 _ hR hE hT3 hno
      ⟨I3, Tn, Tn.keep _ _ _ st2 fun b hb o e => kp5 _ b o (fpG b hb o e), fun b hb => ⟨⟨nfp b hb, (f2 b hb).2⟩, ?_⟩, ⟨_, hns.push _⟩, fun b o e => kp5 _ b o e, rfl, I3.bare.push rfl, ?_, ?_, Heap.get?_push_size _ rfl, fun h e => ⟨_, _, _, e, rfl, rfl, rfl⟩, ?_, Array.getElem?_push_size ..⟩
    · obtain ⟨o, e, _⟩ := Tn.obj _ _ st2 b hb
      exact Heap.lt_size (fpG b hb o e)
    · rw [sz']; exact Nat.lt_succ_self _
    · show h'.objs.size < (h'.push _).objs.size
      rw [Heap.size_push]; exact Nat.lt_succ_self _
    · intro v z
      cases z
  cases hf : codeAmong gpos ps.toList with
  | some cv =>
    refine wpAny_genexprCode_hit hcode (cd.code hPs ht) hf ?_
    exact cont cv H1 s2 I2 (ExtN.refl H1) hT (fun _ z => z) (fun _ _ _ e => e) fun b hb => (f2 b hb).1
  | none =>
    refine wpAny_genexprCodeX hcode (cd.code hPs ht) (cd.tab hPs) hf fun c' h' tk hx hge hlt hco' hrec htab' _ => ?_
    obtain ⟨c2, oc, vs, t, e2, hoc, hd, hv⟩ := hrec
    cases e2
    have nC : H1 c' = none := I2.hok.fresh hge
    have I3 := inv_table (t' := tk) (more := #[rawInt gpos.line, rawInt gpos.col, .ref c']) (h' := h') (q := X.env.qual ++ "<genexpr>") I2 hP (fun b o hb e => hx b o hb e) htab'.2 hge ⟨oc, vs, t, hoc, hd, hv⟩
    have hE : ExtN H1 (upd (upd H1 P (.tbl (ps ++ #[rawInt gpos.line, rawInt gpos.col, .ref c']))) c' (CodeO c' (X.env.qual ++ "<genexpr>"))) := fun b o e n => by
      rw [upd_ne (ne_of_none e nC), upd_ne (fun z => n ps (Option.some.inj (e.symm.trans (by rw [z]; exact hP))))]
      exact e
    have eL : (ps ++ #[rawInt gpos.line, rawInt gpos.col, .ref c']).toList = ps.toList ++ [rawInt gpos.line, rawInt gpos.col, .ref c'] := by simp
    refine cont (.ref c') _ _ I3 hE (fun p hp => ?_) (fun b e => upd_none2 (upd_none2 e)) (fun b o hb e => hx b o hb e) fun b hb => ?_
    · by_cases hb : p.1 = P
      · rw [hu p hp hb, hb]
        refine ⟨_, by rw [upd_ne (ne_of_none hP nC), upd_same], by rw [eL]; exact PySem.TriplesOk_snoc _ _ _ _ ht, fun p' cv hcv => ?_⟩
        rw [eL] at hcv
        rcases among_app _ ht hcv with z | z
        · obtain ⟨c0, q1, q2⟩ := hall p' cv z
          exact ⟨c0, q1, hE _ _ q2 codeO_ne⟩
        · exact ⟨c', z, upd_same⟩
      · obtain ⟨ps', a1, a2, a3⟩ := hT p hp
        refine ⟨ps', by rw [upd_ne (ne_of_none a1 nC), upd_ne hb]; exact a1, a2, fun p' cv hcv => ?_⟩
        obtain ⟨c0, q1, q2⟩ := a3 p' cv hcv
        exact ⟨c0, q1, hE _ _ q2 codeO_ne⟩
    · have hl : b < s2.heap.objs.size := by
        obtain ⟨o, e, _⟩ := Tn.obj _ _ st2 b hb
        exact Heap.lt_size e
      have n1 : b ≠ c' := Nat.ne_of_lt (Nat.lt_of_lt_of_le hl hge)
      have n2 : b ≠ P := fun z => by
        have := (f2 b hb).1
        rw [z, hP] at this
        cases this
      rw [upd_ne n1, upd_ne n2]
      exact (f2 b hb).1
end
end GX

-- text GenU
set_option maxRecDepth 100000
set_option maxHeartbeats 4000000
namespace GX
open PySem PySem.Spec PyProof.Rows L2 LamX GenW
section
variable {G : GD} {tg iter elt : Expr} {pos : Pos} {own : List (Str × Nat)} {J : It} {g : TG} {te : TE} {it : Addr} {tn : Nat → Heap → Prop} {n₀ : Nat} {Gh : Nat → Shared → List V → Prop} {W : Nat → List V → Hp → Prop} {Yd : Nat → List V → V → Hp → Prop} {Ct : Nat → List V → V → Prop} {Po : Nat → List V → V → Hp → Prop}
/-- the first turn -/
theorem seg_first (T : Turn G.X.prog G.X.w G.X.K tg J G.fp it tn) (hg : PG G.cx tg g) (he : PE G.cx elt te) (hco : G.scope.isCoroutine = false) (hfp : ∀ b ∈ G.fp, b < G.s.heap.objs.size) (haS : ∀ b ∈ G.fp, b ≠ G.a ∧ b ≠ G.S) (hS : G.s.heap.objs.size ≤ G.S)
    (hσ : wipe G.σ (own.map (·.2)) = G.σ) (P : Turns G J g te (own.map (·.2)) n₀ W Yd Ct Po) {s : Shared} {ys : List V} {H : Hp} (hgh : Gh 0 s ys) (hat : G.at H s) (ht : tn 0 s.heap) (hn : ∀ b ∈ G.fp, H b = none) (hw : W 0 ys H) :
      Seg (model G.X.prog G.X.w) G.A (fun n s₀ r s₁ => r = .ok .next ∧ G.E n₀ Gh W n s₀ s₁) (G.Y tn n₀ Gh Yd Ct) (n₀ + 1) s
        (.compStart (.GeneratorExp elt [⟨tg, iter, [], 0⟩] G.scope pos) 0 (.ref it) .none G.cx.env) ((model G.X.prog G.X.w).den (.compStart (.GeneratorExp elt [⟨tg, iter, [], 0⟩] G.scope pos) 0 (.ref it) .none G.cx.env)) [] s := by
  have loop := seg_turns (iter := iter) (pos := pos) T hg he hco hfp haS hS hσ P (n₀ + 1) 0 s s ys H (Nat.zero_add _) (Nat.zero_le _) hgh hat ht hn (fun _ z => z) hw
  show Seg _ G.A _ _ _ s _ ((compStart (.GeneratorExp elt [⟨tg, iter, [], 0⟩] G.scope pos) 0 (.ref it) .none G.cx.env).onRaise (leaving G.cx.env)) [] s
  unfold compStart
  rw [Sem.onRaise_eq_wrap]
  show Seg _ G.A _ _ _ s _ ((ask >>= _).wrap _ _ _ _) [] s
  refine seg_bind_wrap (wpAny_askSetting ?_)
  split
  · exact seg_again rfl loop
  · first
      | exact seg_bind_wrap (wpAny_rule (seg_bind_wrap (wpAny_standAt (seg_bind_wrap (T.self _ 0 s _ _ ht (seg_again rfl loop))))))
      | (refine seg_bind_wrap (wpAny_rule ?_); show Seg _ G.A _ _ _ s _ ((standAt iter.pos >>= _).wrap _ _ _ _) [] s; exact seg_bind_wrap (wpAny_standAt (seg_bind_wrap (T.self _ 0 s _ _ ht (seg_again rfl loop)))))

/-- the generator as the consumer has it ahead of turn i -/
structure GD.Wait (G : GD) (tn : Nat → Heap → Prop) (n₀ : Nat) (Gh : Nat → Shared → List V → Prop) (W : Nat → List V → Hp → Prop) (Yd : Nat → List V → V → Hp → Prop) (Ct : Nat → List V → V → Prop) (n : Nat) (s : Shared) : Prop where
  ga : s.heap.get? G.a = some G.go
  lim : s.heap.NoLimit
  go : ∃ gs : GenState, s.gens[G.g]? = some gs ∧ gs.Goes (model G.X.prog G.X.w) G.A (fun n s₀ r s₁ => r = .ok .next ∧ G.E n₀ Gh W n s₀ s₁) (G.Y tn n₀ Gh Yd Ct) n (.send .none) (s.setGen G.g .running)
theorem setGen_at2 {s : Shared} {g : Nat} {x y : GenState} (h : s.gens[g]? = some y) : (s.setGen g x).gens[g]? = some x := setGen_self h
theorem bare_set {s : Shared} {g : Nat} {x : GenState} (h : AllBare s.gens) (hx : x.bare = true) : AllBare (s.setGen g x).gens := allBare_setGen h hx

/-- next(generator) -/
theorem next_gen {A : Around} {Q : Option Value → Shared → Prop} {E : Value → Shared → Prop} {s : Shared} {n : Nat} (hn0 : n ≠ 0) (hS : G.s.heap.objs.size ≤ G.S) (hA : G.A = A.in1) (hh : A.handled = none) (hr : A.depth < recursionLimit) (hiG : ∀ h : Heap, h.get? G.a = some G.go → h.IsGen G.a G.g) (w : G.Wait tn n₀ Gh W Yd Ct n s)
    (hY : ∀ i ys y v H s1 gs', i + n = n₀ + 1 → i < n₀ → Gh i (s.setGen G.g .running) ys → RelV y v → G.at H s1 → AllBare (s1.setGen G.g gs').gens → (∀ o, s.heap.get? G.S = some o → s1.heap.get? G.S = some o) → Yd i ys y H →
      (∀ s', G.Rs (s1.setGen G.g gs') s' → s'.gens = (s1.setGen G.g gs').gens → Ct i ys y → Gh (i + 1) (s'.setGen G.g .running) (ys ++ [y]) → G.Wait tn n₀ Gh W Yd Ct (n - 1) s') → Q (some v) (s1.setGen G.g gs'))
    (hP : ∀ ys H s1 s2, n = 1 → Gh n₀ (s.setGen G.g .running) ys → G.at H s1 → (∀ o, s.heap.get? G.S = some o → s1.heap.get? G.S = some o) → W n₀ ys H → s2.os = s1.os → AllBare s2.gens → (∀ b o, s1.heap.get? b = some o → s2.heap.get? b = some o) → Q none s2) :
    wpAny (model G.X.prog G.X.w) A (pyNext (.ref G.a)) Q E s := by
  obtain ⟨ga, lim, gs, hgs, hgo⟩ := w
  rw [hA] at hgo
  have hgl : G.g < s.gens.size := (Array.getElem?_eq_some_iff.mp hgs).1
  refine wpAny_gsz (n := G.g + 1) hgl (wpAny_pyNext_genexpQ (P := G.E n₀ Gh W) hh lim hr (hiG _ ga) hgs hgo (fun v s1 gs' hb hv => ?_) (fun s1 hp h' hk => ?_))
  · intro hsz
    obtain ⟨i, ys, y, H, hi, hlt, hgh, rv, hat, hkS, hyd, hkap⟩ := hv
    cases n with
    | zero => exact absurd rfl hn0
    | succ m =>
      have hsz1 : G.g < s1.gens.size := by
        have q : (s1.setGen G.g gs').gens.size = s1.gens.size := setGen_size _ _ _
        have hsz' : G.g + 1 ≤ (s1.setGen G.g gs').gens.size := hsz
        omega
      have hi' : i + (m + 1) = n₀ + 1 := by
        have : i + (m + 1 - 1) = n₀ := hi
        omega
      have hb1 : AllBare s1.gens := by
        obtain ⟨oS, hc, I⟩ := hat
        exact I.bare
      refine hY i ys y v H s1 gs' hi' hlt hgh rv hat (bare_set hb1 hb) hkS hyd fun s' hrs hge hct hgh' => ?_
      obtain ⟨oS, hc, I⟩ := hat
      have h3 : s'.gens[G.g]? = some gs' := by rw [hge]; exact setGen_at hsz1
      refine ⟨hrs.ga, ?_, gs', h3, ?_⟩
      · have hcs : cStatics ≠ G.S := fun z => by
          obtain ⟨mc, ⟨o, es, ep, ho, hd, _⟩, _⟩ := I.ok.mod.nolimit
          have h9 := Heap.lt_size (I.ok.bs _ _ ho).1
          rw [z] at h9
          exact absurd (Nat.lt_of_lt_of_le h9 hS) (Nat.lt_irrefl _)
        obtain ⟨mc, hns, hnn⟩ := I.nolimit
        exact ⟨mc, hns.at' fun o e => hrs.keep _ o hcs e, hnn⟩
      · rw [hA]
        refine hkap (s'.setGen G.g .running) ⟨hrs.os, bare_set hrs.bare rfl, hrs.keep, hrs.ga, hrs.gs⟩ hct hgh'
  · intro hsz
    obtain ⟨hn1, ys, H, hgh, hat, hkS, hw⟩ := hp
    have hb1 : AllBare s1.gens := by
      obtain ⟨oS, hc, I⟩ := hat
      exact I.bare
    refine hP ys H s1 _ hn1 hgh hat hkS hw rfl ?_ fun b o e => hk b o e
    exact bare_set hb1 rfl
end
end GX

-- text GenV
set_option maxRecDepth 100000
set_option maxHeartbeats 4000000
namespace GX
open PySem PySem.Spec PyProof.Rows L2 LamX GenW
theorem wipe_set (σ : L2.St) (v w : Nat) : ((σ.set v none).set w none : L2.St) = (σ.set w none).set v none := by
  by_cases h : v = w
  · rw [h]
  · exact List.set_comm _ _ h
theorem wipe_comm1 (σ : L2.St) (v : Nat) : ∀ vs : List Nat, wipe (σ.set v none) vs = (wipe σ vs).set v none
  | [] => rfl
  | w :: r => by
    unfold wipe
    rw [wipe_comm1 σ v r, wipe_set]
theorem wipe_twice (σ : L2.St) : ∀ vs : List Nat, wipe (wipe σ vs) vs = wipe σ vs
  | [] => rfl
  | v :: r => by
    have e : wipe (wipe σ (v :: r)) (v :: r) = (wipe ((wipe σ r).set v none) r).set v none := rfl
    rw [e, wipe_comm1, wipe_twice σ r]
    show ((wipe σ r).set v none).set v none = (wipe σ r).set v none
    rw [List.set_set]

/-! ### any -/
section
variable {G : GD} {J : It} {tn : Nat → Heap → Prop} {n₀ : Nat} {W : Nat → Hp → Prop} {Qt : Hp → Prop} {A : Around} {R : Result → Shared → Prop}
abbrev anyGh : Nat → Shared → List V → Prop := fun i _ ys => ys = List.replicate i (V.bl false)
abbrev anyW (W : Nat → Hp → Prop) : Nat → List V → Hp → Prop := fun i _ H => W i H
abbrev anyYd (W : Nat → Hp → Prop) (Qt : Hp → Prop) : Nat → List V → V → Hp → Prop := fun i _ y H => ∃ c, y = .bl c ∧ if c = true then Qt H else W (i + 1) H
abbrev anyCt : Nat → List V → V → Prop := fun _ _ y => y = .bl false
theorem any_loop (hA : G.A = A.in1.in1) (hh : A.handled = none) (hr : A.depth < recursionLimit) (hS : G.s.heap.objs.size ≤ G.S) (haS : G.S = G.a) (hc : ∀ v, G.go.data ≠ .cell v) (hiG : ∀ h : Heap, h.get? G.a = some G.go → h.IsGen G.a G.g)
    (hT : ∀ H s1 s2, G.at H s1 → Qt H → s2.os = s1.os → AllBare s2.gens → (∀ b o, s1.heap.get? b = some o → s2.heap.get? b = some o) → R (.ok (.ret (.bool true))) s2)
    (hF : ∀ H s1 s2, G.at H s1 → W n₀ H → s2.os = s1.os → AllBare s2.gens → (∀ b o, s1.heap.get? b = some o → s2.heap.get? b = some o) → R (.ok (.ret (.bool false))) s2) :
    ∀ (n : Nat) (s : Shared), n ≠ 0 → G.Wait tn n₀ anyGh (anyW W) (anyYd W Qt) anyCt n s → codeAny (model G.X.prog G.X.w) A (.builtin "any.loop" ⟨[.ref G.a], []⟩) R s := by
  intro n
  induction n with
  | zero => exact fun _ h => absurd rfl h
  | succ n ih =>
    intro s _ hw
    refine (codeAny_builtin F.entry_any_loop ?_)
    rw [show A.under _ = _ from Around.under_plainId F.plain_any_loop _]
    show wpAny _ _ (pyNext (Value.ref G.a) >>= _) _ _ s
    refine wpAny_bind (next_gen (A := A.in1) (Nat.succ_ne_zero n) hS hA hh hr hiG hw (fun i ys y v H s1 gs' hi hlt hgh rv hat hb hk hyd hk2 => ?_) (fun ys H s1 s2 hn1 hgh hat hk hw2 ho hb hkp => ?_))
    · obtain ⟨c, rfl, hq⟩ := hyd
      obtain rfl : v = Value.bool c := rv
      obtain ⟨_, _, _, _, ga1, _⟩ := hat.facts
      refine wpAny_bind (wpAny_holding (wpAny_truthy_bool ?_))
      refine wpAny_bind (wpAny_letGo ?_)
      cases c with
      | true =>
        simp only [if_true] at hq ⊢
        refine wpAny_bind (wpAny_rule ?_)
        exact wpAny_pure (hT H s1 _ hat hq rfl hb fun b o e => e)
      | false =>
        simp only [Bool.false_eq_true, if_false] at hq ⊢
        have hn : n ≠ 0 := by omega
        exact wpAny_pure ⟨(plainId_quiet F.plain_any_loop) _, ih _ hn (hk2 _ ⟨rfl, hb, fun b o _ e => e, ga1, by rw [haS]; exact ⟨_, ga1, hc⟩⟩ rfl rfl (by show ys ++ [V.bl false] = List.replicate (i + 1) (V.bl false); rw [hgh, List.replicate_succ'])) ⟩
    · refine wpAny_bind (wpAny_rule ?_)
      exact wpAny_pure (hF H s1 s2 hat hw2 ho hb hkp)
end

/-- the reading of any(elt for tg in iter) -/
def tGenAny (T : List (Addr × Str)) (wi : TI) (g : TG) (te : TE) (vs : List Nat) : TE := fun σ H Q => wi σ H fun J H1 => Tabs T H1 ∧ ∀ H2, ExtN H1 H2 → Tabs T H2 → (∀ b, H2 b = none → H1 b = none) →
  ∃ (n₀ : Nat) (W : Nat → Hp → Prop), W 0 H2 ∧
    (∀ i H, i < n₀ → W i H → J.go i H ∧ ∀ x H', J.yld i H x H' → g x (wipe σ vs) H' fun σ2 H3 => wipe σ2 vs = wipe σ vs ∧ te σ2 H3 fun y H4 => ∃ c, y = .bl c ∧ if c = true then Q (.bl true) H4 else W (i + 1) H4) ∧
    (∀ H, W n₀ H → J.stop n₀ H ∧ Q (.bl false) H)
section
variable {X : Cx}
theorem room_gen {k : Nat} {A : Around} (r : Room (k + 1) A) (env : Env) : Room k (A.in1.in1.in1.in1.deeper env) :=
  ⟨r.hd, by have := r.dp; show A.depth + 1 + 3 * k + 5 < _; omega, by have := r.un; show A.units + 1 + 1 + 1 + 1 + 3 + 16 * k + 200 < _; omega⟩
theorem room_gen2 {k : Nat} {A : Around} (r : Room (k + 1) A) (env : Env) : Room k (A.in1.in1.deeper env) :=
  ⟨r.hd, by have := r.dp; show A.depth + 1 + 3 * k + 5 < _; omega, by have := r.un; show A.units + 1 + 1 + 3 + 16 * k + 200 < _; omega⟩
theorem room_gen3 {k : Nat} {A : Around} (r : Room (k + 1) A) (env : Env) : Room k (A.in1.in1.in1.deeper env) :=
  ⟨r.hd, by have := r.dp; show A.depth + 1 + 3 * k + 5 < _; omega, by have := r.un; show A.units + 1 + 1 + 1 + 3 + 16 * k + 200 < _; omega⟩

theorem pe_genAny {T : List (Addr × Str)} {c P : Addr} {own : List (Str × Nat)} {tg iter elt : Expr} {scope : Scope} {gpos p pos : Pos} {wi : TI} {g : TG} {te : TE} {k : Nat}
    (hr : Room (k + 1) X.A) (hgl : Gl X "any") (hm : X.mg "any" = none) (hN : X.N.Nodup) (TB : TabB X.base X.mg c P) (hcode : X.env.code = .ref c) (hmT : (P, X.env.qual ++ "<genexpr>") ∈ T) (hu : ∀ p ∈ T, p.1 = P → p.2 = X.env.qual ++ "<genexpr>")
    (hi : PI X tg iter wi) (ok : GSc X.N X.env.scope scope own)
    (hg : ∀ (A : Around) (s : Shared) (H : Hp) (code : Value) (ex : List Addr), PG (gcx X A s H scope code ex) tg g) (he : ∀ (A : Around) (s : Shared) (H : Hp) (code : Value) (ex : List Addr), Room k (gcx X A s H scope code ex).A → PE (gcx X A s H scope code ex) elt te)
    (hs : ∀ v, genFold iter X.env v = pure v := by intro _; rfl)
    (hst : starEach [.GeneratorExp elt [⟨tg, iter, [], 0⟩] scope gpos] X.env = (false, eval (.GeneratorExp elt [⟨tg, iter, [], 0⟩] scope gpos) X.env) :: starEach [] X.env := by rfl) :
    PE X (.Call (.Name "any" p) [.GeneratorExp elt [⟨tg, iter, [], 0⟩] scope gpos] [] pos) (tGenAny T wi g te (own.map (·.2))) := by
  refine ⟨fun pins s σ H Q I h => ?_⟩
  refine wpAny_Call_Name_kw (ld_blt I hgl hm boot_any ?_)
  refine PyProof.Rows.callWith_builtin1 ?_ hst (by rfl)
  rw [hst]
  show wpAny _ _ (spliced ((false, eval (Expr.GeneratorExp elt [⟨tg, iter, [], 0⟩] scope gpos) X.env) :: backTo pos (starEach [] X.env))) _ _ s
  refine Calls.spliced_cons (gen_make I hi ok TB hcode hmT hu hr.depth hs h fun J H1 H2 it fp tn code a go gi s4 s5 hR hE hT hno M => ?_)
  refine Calls.spliced_nil ?_
  obtain ⟨n₀, W, w0, step, stop⟩ := hR H2 hE hT hno
  refine call_function_tree F.kind_any F.plain_any F.entry_any (F.args_any1 (a := _)) ?_
  unfold Builtin.«any»
  refine wpAny_bind (m := oneArg "any" _) (wpAny_pure ?_)
  refine wpAny_bind (wpAny_pyIter_gen (M.isG _ M.ga) ?_)
  let G : GD := ⟨X, X.A.in1.in1, s4, H2, scope, code, fp, a, go, gi, a, wipe σ (own.map (·.2))⟩
  have I5 : Inv G.cx [] G.σ H2 s5 := by
    obtain ⟨m, hns⟩ := M.ns
    exact gen_start (A := X.A.in1.in1) M.inv ok hN hr.hd M.inv.ok.frames M.fps hns M.keep M.os M.bare
  have hfpa : ∀ b ∈ fp, b ≠ a := fun b hb => Nat.ne_of_lt (Nat.lt_trans (M.fps b hb).2 M.lt)
  have at5 : G.at H2 s5 := by
    refine ⟨go, M.cellG, I5.pins_of fun p hp => ?_⟩
    have hp' : p = (a, go) := by
      rcases List.mem_cons.mp hp with z | z
      · exact z
      · exact List.mem_singleton.mp z
    rw [hp']
    exact ⟨M.ga, M.inv.hok.fresh (Nat.le_of_lt M.lt), Nat.ne_of_gt M.lt, fun hb => by
      have z : a ∈ frs X.stack := hb
      rcases List.mem_cons.mp (M.inv.stkSub a z) with z | z
      · have := M.inv.lt
        rw [← z] at this
        exact absurd (Nat.lt_trans M.lt this) (Nat.lt_irrefl _)
      · exact M.inv.nofs (Nat.le_of_lt M.lt) z, M.cellG⟩
  have P0 : Turns G J g te (own.map (·.2)) n₀ (anyW W) (anyYd W fun H => Q (.bl true) H) anyCt (anyYd W fun H => Q (.bl true) H) := by
    refine ⟨fun i ys H hi hw => ?_, fun i ys y H hi hp => ⟨hp, fun e => ?_⟩, fun ys H hw => (stop H hw).1⟩
    · exact step i H hi hw
    · obtain ⟨c, e2, hq⟩ := hp
      have e3 : y = V.bl false := e
      rw [e2] at e3
      cases e3
      exact hq
  have Wt : G.Wait tn n₀ anyGh (anyW W) (anyYd W fun H => Q (.bl true) H) anyCt (n₀ + 1) s5 := by
    refine ⟨M.ga, M.inv.nolimit.keeps M.keep, _, M.gens, rfl, ?_⟩
    refine seg_first (G := G) (J := J) (own := own) (ys := []) M.turn (hg _ _ _ _ _) (he _ _ _ _ _ (room_gen2 hr _)) ok.co (fun b hb => (M.fps b hb).2) (fun b hb => ⟨hfpa b hb, hfpa b hb⟩) (Nat.le_of_lt M.lt) (wipe_twice _ _) P0 rfl
      (at5.woken (Nat.le_of_lt M.lt) ⟨rfl, bare_set M.bare rfl, fun b o _ e => e, M.ga, ⟨go, M.ga, M.cellG⟩⟩) M.tn0 (fun b hb => (M.fps b hb).1.1) w0
  have back : ∀ {H' : Hp} {s1 s2 : Shared}, G.at H' s1 → s2.os = s1.os → AllBare s2.gens → (∀ b o, s1.heap.get? b = some o → s2.heap.get? b = some o) → Inv X pins σ H' s2 := fun {H' s1 s2} hat ho hb hk => by
    obtain ⟨oS, hc, J'⟩ := hat
    exact gen_back M.inv J' (fun b hb => (M.fps b hb).1) ho hk hb
  refine wpAny_pure ⟨(plainId_quiet F.plain_any_loop) _, any_loop (G := G) (A := X.A) rfl hr.hd hr.depth (Nat.le_of_lt M.lt) rfl M.cellG M.isG (fun H' s1 s2 hat hq ho hb hk => ?_) (fun H' s1 s2 hat hq ho hb hk => ?_) (n₀ + 1) s5 (Nat.succ_ne_zero _) Wt⟩
  · exact ⟨.bl true, H', back hat ho hb hk, rfl, hq⟩
  · exact ⟨.bl false, H', back hat ho hb hk, rfl, (stop H' hq).2⟩
end
end GX

-- text GenW2
set_option maxRecDepth 100000
set_option maxHeartbeats 4000000
namespace GX
open PySem PySem.Spec PyProof.Rows L2 LamX GenW
/-! ### tuple -/
section
variable {G : GD} {J : It} {tn : Nat → Heap → Prop} {n₀ : Nat} {W : Nat → List V → Hp → Prop} {A : Around} {R : Result → Shared → Prop}
abbrev tupGh (S : Addr) : Nat → Shared → List V → Prop := fun i s ys => ys.length = i ∧ ∃ (acc : Array Value) (c : Nat), s.heap.get? S = some (lstObj acc c) ∧ Vals ys acc.toList
abbrev yesYd : Nat → List V → V → Hp → Prop := fun _ _ _ _ => True
abbrev yesCt : Nat → List V → V → Prop := fun _ _ _ => True
theorem lst_cell {acc : Array Value} {c : Nat} : ∀ v, (lstObj acc c).data ≠ .cell v := fun v z => by cases z
theorem ext_loop (hA : G.A = A.in1.in1) (hh : A.handled = none) (hr : A.depth < recursionLimit) (hS : G.s.heap.objs.size ≤ G.S) (haS : G.S ≠ G.a) (hz : n₀ ≤ sizeLine) (hiG : ∀ h : Heap, h.get? G.a = some G.go → h.IsGen G.a G.g) (res : Value)
    (hF : ∀ ys acc c H s1 s2, s2.heap.get? G.S = some (lstObj acc c) → Vals ys acc.toList → ys.length = n₀ → G.at H s1 → W n₀ ys H → s2.os = s1.os → AllBare s2.gens → (∀ b o, s1.heap.get? b = some o → s2.heap.get? b = some o) → R (.ok (.ret res)) s2) :
    ∀ (n : Nat) (s : Shared), n ≠ 0 → G.Wait tn n₀ (tupGh G.S) W yesYd yesCt n s → codeAny (model G.X.prog G.X.w) A (.builtin "list.extend.loop" ⟨[.ref G.S, .ref G.a, res], []⟩) R s := by
  intro n
  induction n with
  | zero => exact fun _ h => absurd rfl h
  | succ n ih =>
    intro s _ hw
    refine (codeAny_builtin F.entry_extend_loop ?_)
    rw [show A.under _ = _ from Around.under_plainId F.plain_extend_loop _]
    show wpAny _ _ (pyNext (Value.ref G.a) >>= _) _ _ s
    refine wpAny_bind (next_gen (A := A.in1) (Nat.succ_ne_zero n) hS hA hh hr hiG hw (fun i ys y v H s1 gs' hi hlt hgh rv hat hb hk hyd hk2 => ?_) (fun ys H s1 s2 hn1 hgh hat hk hw2 ho hb hkp => ?_))
    · obtain ⟨hil, acc, c, hSg, rvs⟩ := hgh
      have hS1 : s1.heap.get? G.S = some (lstObj acc c) := hk _ hSg
      obtain ⟨_, _, _, _, ga1, _⟩ := hat.facts
      have hsz : acc.size = i := by
        have e := rvs.length
        have el : acc.toList.length = acc.size := by simp
        omega
      show wpAny _ _ (updateSeq G.S (Array.push · v) >>= _) _ _ _
      refine wpAny_bind ?_
      refine wpAny_updateSeq (s := s1.setGen G.g gs') hS1 rfl (wpAny_pure ⟨(plainId_quiet F.plain_extend_loop) _, ?_⟩) (by omega) (by show (acc.push v).size ≤ sizeLine + 1; rw [Array.size_push]; omega)
      have hup := Heap.get?_update_self (Obj.mapSeq (Array.push · v)) hS1 rfl
      have hoth : ∀ b o, b ≠ G.S → s1.heap.get? b = some o → (s1.heap.update G.S (Obj.mapSeq (Array.push · v))).get? b = some o := fun b o hb e => (Heap.get?_update_other _ _ (fun z => hb z.symm)).trans e
      refine ih _ (by omega) (hk2 _ ⟨rfl, hb, hoth, hoth _ _ (Ne.symm haS) ga1, ⟨_, hup, lst_cell⟩⟩ rfl trivial ⟨?_, acc.push v, _, hup, ?_⟩)
      · rw [List.length_append, List.length_singleton, hil]
      · rw [Array.toList_push]
        exact rvs.append (.cons rv .nil)
    · obtain ⟨hil, acc, c, hSg, rvs⟩ := hgh
      exact wpAny_pure (hF ys acc c H s1 s2 (hkp _ _ (hk _ hSg)) rvs hil hat hw2 ho hb hkp)

theorem ext_loop2 {S' : Addr} (hSe : S' = G.S) (hA : G.A = A.in1.in1) (hh : A.handled = none) (hr : A.depth < recursionLimit) (hS : G.s.heap.objs.size ≤ G.S) (haS : G.S ≠ G.a) (hz : n₀ ≤ sizeLine) (hiG : ∀ h : Heap, h.get? G.a = some G.go → h.IsGen G.a G.g) (res : Value)
    (hF : ∀ ys acc c H s1 s2, s2.heap.get? S' = some (lstObj acc c) → Vals ys acc.toList → ys.length = n₀ → G.at H s1 → W n₀ ys H → s2.os = s1.os → AllBare s2.gens → (∀ b o, s1.heap.get? b = some o → s2.heap.get? b = some o) → R (.ok (.ret res)) s2)
    (n : Nat) (s : Shared) (hn : n ≠ 0) (w : G.Wait tn n₀ (tupGh G.S) W yesYd yesCt n s) : codeAny (model G.X.prog G.X.w) A (.builtin "list.extend.loop" ⟨[.ref S', .ref G.a, res], []⟩) R s := by
  subst hSe
  exact ext_loop hA hh hr hS haS hz hiG res hF n s hn w

theorem collect_gen {Q : List Value → Shared → Prop} {E : Value → Shared → Prop} {s : Shared} (hA : G.A = A.in1.in1) (hh : A.handled = none) (hr : A.depth < recursionLimit) (hSe : G.S = s.heap.objs.size) (hS : G.s.heap.objs.size ≤ G.S) (haS : G.S ≠ G.a) (hz : n₀ ≤ sizeLine) (hiG : ∀ h : Heap, h.get? G.a = some G.go → h.IsGen G.a G.g)
    (hga : s.heap.get? G.a = some G.go)
    (hW : ∀ s' c, s'.os = s.os → s'.gens = s.gens → (∀ b o, s.heap.get? b = some o → s'.heap.get? b = some o) → s'.heap.get? G.S = some (lstObj #[] c) → G.Wait tn n₀ (tupGh G.S) W yesYd yesCt (n₀ + 1) s')
    (hF : ∀ ys acc H s1 s2, Vals ys acc → ys.length = n₀ → G.at H s1 → W n₀ ys H → s2.os = s1.os → AllBare s2.gens → (∀ b o, s1.heap.get? b = some o → s2.heap.get? b = some o) → Q acc s2) :
    wpAny (model G.X.prog G.X.w) A (collect (.ref G.a)) Q E s := by
  have tyG : ∀ s' : Shared, s'.heap.get? G.a = some G.go → s'.TypeIs (.ref G.a) "generator" := fun s' e => (hiG _ e).typeIs
  unfold collect
  refine (wpAny_bind (wpAny_runValue (codeAny_builtin F.entry_proto_collect ?_)))
  rw [show A.under _ = _ from Around.under_plainId F.plain_proto_collect _]
  show wpAny _ _ (newList [] >>= fun l => again (.builtin "list.__iadd__" ⟨[l, Value.ref G.a], []⟩)) _ _ s
  refine wpAny_bind (wpAny_newObj_type ?_)
  refine wpAny_pure ⟨(plainId_quiet F.plain_list_iadd) _, (codeAny_builtin F.entry_list_iadd ?_)⟩
  rw [show A.under _ = _ from Around.under_plainId F.plain_list_iadd _]
  have k1 : ∀ b o, s.heap.get? b = some o → (s.heap.push { cls := .type "list", data := .seq ([] : List Value).toArray }).get? b = some o := fun b o e => Heap.get?_push_of_some _ e
  have h1 : Builtin.List.listSameRef (.ref s.heap.objs.size) (.ref G.a) = false := by
    have : s.heap.objs.size ≠ G.a := by rw [← hSe]; exact haS
    simp [Builtin.List.listSameRef, this]
  show wpAny _ _ (Builtin.List.listExtendWith (Value.ref s.heap.objs.size) (.ref G.a) (.ref s.heap.objs.size)) _ _ _
  unfold Builtin.List.listExtendWith
  refine wpAny_bind (wpAny_typeOf (tyG { s with heap := _ } (k1 _ _ hga)) ?_)
  have h2 : (Value.type "generator" == Value.type "list") = false := (by decide)
  have h3 : (Value.type "generator" == Value.type "tuple") = false := (by decide)
  simp only [h1, h2, h3, Bool.or_false, Bool.false_eq_true, if_false]
  refine wpAny_bind (wpAny_pyIter_gen (s := { s with heap := _ }) (hiG _ (k1 _ _ hga)) ?_)
  refine wpAny_bind (wpAny_holding (vs := _) ?_)
  unfold Builtin.List.listLengthHint
  refine wpAny_bind (wpAny_specialOf (tyG { s with heap := _ } (k1 _ _ hga)) F.gen_no_len ?_)
  show wpAny _ _ (specialOf (Value.ref G.a) (Str.ofString "__length_hint__") >>= _) _ _ _
  refine wpAny_bind (wpAny_specialOf (tyG { s with heap := _ } (k1 _ _ hga)) F.gen_no_hint ?_)
  refine wpAny_pure ?_
  show wpAny _ _ (rule "list.extend.makes-room" >>= fun _ => Builtin.List.listTouch (.ref s.heap.objs.size) >>= fun _ =>
    again (.builtin "list.extend.loop" ⟨[.ref s.heap.objs.size, .ref G.a, .ref s.heap.objs.size], []⟩)) _ _ _
  refine wpAny_bind (wpAny_rule ?_)
  have hS₁ : (s.heap.push { cls := .type "list", data := .seq ([] : List Value).toArray }).get? s.heap.objs.size = some (lstObj #[] 0) := Heap.get?_push_size _ rfl
  refine wpAny_bind ?_
  show wpAny _ _ (updateSeq s.heap.objs.size (Array.push · .none) >>= fun _ => updateSeq s.heap.objs.size (fun a => a.pop)) _ _ _
  refine wpAny_bind (wpAny_updateSeq hS₁ rfl ?_)
  have hS₂ := Heap.get?_update_self (Obj.mapSeq (Array.push · Value.none)) hS₁ rfl
  refine wpAny_updateSeq hS₂ rfl ?_
  have hS₃ := Heap.get?_update_self (Obj.mapSeq (fun a => a.pop)) hS₂ rfl
  have oth : ∀ b o, s.heap.get? b = some o →
      (((s.heap.push { cls := .type "list", data := .seq ([] : List Value).toArray }).update s.heap.objs.size (Obj.mapSeq (Array.push · Value.none))).update s.heap.objs.size (Obj.mapSeq (fun a => a.pop))).get? b = some o :=
    fun b o e => (Heap.get?_update_other _ _ (Ne.symm (Nat.ne_of_lt (Heap.lt_size e)))).trans ((Heap.get?_update_other _ _ (Ne.symm (Nat.ne_of_lt (Heap.lt_size e)))).trans (k1 b o e))
  refine wpAny_pure ⟨(plainId_quiet F.plain_extend_loop) _, ext_loop2 (A := A) (W := W) (tn := tn) hSe.symm hA hh hr hS haS hz hiG _ (fun ys acc c H s1 s2 hSg rvs hl hat hw ho hb hk => ?_) (n₀ + 1) _ (Nat.succ_ne_zero _) ?_⟩
  · show wpAny _ _ (load s.heap.objs.size >>= _) _ _ s2
    refine wpAny_bind (wpAny_load hSg ?_)
    exact wpAny_pure (hF ys acc.toList H s1 s2 rvs hl hat hw ho hb hk)
  · refine hW _ 2 rfl rfl oth ?_
    rw [hSe]
    exact hS₃
end

def tGenTup (T : List (Addr × Str)) (wi : TI) (g : TG) (te : TE) (vs : List Nat) : TE := fun σ H Q => wi σ H fun J H1 => Tabs T H1 ∧ ∀ H2, ExtN H1 H2 → Tabs T H2 → (∀ b, H2 b = none → H1 b = none) →
  ∃ (n₀ : Nat) (W : Nat → List V → Hp → Prop), n₀ ≤ sizeLine ∧ W 0 [] H2 ∧
    (∀ i ys H, i < n₀ → W i ys H → J.go i H ∧ ∀ x H', J.yld i H x H' → g x (wipe σ vs) H' fun σ2 H3 => wipe σ2 vs = wipe σ vs ∧ te σ2 H3 fun y H4 => W (i + 1) (ys ++ [y]) H4) ∧
    (∀ ys H, W n₀ ys H → J.stop n₀ H ∧ ∀ p, H p = none → Q (.ref p) (upd H p (.tup ys)))
section
variable {X : Cx}
theorem code_tup_new {prog : Program} {w : World} {A : Around} {E : Value → Shared → Prop} {s : Shared} {a : Addr} {Q₁ : Value → Shared → Prop} (hTI : s.TypeIs (.ref a) "generator")
    (hC : wpAny (model prog w) A.in1 (collect (.ref a)) (fun acc s1 => acc.length ≤ sizeLine ∧ Q₁ (.ref s1.heap.objs.size) { s1 with heap := s1.heap.push { cls := .type "tuple", data := .seq acc.toArray } }) E s) :
    codeAny (model prog w) A (.call (.builtin "tuple.__new__") ⟨[.type "tuple", .ref a], []⟩) (wants Q₁ E) s := by
  refine (codeAny_of_tree ?_)
  show wpAny _ _ (do checkBuiltinCall "tuple.__new__" ⟨[Value.type "tuple", .ref a], []⟩; again (.builtin "tuple.__new__" ⟨[.type "tuple", .ref a], []⟩)) _ _ s
  refine wpAny_bind (wpAny_of_eq (F.newCall_tuple_1 (a := _)) (wpAny_pure ⟨(plainId_quiet F.plain_tuple_new) _, (codeAny_builtin F.entry_tuple_new ?_)⟩))
  rw [show A.under _ = _ from Around.under_plainId F.plain_tuple_new _]
  have hsub := sub_tuple_self
  have hinit := init_tuple_lookup
  have hmh := madeHere_tuple
  have hC' : ∀ Q2, (∀ acc s1, acc.length ≤ sizeLine → Q₁ (.ref s1.heap.objs.size) { s1 with heap := s1.heap.push { cls := .type "tuple", data := .seq acc.toArray } } → Q2 acc s1) → wpAny (model prog w) A.in1 (collect (.ref a)) Q2 E s := fun Q2 h => thn hC fun acc s1 q => h acc s1 q.1 q.2
  wp_walk using wpAny_typeOf hTI, hC'
  intro acc s1 hz hq
  show wpAny _ _ (Builtin.Tuple.tupleExact acc.toArray >>= fun v => ret v) _ _ _
  unfold Builtin.Tuple.tupleExact
  refine wpAny_bind (wpAny_newObj_type ?_ (by show acc.toArray.size ≤ sizeLine; rw [List.size_toArray]; exact hz))
  exact wpAny_pure hq

/-- a made generator, asleep ahead of its first turn; S: the consumer's own object -/
theorem made_wait {pins : List (Addr × Obj)} {σ : L2.St} {tg iter elt : Expr} {scope : Scope} {gpos : Pos} {J : It} {H2 : Hp} {it : Addr} {fp : List Addr} {tn : Nat → Heap → Prop} {code : Value} {a S : Addr} {go oS : Obj} {gi : Nat} {s4 s5 s6 : Shared} {A : Around} {own : List (Str × Nat)} {g : TG} {te : TE}
    {n₀ : Nat} {Gh : Nat → Shared → List V → Prop} {W : Nat → List V → Hp → Prop} {Yd : Nat → List V → V → Hp → Prop} {Ct : Nat → List V → V → Prop} {Po : Nat → List V → V → Hp → Prop}
    (M : Made X pins σ tg iter elt scope gpos J H2 it fp tn code a go gi s4 s5) (ok : GSc X.N X.env.scope scope own) (hN : X.N.Nodup) (hd : A.handled = none) (hfr : A.frames = some X.stack)
    (hg : PG (gcx X A s4 H2 scope code fp) tg g) (he : PE (gcx X A s4 H2 scope code fp) elt te)
    (P : Turns ⟨X, A, s4, H2, scope, code, fp, a, go, gi, S, wipe σ (own.map (·.2))⟩ J g te (own.map (·.2)) n₀ W Yd Ct Po)
    (ho : s6.os = s5.os) (hgen : s6.gens = s5.gens) (hk : ∀ b o, s5.heap.get? b = some o → s6.heap.get? b = some o) (hS : s6.heap.get? S = some oS) (hSc : ∀ v, oS.data ≠ .cell v) (hSl : s4.heap.objs.size < S)
    (hgh : Gh 0 (s6.setGen gi .running) []) (w0 : W 0 [] H2) :
    GD.Wait ⟨X, A, s4, H2, scope, code, fp, a, go, gi, S, wipe σ (own.map (·.2))⟩ tn n₀ Gh W Yd Ct (n₀ + 1) s6 := by
  have I5 : Inv (gcx X A s4 H2 scope code fp) [] (wipe σ (own.map (·.2))) H2 s6 := by
    obtain ⟨m, hns⟩ := M.ns
    exact gen_start (A := A) M.inv ok hN hd hfr M.fps (hns.keeps hk) (fun b o e => hk _ _ (M.keep b o e)) (ho.trans M.os) (by rw [hgen]; exact M.bare)
  have young : ∀ b, s4.heap.objs.size < b → H2 b = none ∧ b ≠ s4.heap.objs.size ∧ b ∉ frs X.stack := fun b hb => by
    refine ⟨M.inv.hok.fresh (Nat.le_of_lt hb), Nat.ne_of_gt hb, fun z => ?_⟩
    rcases List.mem_cons.mp (M.inv.stkSub b z) with z | z
    · have := M.inv.lt
      rw [← z] at this
      exact absurd (Nat.lt_trans hb this) (Nat.lt_irrefl _)
    · exact M.inv.nofs (Nat.le_of_lt hb) z
  let G : GD := ⟨X, A, s4, H2, scope, code, fp, a, go, gi, S, wipe σ (own.map (·.2))⟩
  have at5 : G.at H2 s6 := by
    refine ⟨oS, hSc, I5.pins_of fun p hp => ?_⟩
    rcases List.mem_cons.mp hp with z | z
    · rw [z]
      obtain ⟨y1, y2, y3⟩ := young a M.lt
      exact ⟨hk _ _ M.ga, y1, y2, y3, M.cellG⟩
    · rw [List.mem_singleton.mp z]
      obtain ⟨y1, y2, y3⟩ := young S hSl
      exact ⟨hS, y1, y2, y3, hSc⟩
  have g6 : s6.gens[gi]? = some (.fresh (.compStart (.GeneratorExp elt [⟨tg, iter, [], 0⟩] scope gpos) 0 (.ref it) .none (gEnv X scope s4.heap.objs.size code))) := by
    rw [hgen]
    exact M.gens
  refine ⟨hk _ _ M.ga, M.inv.nolimit.keeps fun b o e => hk _ _ (M.keep b o e), _, g6, rfl, ?_⟩
  exact seg_first (G := G) (J := J) (own := own) (ys := []) M.turn hg he ok.co (fun b hb => (M.fps b hb).2) (fun b hb => ⟨Nat.ne_of_lt (Nat.lt_trans (M.fps b hb).2 M.lt), Nat.ne_of_lt (Nat.lt_trans (M.fps b hb).2 hSl)⟩) (Nat.le_of_lt hSl) (wipe_twice _ _) P hgh
      (at5.woken (Nat.le_of_lt hSl) ⟨rfl, bare_set (by rw [hgen]; exact M.bare) rfl, fun b o _ e => e, hk _ _ M.ga, ⟨oS, hS, hSc⟩⟩) (M.turn.keep _ _ _ M.tn0 fun b _ o e => hk b o e) (fun b hb => (M.fps b hb).1.1) w0

/-- tuple(elt for tg in iter) -/
theorem pe_genTup {T : List (Addr × Str)} {c P : Addr} {own : List (Str × Nat)} {tg iter elt : Expr} {scope : Scope} {gpos p pos : Pos} {wi : TI} {g : TG} {te : TE} {k : Nat}
    (hr : Room (k + 1) X.A) (hgl : Gl X "tuple") (hm : X.mg "tuple" = none) (hN : X.N.Nodup) (TB : TabB X.base X.mg c P) (hcode : X.env.code = .ref c) (hmT : (P, X.env.qual ++ "<genexpr>") ∈ T) (hu : ∀ p ∈ T, p.1 = P → p.2 = X.env.qual ++ "<genexpr>")
    (hi : PI X tg iter wi) (ok : GSc X.N X.env.scope scope own)
    (hg : ∀ (A : Around) (s : Shared) (H : Hp) (code : Value) (ex : List Addr), PG (gcx X A s H scope code ex) tg g) (he : ∀ (A : Around) (s : Shared) (H : Hp) (code : Value) (ex : List Addr), Room k (gcx X A s H scope code ex).A → PE (gcx X A s H scope code ex) elt te)
    (hs : ∀ v, genFold iter X.env v = pure v := by intro _; rfl)
    (hst : starEach [.GeneratorExp elt [⟨tg, iter, [], 0⟩] scope gpos] X.env = (false, eval (.GeneratorExp elt [⟨tg, iter, [], 0⟩] scope gpos) X.env) :: starEach [] X.env := by rfl) :
    PE X (.Call (.Name "tuple" p) [.GeneratorExp elt [⟨tg, iter, [], 0⟩] scope gpos] [] pos) (tGenTup T wi g te (own.map (·.2))) := by
  refine ⟨fun pins s σ H Q I h => ?_⟩
  refine wpAny_Call_Name_kw (ld_blt I hgl hm (by decide +kernel : bootBuiltins "tuple" = some (.type "tuple")) ?_)
  refine (PyProof.Rows.callWith_type1 ?_ hst (by rfl))
  rw [hst]
  show wpAny _ _ (spliced ((false, eval (Expr.GeneratorExp elt [⟨tg, iter, [], 0⟩] scope gpos) X.env) :: backTo pos (starEach [] X.env))) _ _ s
  refine Calls.spliced_cons (gen_make I hi ok TB hcode hmT hu hr.depth hs h fun J H1 H2 it fp tn code a go gi s4 s5 hR hE hT hno M => ?_)
  refine Calls.spliced_nil ?_
  obtain ⟨n₀, W, hz, w0, step, stop⟩ := hR H2 hE hT hno
  let G : GD := ⟨X, X.A.in1.in1.in1.in1, s4, H2, scope, code, fp, a, go, gi, s5.heap.objs.size, wipe σ (own.map (·.2))⟩
  have P0 : Turns G J g te (own.map (·.2)) n₀ W yesYd yesCt (fun i ys y H => W (i + 1) (ys ++ [y]) H) :=
    ⟨fun i ys H hi hw => step i ys H hi hw, fun i ys y H hi hp => ⟨trivial, fun _ => hp⟩, fun ys H hw => (stop ys H hw).1⟩
  refine callType_codes (Q₁ := fun obj s₁ => s₁.TypeIs obj "tuple" ∧ EP X pins σ Q obj s₁) F.called_tuple (F.typeCall_tuple_1 (a := _)) F.entry_object_init
    (code_tup_new (A := X.A.in1) ((M.isG _ M.ga).typeIs) (collect_gen (G := G) (A := X.A.in1.in1) (tn := tn) (W := W) (n₀ := n₀) rfl hr.hd hr.depth rfl (Nat.le_of_lt (Nat.lt_trans M.lt M.ltS)) (Nat.ne_of_gt M.ltS) hz M.isG M.ga (fun s' c ho hge hk hS => ?_) (fun ys acc H' s1 s2 rvs hl hat hw ho hb hk => ?_))) fun obj s₁ h₁ => ?_
  · exact made_wait M ok hN hr.hd M.inv.ok.frames (hg _ _ _ _ _) (he _ _ _ _ _ (room_gen hr _)) P0 ho hge hk hS lst_cell (Nat.lt_trans M.lt M.ltS) ⟨rfl, _, _, hS, .nil⟩ w0
  · obtain ⟨oS, hc, J'⟩ := hat
    have I2 : Inv X pins σ H' s2 := gen_back M.inv J' (fun b hb => (M.fps b hb).1) ho hk hb
    have ln : acc.length ≤ sizeLine := by
      have e := rvs.length
      omega
    have hfr := I2.hok.fresh (Nat.le_refl _)
    refine ⟨ln, ⟨_, Heap.get?_push_size _ rfl, rfl⟩, .ref s2.heap.objs.size, upd H' s2.heap.objs.size (.tup ys), ?_, rfl, (stop ys H' hw).2 _ hfr⟩
    refine I2.laid (a := s2.heap.objs.size) (fun b u e => Heap.get?_push_of_some _ e) (Nat.le_refl _) ⟨by omega, acc, rvs, ?_⟩
    exact ⟨_, Heap.get?_push_size _ rfl, rfl, 0, rfl⟩
  · exact ⟨h₁.1, F.args_object_init_2 obj _, object_init_meets F.called_tuple.init.lookup F.called_tuple.made (by decide) X.prog X.w X.A.in1 _ s₁ ⟨h₁.1, rfl, h₁.2⟩⟩
end
end GX

-- text Com
set_option maxRecDepth 100000
set_option maxHeartbeats 4000000
/-! Com: how heaps grow, what a raise hands on, short words. -/
namespace GX
open PySem PySem.Spec PyProof.Rows L2 LamX
/-- neither a table nor a thing told by a property -/
def PlainO : HO → Prop
  | .tbl _ => False
  | .ext _ => False
  | _ => True
/-- H' holds all that H held (the tables may have grown) -/
structure Le (T : List (Addr × Str)) (H H' : Hp) : Prop where
  ext : ExtN H H'
  tab : Tabs T H'
  no : ∀ b, H' b = none → H b = none
section
variable {T : List (Addr × Str)} {H H1 H2 : Hp} {a p : Addr} {o : HO}
theorem Le.refl (t : Tabs T H) : Le T H H := ⟨ExtN.refl H, t, fun _ z => z⟩
theorem Le.trans (x : Le T H H1) (y : Le T H1 H2) : Le T H H2 := ⟨x.ext.trans y.ext, y.tab, fun b z => x.no b (y.no b z)⟩
theorem Le.at (x : Le T H H1) (h : H a = some o) (n : PlainO o := by trivial) : H1 a = some o := x.ext a o h fun ps z => by rw [z] at n; exact n
theorem Le.seqL {K : PySem.W.Frag} {xs : List V} (x : Le T H H1) (h : SqL K H a xs) : SqL K H1 a xs := by
  rcases h with (h | ⟨o, h⟩) | h
  · exact .inl (.inl (x.at h))
  · exact .inl (.inr ⟨o, x.at h⟩)
  · exact .inr h
theorem Le.seqT {K : PySem.W.Frag} {xs : List V} (x : Le T H H1) (h : SqT K H a xs) : SqT K H1 a xs := by
  rcases h with (h | ⟨o, h⟩) | h
  · exact .inl (.inl (x.at h))
  · exact .inl (.inr ⟨o, x.at h⟩)
  · exact .inr h
theorem tabs_upd (t : Tabs T H) (hm : ∀ u, H p = some u → PlainO u) : Tabs T (upd H p o) := fun q hq => by
  obtain ⟨ps, h1, h2, h3⟩ := t q hq
  have n1 : q.1 ≠ p := fun z => by
    have := hm _ (by rw [← z]; exact h1)
    exact this
  refine ⟨ps, by rw [upd_ne n1]; exact h1, h2, fun pos cv hc => ?_⟩
  obtain ⟨c, e1, e2⟩ := h3 pos cv hc
  have n2 : c ≠ p := fun z => by
    have := hm _ (by rw [← z]; exact e2)
    exact this
  exact ⟨c, e1, by rw [upd_ne n2]; exact e2⟩
/-- an object that H does not hold is laid, or changed -/
theorem Le.upd (x : Le T H H1) (hp : H p = none) (hm : ∀ u, H1 p = some u → PlainO u) : Le T H (upd H1 p o) := by
  refine ⟨fun b u e n => ?_, tabs_upd x.tab hm, fun b z => x.no b (upd_none2 z)⟩
  have nb : b ≠ p := ne_of_none e hp
  rw [upd_ne nb]
  exact x.ext b u e n
theorem Le.new (x : Le T H H1) (hp : H1 p = none) : Le T H (L2.upd H1 p o) := x.upd (x.no p hp) fun u e => by rw [hp] at e; cases e
theorem Le.set (x : Le T H H1) (hp : H p = none) {u : HO} (h1 : H1 p = some u) (hu : PlainO u := by trivial) : Le T H (L2.upd H1 p o) := x.upd hp fun v e => by rw [h1] at e; cases e; exact hu
theorem Le.dp {K : PySem.W.Frag} (x : Le T H H1) : ∀ {v : V} {d : PyData}, Dp K H v d → Dp K H1 v d
  | _, _, .non => .non
  | _, _, .bl b => .bl b
  | _, _, .int i => .int i
  | _, _, .str s => .str s
  | _, _, .lst h ds => .lst (x.seqL h) (dps x ds)
  | _, _, .tup h ds => .tup (x.seqT h) (dps x ds)
where dps {K : PySem.W.Frag} (x : Le T H H1) : ∀ {vs : List V} {ds : List PyData}, DpAll K H vs ds → DpAll K H1 vs ds
  | _, _, .nil => .nil
  | _, _, .cons a b => .cons (x.dp a) (dps x b)
end
theorem DpAll.strs {K : PySem.W.Frag} {H : Hp} : ∀ xs : List Str, DpAll K H (xs.map V.str) (xs.map PyData.str)
  | [] => .nil
  | x :: r => .cons (.str x) (DpAll.strs r)
theorem DpAll.ints {K : PySem.W.Frag} {H : Hp} : ∀ xs : List Int, DpAll K H (xs.map V.int) (xs.map PyData.int)
  | [] => .nil
  | x :: r => .cons (.int x) (DpAll.ints r)

/-- a callee that may raise, called where it does not -/
theorem passE0 {X : Cx} {P : Program} {w : World} : Passes (L2.CX P w) X E0 := fun _ _ _ _ _ _ _ ⟨_, _, _, _, _, _, _, _, _, _, _, _, z⟩ => z.elim
abbrev XA (P : Program) (w : World) (K : PySem.W.Frag) (mg : Str → Option Value) (base : Heap) (N : List Str) (qual : Str) (scope : Scope) (f : Addr) (cd : Value) (A : Around) (outer : List Env) (s : Shared) (H : Hp) (E : XK) : Cx := cxOf (L2.CX P w) P w K mg base N qual scope f cd A outer s H E
theorem takesA {P : Program} {w : World} {K : PySem.W.Frag} {mg : Str → Option Value} {base : Heap} {N : List Str} {qual : Str} {scope : Scope} {f : Addr} {cd : Value} {A : Around} {outer : List Env} {s : Shared} {H : Hp} {E : XK} :
    Takes (XA P w K mg base N qual scope f cd A outer s H E) (fun cls d _ H => E cls d H) := takes_of rfl rfl rfl rfl
/-- what a def lets out its caller lets out -/
theorem passA {P : Program} {w : World} {K : PySem.W.Frag} {mg : Str → Option Value} {base : Heap} {N : List Str} {qual : Str} {scope : Scope} {f : Addr} {cd : Value} {A : Around} {outer : List Env} {s : Shared} {H : Hp} {E : XK} :
    Passes (L2.CX P w) (XA P w K mg base N qual scope f cd A outer s H E) E := passes_call takesA fun _ _ _ _ h => h
theorem ownsA {P : Program} {w : World} {K : PySem.W.Frag} {mg : Str → Option Value} {base : Heap} {N : List Str} {qual : Str} {scope : Scope} {f : Addr} {cd : Value} {A : Around} {outer : List Env} {s : Shared} {H : Hp} {E : XK} :
    PassesOwn (model P w) (XA P w K mg base N qual scope f cd A outer s H E).A (XA P w K mg base N qual scope f cd A outer s H E).env (XA P w K mg base N qual scope f cd A outer s H E).xe :=
  passes_of (X := XA P w K mg base N qual scope f cd A outer s H E) (K := fun e s'' => L2.CX P w outer H s E e s'') (E₁ := fun e' s'' => L2.CX P w outer H s E e' s'') rfl
/-- the text of these codes -/
def S (l : List Nat) : Str := ⟨l.toArray⟩
theorem S_cps (l : List Nat) : (S l).cps.toList = l := by simp [S]
theorem S_inj {a b : List Nat} (h : S a = S b) : a = b := by
  have := congrArg (fun z : Str => z.cps.toList) h
  simpa [S] using this
theorem S_eq (z : Str) : S z.cps.toList = z := by
  obtain ⟨c⟩ := z
  simp [S]
theorem S_len (l : List Nat) : (S l).length = l.length := by
  show (S l).cps.size = _
  simp [S]
end GX

-- text K2Base
set_option maxRecDepth 100000
set_option maxHeartbeats 4000000
namespace K2
open PySem PySem.Spec PyProof.Rows L2 LamX GX
theorem nodup_addr {l : List Addr} (hN : l.Nodup) {i j : Nat} {x : Addr} (a : l[i]? = some x) (b : l[j]? = some x) : i = j := by
  obtain ⟨h1, e1⟩ := List.getElem?_eq_some_iff.mp a
  obtain ⟨h2, e2⟩ := List.getElem?_eq_some_iff.mp b
  exact (List.getElem_inj hN).mp (e1.trans e2.symm)
def top (i : Nat) : Stmt := PySem.Challenge.pw_signalstack_k02_towers_that_see.main.body.getD i (.Pass ⟨0, 0, 0, 0⟩)
abbrev s_Land_init : Stmt := inClass (top 6) 0
abbrev n_Land_init : List Str := (["self", "rows", "row", "height"] : List Str)
abbrev p_Land_init : List Str := (["self", "rows"] : List Str)
theorem sc_Land_init : FnScope n_Land_init p_Land_init (defScope s_Land_init) := ⟨rfl, rfl, rfl, by decide +kernel, rfl, by decide +kernel, by decide +kernel⟩
/- slots of Land_init: 0 self, 1 rows, 2 row, 3 height -/
abbrev s_Land_height : Stmt := inClass (top 6) 1
abbrev n_Land_height : List Str := (["self", "x", "y"] : List Str)
abbrev p_Land_height : List Str := (["self", "x", "y"] : List Str)
theorem sc_Land_height : FnScope n_Land_height p_Land_height (defScope s_Land_height) := ⟨rfl, rfl, rfl, by decide +kernel, rfl, by decide +kernel, by decide +kernel⟩
/- slots of Land_height: 0 self, 1 x, 2 y -/
abbrev s_Land_sees : Stmt := inClass (top 6) 2
abbrev n_Land_sees : List Str := (["self", "one", "other", "top", "end", "wide", "high", "steps", "step", "x", "y"] : List Str)
abbrev p_Land_sees : List Str := (["self", "one", "other"] : List Str)
theorem sc_Land_sees : FnScope n_Land_sees p_Land_sees (defScope s_Land_sees) := ⟨rfl, rfl, rfl, by decide +kernel, rfl, by decide +kernel, by decide +kernel⟩
/- slots of Land_sees: 0 self, 1 one, 2 other, 3 top, 4 end, 5 wide, 6 high, 7 steps, 8 step, 9 x, 10 y -/
abbrev s_Land_seen_from : Stmt := inClass (top 6) 3
abbrev n_Land_seen_from : List Str := (["self", "one", "found", "y", "x"] : List Str)
abbrev p_Land_seen_from : List Str := (["self", "one"] : List Str)
theorem sc_Land_seen_from : FnScope n_Land_seen_from p_Land_seen_from (defScope s_Land_seen_from) := ⟨rfl, rfl, rfl, by decide +kernel, rfl, by decide +kernel, by decide +kernel⟩
/- slots of Land_seen_from: 0 self, 1 one, 2 found, 3 y, 4 x -/
abbrev s_Land_needed : Stmt := inClass (top 6) 4
abbrev n_Land_needed : List Str := (["self", "x", "y", "other", "most", "height"] : List Str)
abbrev p_Land_needed : List Str := (["self", "x", "y", "other", "most"] : List Str)
theorem sc_Land_needed : FnScope n_Land_needed p_Land_needed (defScope s_Land_needed) := ⟨rfl, rfl, rfl, by decide +kernel, rfl, by decide +kernel, by decide +kernel⟩
/- slots of Land_needed: 0 self, 1 x, 2 y, 3 other, 4 most, 5 height -/
abbrev s_between : Stmt := top 7
abbrev n_between : List Str := (["one", "wide", "high", "step", "steps", "x", "y", "far"] : List Str)
abbrev p_between : List Str := (["one", "wide", "high", "step", "steps"] : List Str)
theorem sc_between : FnScope n_between p_between (defScope s_between) := ⟨rfl, rfl, rfl, by decide +kernel, rfl, by decide +kernel, by decide +kernel⟩
/- slots of between: 0 one, 1 wide, 2 high, 3 step, 4 steps, 5 x, 6 y, 7 far -/
abbrev s_nearest : Stmt := top 8
abbrev n_nearest : List Str := (["number", "parts", "low"] : List Str)
abbrev p_nearest : List Str := (["number", "parts"] : List Str)
theorem sc_nearest : FnScope n_nearest p_nearest (defScope s_nearest) := ⟨rfl, rfl, rfl, by decide +kernel, rfl, by decide +kernel, by decide +kernel⟩
/- slots of nearest: 0 number, 1 parts, 2 low -/
abbrev s_Net_init : Stmt := inClass (top 9) 0
abbrev n_Net_init : List Str := (["self", "land"] : List Str)
abbrev p_Net_init : List Str := (["self", "land"] : List Str)
theorem sc_Net_init : FnScope n_Net_init p_Net_init (defScope s_Net_init) := ⟨rfl, rfl, rfl, by decide +kernel, rfl, by decide +kernel, by decide +kernel⟩
/- slots of Net_init: 0 self, 1 land -/
abbrev s_Net_build : Stmt := inClass (top 9) 1
abbrev n_Net_build : List Str := (["self", "name", "x", "y", "height", "one"] : List Str)
abbrev p_Net_build : List Str := (["self", "name", "x", "y", "height"] : List Str)
theorem sc_Net_build : FnScope n_Net_build p_Net_build (defScope s_Net_build) := ⟨rfl, rfl, rfl, by decide +kernel, rfl, by decide +kernel, by decide +kernel⟩
/- slots of Net_build: 0 self, 1 name, 2 x, 3 y, 4 height, 5 one -/
abbrev s_Net_tower : Stmt := inClass (top 9) 2
abbrev n_Net_tower : List Str := (["self", "name"] : List Str)
abbrev p_Net_tower : List Str := (["self", "name"] : List Str)
theorem sc_Net_tower : FnScope n_Net_tower p_Net_tower (defScope s_Net_tower) := ⟨rfl, rfl, rfl, by decide +kernel, rfl, by decide +kernel, by decide +kernel⟩
/- slots of Net_tower: 0 self, 1 name -/
abbrev s_Net_all_links : Stmt := inClass (top 9) 3
abbrev n_Net_all_links : List Str := (["self", "names", "found", "place", "one", "other", "x", "y", "height", "a", "b", "more"] : List Str)
abbrev p_Net_all_links : List Str := (["self"] : List Str)
theorem sc_Net_all_links : FnScope n_Net_all_links p_Net_all_links (defScope s_Net_all_links) := ⟨rfl, rfl, rfl, by decide +kernel, rfl, by decide +kernel, by decide +kernel⟩
/- slots of Net_all_links: 0 self, 1 names, 2 found, 3 place, 4 one, 5 other, 6 x, 7 y, 8 height, 9 a, 10 b, 11 more -/
abbrev s_Net_groups : Stmt := inClass (top 9) 4
abbrev n_Net_groups : List Str := (["self"] : List Str)
abbrev p_Net_groups : List Str := (["self"] : List Str)
theorem sc_Net_groups : FnScope n_Net_groups p_Net_groups (defScope s_Net_groups) := ⟨rfl, rfl, rfl, by decide +kernel, rfl, by decide +kernel, by decide +kernel⟩
/- slots of Net_groups: 0 self -/
abbrev s_Net_cheapest : Stmt := inClass (top 9) 5
abbrev n_Net_cheapest : List Str := (["self", "found", "one", "other", "far", "rows", "row"] : List Str)
abbrev p_Net_cheapest : List Str := (["self"] : List Str)
theorem sc_Net_cheapest : FnScope n_Net_cheapest p_Net_cheapest (defScope s_Net_cheapest) := ⟨rfl, rfl, rfl, by decide +kernel, rfl, by decide +kernel, by decide +kernel⟩
/- slots of Net_cheapest: 0 self, 1 found, 2 one, 3 other, 4 far, 5 rows, 6 row -/
abbrev s_Net_weak : Stmt := inClass (top 9) 6
abbrev n_Net_weak : List Str := (["self", "found", "whole", "name", "row", "group", "rest", "one", "link"] : List Str)
abbrev p_Net_weak : List Str := (["self"] : List Str)
theorem sc_Net_weak : FnScope n_Net_weak p_Net_weak (defScope s_Net_weak) := ⟨rfl, rfl, rfl, by decide +kernel, rfl, by decide +kernel, by decide +kernel⟩
/- slots of Net_weak: 0 self, 1 found, 2 whole, 3 name, 4 row, 5 group, 6 rest, 7 one, 8 link -/
abbrev s_link_key : Stmt := top 10
abbrev n_link_key : List Str := (["link"] : List Str)
abbrev p_link_key : List Str := (["link"] : List Str)
theorem sc_link_key : FnScope n_link_key p_link_key (defScope s_link_key) := ⟨rfl, rfl, rfl, by decide +kernel, rfl, by decide +kernel, by decide +kernel⟩
/- slots of link_key: 0 link -/
abbrev s_joined_rows : Stmt := top 11
abbrev n_joined_rows : List Str := (["names", "links", "left", "found", "row", "edge", "here", "one", "other", "far"] : List Str)
abbrev p_joined_rows : List Str := (["names", "links"] : List Str)
theorem sc_joined_rows : FnScope n_joined_rows p_joined_rows (defScope s_joined_rows) := ⟨rfl, rfl, rfl, by decide +kernel, rfl, by decide +kernel, by decide +kernel⟩
/- slots of joined_rows: 0 names, 1 links, 2 left, 3 found, 4 row, 5 edge, 6 here, 7 one, 8 other, 9 far -/
abbrev s_l_dice : Stmt := top 13
abbrev n_l_dice : List Str := (["cell"] : List Str)
abbrev p_l_dice : List Str := (["cell"] : List Str)
theorem sc_l_dice : FnScope n_l_dice p_l_dice (defScope s_l_dice) := ⟨rfl, rfl, rfl, by decide +kernel, rfl, by decide +kernel, by decide +kernel⟩
/- slots of l_dice: 0 cell -/
abbrev s_l_roll : Stmt := top 14
abbrev n_l_roll : List Str := (["dice", "many", "found"] : List Str)
abbrev p_l_roll : List Str := (["dice", "many"] : List Str)
theorem sc_l_roll : FnScope n_l_roll p_l_roll (defScope s_l_roll) := ⟨rfl, rfl, rfl, by decide +kernel, rfl, by decide +kernel, by decide +kernel⟩
/- slots of l_roll: 0 dice, 1 many, 2 found -/
abbrev s_l_rounds : Stmt := top 15
abbrev n_l_rounds : List Str := (["script", "most", "cells", "cell"] : List Str)
abbrev p_l_rounds : List Str := (["script", "most"] : List Str)
theorem sc_l_rounds : FnScope n_l_rounds p_l_rounds (defScope s_l_rounds) := ⟨rfl, rfl, rfl, by decide +kernel, rfl, by decide +kernel, by decide +kernel⟩
/- slots of l_rounds: 0 script, 1 most, 2 cells, 3 cell -/
abbrev s_l_told : Stmt := top 16
abbrev n_l_told : List Str := (["what"] : List Str)
abbrev p_l_told : List Str := (["what"] : List Str)
theorem sc_l_told : FnScope n_l_told p_l_told (defScope s_l_told) := ⟨rfl, rfl, rfl, by decide +kernel, rfl, by decide +kernel, by decide +kernel⟩
/- slots of l_told: 0 what -/
abbrev s_l_sees : Stmt := top 17
abbrev n_l_sees : List Str := (["rows", "one", "other", "top", "end", "wide", "high", "steps", "step", "y", "x", "along"] : List Str) ++ (["on", "off"] : List Str)
abbrev p_l_sees : List Str := (["rows", "one", "other"] : List Str)
theorem sc_l_sees : FnScope n_l_sees p_l_sees (defScope s_l_sees) := ⟨rfl, rfl, rfl, by decide +kernel, rfl, by decide +kernel, by decide +kernel⟩
/- slots of l_sees: 0 rows, 1 one, 2 other, 3 top, 4 end, 5 wide, 6 high, 7 steps, 8 step, 9 y, 10 x, 11 along, 12 on, 13 off -/
abbrev s_l_groups : Stmt := top 18
abbrev n_l_groups : List Str := (["names", "links", "rows", "one", "other", "far", "a", "b", "name", "row"] : List Str)
abbrev p_l_groups : List Str := (["names", "links"] : List Str)
theorem sc_l_groups : FnScope n_l_groups p_l_groups (defScope s_l_groups) := ⟨rfl, rfl, rfl, by decide +kernel, rfl, by decide +kernel, by decide +kernel⟩
/- slots of l_groups: 0 names, 1 links, 2 rows, 3 one, 4 other, 5 far, 6 a, 7 b, 8 name, 9 row -/
abbrev s_l_sets : Stmt := top 19
abbrev n_l_sets : List Str := (["links", "found", "link", "row"] : List Str)
abbrev p_l_sets : List Str := (["links"] : List Str)
theorem sc_l_sets : FnScope n_l_sets p_l_sets (defScope s_l_sets) := ⟨rfl, rfl, rfl, by decide +kernel, rfl, by decide +kernel, by decide +kernel⟩
/- slots of l_sets: 0 links, 1 found, 2 link, 3 row -/
abbrev s_l_net : Stmt := top 20
abbrev n_l_net : List Str := (["dice", "rows", "net", "wide", "high", "own", "step", "name", "x", "y", "height", "good"] : List Str) ++ (["names", "links", "k", "one", "other", "far", "groups", "cheap", "weak", "rest", "parts", "mine"] : List Str) ++ (["sums", "number", "offs", "link", "group", "part", "row", "off"] : List Str)
abbrev p_l_net : List Str := (["dice", "rows", "net"] : List Str)
theorem sc_l_net : FnScope n_l_net p_l_net (defScope s_l_net) := ⟨rfl, rfl, rfl, by decide +kernel, rfl, by decide +kernel, by decide +kernel⟩
/- slots of l_net: 0 dice, 1 rows, 2 net, 3 wide, 4 high, 5 own, 6 step, 7 name, 8 x, 9 y, 10 height, 11 good, 12 names, 13 links, 14 k, 15 one, 16 other, 17 far, 18 groups, 19 cheap, 20 weak, 21 rest, 22 parts, 23 mine, 24 sums, 25 number, 26 offs, 27 link, 28 group, 29 part, 30 row, 31 off -/
abbrev s_law : Stmt := top 21
abbrev n_law : List Str := (["script", "dice", "wide", "high", "top", "rows", "land", "net", "k", "one", "other", "most"] : List Str) ++ (["fits", "seen", "y", "bad", "x", "height", "f"] : List Str)
abbrev p_law : List Str := (["script"] : List Str)
theorem sc_law : FnScope n_law p_law (defScope s_law) := ⟨rfl, rfl, rfl, by decide +kernel, rfl, by decide +kernel, by decide +kernel⟩
/- slots of law: 0 script, 1 dice, 2 wide, 3 high, 4 top, 5 rows, 6 land, 7 net, 8 k, 9 one, 10 other, 11 most, 12 fits, 13 seen, 14 y, 15 bad, 16 x, 17 height, 18 f -/
open He in
def fn : List DefD := [
  ⟨("Land", some "__init__"), "__init__", "Land.__init__", defArgs s_Land_init, defBody s_Land_init, defScope s_Land_init, [], []⟩,
  ⟨("Land", some "height"), "height", "Land.height", defArgs s_Land_height, defBody s_Land_height, defScope s_Land_height, [], []⟩,
  ⟨("Land", some "sees"), "sees", "Land.sees", defArgs s_Land_sees, defBody s_Land_sees, defScope s_Land_sees, [], []⟩,
  ⟨("Land", some "seen_from"), "seen_from", "Land.seen_from", defArgs s_Land_seen_from, defBody s_Land_seen_from, defScope s_Land_seen_from, [], []⟩,
  ⟨("Land", some "needed"), "needed", "Land.needed", defArgs s_Land_needed, defBody s_Land_needed, defScope s_Land_needed, [], []⟩,
  ⟨("between", none), "between", "between", defArgs s_between, defBody s_between, defScope s_between, [], []⟩,
  ⟨("nearest", none), "nearest", "nearest", defArgs s_nearest, defBody s_nearest, defScope s_nearest, [], []⟩,
  ⟨("Net", some "__init__"), "__init__", "Net.__init__", defArgs s_Net_init, defBody s_Net_init, defScope s_Net_init, [], []⟩,
  ⟨("Net", some "build"), "build", "Net.build", defArgs s_Net_build, defBody s_Net_build, defScope s_Net_build, [], []⟩,
  ⟨("Net", some "tower"), "tower", "Net.tower", defArgs s_Net_tower, defBody s_Net_tower, defScope s_Net_tower, [], []⟩,
  ⟨("Net", some "all_links"), "all_links", "Net.all_links", defArgs s_Net_all_links, defBody s_Net_all_links, defScope s_Net_all_links, [], []⟩,
  ⟨("Net", some "groups"), "groups", "Net.groups", defArgs s_Net_groups, defBody s_Net_groups, defScope s_Net_groups, [], []⟩,
  ⟨("Net", some "cheapest"), "cheapest", "Net.cheapest", defArgs s_Net_cheapest, defBody s_Net_cheapest, defScope s_Net_cheapest, [], []⟩,
  ⟨("Net", some "weak"), "weak", "Net.weak", defArgs s_Net_weak, defBody s_Net_weak, defScope s_Net_weak, [], []⟩,
  ⟨("link_key", none), "link_key", "link_key", defArgs s_link_key, defBody s_link_key, defScope s_link_key, [], []⟩,
  ⟨("joined_rows", none), "joined_rows", "joined_rows", defArgs s_joined_rows, defBody s_joined_rows, defScope s_joined_rows, [], []⟩,
  ⟨("_law_dice", none), "_law_dice", "_law_dice", defArgs s_l_dice, defBody s_l_dice, defScope s_l_dice, [], []⟩,
  ⟨("_law_roll", none), "_law_roll", "_law_roll", defArgs s_l_roll, defBody s_l_roll, defScope s_l_roll, [], []⟩,
  ⟨("_law_rounds", none), "_law_rounds", "_law_rounds", defArgs s_l_rounds, defBody s_l_rounds, defScope s_l_rounds, [], []⟩,
  ⟨("_law_told", none), "_law_told", "_law_told", defArgs s_l_told, defBody s_l_told, defScope s_l_told, [], []⟩,
  ⟨("_law_sees", none), "_law_sees", "_law_sees", defArgs s_l_sees, defBody s_l_sees, defScope s_l_sees, [], []⟩,
  ⟨("_law_groups", none), "_law_groups", "_law_groups", defArgs s_l_groups, defBody s_l_groups, defScope s_l_groups, [], []⟩,
  ⟨("_law_sets", none), "_law_sets", "_law_sets", defArgs s_l_sets, defBody s_l_sets, defScope s_l_sets, [], []⟩,
  ⟨("_law_net", none), "_law_net", "_law_net", defArgs s_l_net, defBody s_l_net, defScope s_l_net, [], []⟩,
  ⟨("law", none), "law", "law", defArgs s_law, defBody s_law, defScope s_law, [], []⟩]
open He in
def fa : List Fa := [
  .glo "between",
  .glo "nearest",
  .glo "link_key",
  .glo "joined_rows",
  .glo "_law_dice",
  .glo "_law_roll",
  .glo "_law_rounds",
  .glo "_law_told",
  .glo "_law_sees",
  .glo "_law_groups",
  .glo "_law_sets",
  .glo "_law_net",
  .glo "law",
  .glo "Land",
  .cls "Land",
  .mkr "Land",
  .meth "Land" "height",
  .meth "Land" "sees",
  .meth "Land" "seen_from",
  .meth "Land" "needed",
  .noat "Land" "rows",
  .glo "Net",
  .cls "Net",
  .mkr "Net",
  .meth "Net" "build",
  .meth "Net" "tower",
  .meth "Net" "all_links",
  .meth "Net" "groups",
  .meth "Net" "cheapest",
  .meth "Net" "weak",
  .noat "Net" "land",
  .noat "Net" "towers",
  .glo "SignalError",
  .exc "SignalError",
  .exm "SignalError" "SignalError" true,
  .exm "SignalError" "TowerError" false,
  .glo "TowerError",
  .exc "TowerError",
  .exm "TowerError" "SignalError" true,
  .exm "TowerError" "TowerError" true,
  .int "MOST_SIDE" 20,
  .int "MOST_TOWERS" 30,
  .free "abs",
  .free "any",
  .free "dict",
  .free "enumerate",
  .free "int",
  .free "len",
  .free "list",
  .free "max",
  .free "min",
  .free "range",
  .free "sorted",
  .free "str",
  .free "sum",
  .free "tuple"]
/-- the defs that make code objects: where they stand, the name of what they make -/
def tq : List (He.Defn × Str) := [(("Land", some "__init__"), ("Land.__init__" : Str) ++ ".<locals>." ++ "<genexpr>"),
  (("between", none), ("between" : Str) ++ ".<locals>." ++ "<genexpr>"),
  (("Net", some "build"), ("Net.build" : Str) ++ ".<locals>." ++ "<genexpr>"),
  (("Net", some "cheapest"), ("Net.cheapest" : Str) ++ ".<locals>." ++ "<genexpr>"),
  (("_law_net", none), ("_law_net" : Str) ++ ".<locals>." ++ "<lambda>"),
  (("law", none), ("law" : Str) ++ ".<locals>." ++ "<lambda>")]
def tf : List He.Defn := tq.map (·.1)
def T (K : PySem.W.Frag) : List (Addr × Str) := tq.map fun p => ((He.cT K p.1).2, p.2)
def ex (K : PySem.W.Frag) : Bool := decide ((tf.map fun p => (He.cT K p).2).Nodup)
theorem T_mem {K : PySem.W.Frag} (i : Nat) {p : He.Defn} {q : Str} (h : tq[i]? = some (p, q) := by rfl) : ((He.cT K p).2, q) ∈ T K := List.mem_map.mpr ⟨(p, q), List.mem_of_getElem? h, rfl⟩
theorem tf_mem (i : Nat) {p : He.Defn} {q : Str} (h : tq[i]? = some (p, q) := by rfl) : p ∈ tf := List.mem_map.mpr ⟨(p, q), List.mem_of_getElem? h, rfl⟩
theorem T_uniq {K : PySem.W.Frag} (hx : ex K = true) (i : Nat) {p : He.Defn} {q : Str} (h : tq[i]? = some (p, q) := by rfl) : ∀ r ∈ T K, r.1 = (He.cT K p).2 → r.2 = q := by
  have nd : (tf.map fun p => (He.cT K p).2).Nodup := of_decide_eq_true hx
  have e : (tf.map fun p => (He.cT K p).2) = (T K).map (·.1) := by
    unfold tf T
    rw [List.map_map, List.map_map]
    rfl
  rw [e] at nd
  intro r hr er
  obtain ⟨j, hj, ej⟩ := List.mem_iff_getElem.mp hr
  have hi : (T K)[i]? = some ((He.cT K p).2, q) := by
    show (tq.map fun p => ((He.cT K p.1).2, p.2))[i]? = _
    rw [List.getElem?_map, h]
    rfl
  have hj2 : (T K)[j]? = some r := by rw [List.getElem?_eq_getElem hj, ej]
  have m1 : ((T K).map (·.1))[i]? = some (He.cT K p).2 := by rw [List.getElem?_map, hi] <;> rfl
  have m2 : ((T K).map (·.1))[j]? = some (He.cT K p).2 := by
    rw [List.getElem?_map, hj2] <;> exact congrArg some er
  have hij : i = j := nodup_addr nd m1 m2
  rw [← hij, hi] at hj2
  exact (congrArg Prod.snd (Option.some.inj hj2)).symm
/-- what is known of the top -/
structure Txt (K : PySem.W.Frag) (mg : Str → Option Value) : Prop where
  m_between : mg "between" = some (.ref (He.ga K "between"))
  m_nearest : mg "nearest" = some (.ref (He.ga K "nearest"))
  m_link_key : mg "link_key" = some (.ref (He.ga K "link_key"))
  m_joined_rows : mg "joined_rows" = some (.ref (He.ga K "joined_rows"))
  m_l_dice : mg "_law_dice" = some (.ref (He.ga K "_law_dice"))
  m_l_roll : mg "_law_roll" = some (.ref (He.ga K "_law_roll"))
  m_l_rounds : mg "_law_rounds" = some (.ref (He.ga K "_law_rounds"))
  m_l_told : mg "_law_told" = some (.ref (He.ga K "_law_told"))
  m_l_sees : mg "_law_sees" = some (.ref (He.ga K "_law_sees"))
  m_l_groups : mg "_law_groups" = some (.ref (He.ga K "_law_groups"))
  m_l_sets : mg "_law_sets" = some (.ref (He.ga K "_law_sets"))
  m_l_net : mg "_law_net" = some (.ref (He.ga K "_law_net"))
  m_law : mg "law" = some (.ref (He.ga K "law"))
  m_Land : mg "Land" = some (.ref (He.ga K "Land"))
  c_Land : Cls K (He.ga K "Land")
  k_Land : Mk K (He.ga K "Land") (He.ma K (He.ga K "Land") "__init__")
  t_Land_height : Meth K (He.ga K "Land") "height" (He.ma K (He.ga K "Land") "height")
  t_Land_sees : Meth K (He.ga K "Land") "sees" (He.ma K (He.ga K "Land") "sees")
  t_Land_seen_from : Meth K (He.ga K "Land") "seen_from" (He.ma K (He.ga K "Land") "seen_from")
  t_Land_needed : Meth K (He.ga K "Land") "needed" (He.ma K (He.ga K "Land") "needed")
  a_Land_rows : NoAttr K (He.ga K "Land") "rows"
  m_Net : mg "Net" = some (.ref (He.ga K "Net"))
  c_Net : Cls K (He.ga K "Net")
  k_Net : Mk K (He.ga K "Net") (He.ma K (He.ga K "Net") "__init__")
  t_Net_build : Meth K (He.ga K "Net") "build" (He.ma K (He.ga K "Net") "build")
  t_Net_tower : Meth K (He.ga K "Net") "tower" (He.ma K (He.ga K "Net") "tower")
  t_Net_all_links : Meth K (He.ga K "Net") "all_links" (He.ma K (He.ga K "Net") "all_links")
  t_Net_groups : Meth K (He.ga K "Net") "groups" (He.ma K (He.ga K "Net") "groups")
  t_Net_cheapest : Meth K (He.ga K "Net") "cheapest" (He.ma K (He.ga K "Net") "cheapest")
  t_Net_weak : Meth K (He.ga K "Net") "weak" (He.ma K (He.ga K "Net") "weak")
  a_Net_land : NoAttr K (He.ga K "Net") "land"
  a_Net_towers : NoAttr K (He.ga K "Net") "towers"
  m_SignalError : mg "SignalError" = some (.ref (He.ga K "SignalError"))
  e_SignalError : PySem.W.excIn K (He.ga K "SignalError") He.veBase "ValueError.__new__" = true ∧ PySem.W.keepIn K (.ref (He.ga K "SignalError")) = true ∧ PySem.W.subIn K (.ref (He.ga K "SignalError")) (.type "BaseException") = some true ∧ PySem.W.typeIn K (.ref (He.ga K "SignalError")) = some (.type "type")
  x_SignalError_SignalError : PySem.W.exmOne K (.ref (He.ga K "SignalError")) (.ref (He.ga K "SignalError")) = some true
  x_SignalError_TowerError : PySem.W.exmOne K (.ref (He.ga K "SignalError")) (.ref (He.ga K "TowerError")) = some false
  m_TowerError : mg "TowerError" = some (.ref (He.ga K "TowerError"))
  e_TowerError : PySem.W.excIn K (He.ga K "TowerError") He.veBase "ValueError.__new__" = true ∧ PySem.W.keepIn K (.ref (He.ga K "TowerError")) = true ∧ PySem.W.subIn K (.ref (He.ga K "TowerError")) (.type "BaseException") = some true ∧ PySem.W.typeIn K (.ref (He.ga K "TowerError")) = some (.type "type")
  x_TowerError_SignalError : PySem.W.exmOne K (.ref (He.ga K "TowerError")) (.ref (He.ga K "SignalError")) = some true
  x_TowerError_TowerError : PySem.W.exmOne K (.ref (He.ga K "TowerError")) (.ref (He.ga K "TowerError")) = some true
  i_MOST_SIDE : ∃ t, mg "MOST_SIDE" = some (.int 20 t)
  i_MOST_TOWERS : ∃ t, mg "MOST_TOWERS" = some (.int 30 t)
  b_abs : mg "abs" = none
  b_any : mg "any" = none
  b_dict : mg "dict" = none
  b_enumerate : mg "enumerate" = none
  b_int : mg "int" = none
  b_len : mg "len" = none
  b_list : mg "list" = none
  b_max : mg "max" = none
  b_min : mg "min" = none
  b_range : mg "range" = none
  b_sorted : mg "sorted" = none
  b_str : mg "str" = none
  b_sum : mg "sum" = none
  b_tuple : mg "tuple" = none
theorem txt_of {K : PySem.W.Frag} {h : Heap} {mg : Str → Option Value} (X : K.In h) (G : h.Ns mainGlobals mg) (c : He.SaysD fa fn K) : Txt K mg where
  m_between := He.glo_ok X G (c.fact 0 rfl)
  m_nearest := He.glo_ok X G (c.fact 1 rfl)
  m_link_key := He.glo_ok X G (c.fact 2 rfl)
  m_joined_rows := He.glo_ok X G (c.fact 3 rfl)
  m_l_dice := He.glo_ok X G (c.fact 4 rfl)
  m_l_roll := He.glo_ok X G (c.fact 5 rfl)
  m_l_rounds := He.glo_ok X G (c.fact 6 rfl)
  m_l_told := He.glo_ok X G (c.fact 7 rfl)
  m_l_sees := He.glo_ok X G (c.fact 8 rfl)
  m_l_groups := He.glo_ok X G (c.fact 9 rfl)
  m_l_sets := He.glo_ok X G (c.fact 10 rfl)
  m_l_net := He.glo_ok X G (c.fact 11 rfl)
  m_law := He.glo_ok X G (c.fact 12 rfl)
  m_Land := He.glo_ok X G (c.fact 13 rfl)
  c_Land := He.cls_ok (c.fact 14 rfl)
  k_Land := He.mkr_ok (c.fact 15 rfl)
  t_Land_height := He.meth_ok (c.fact 16 rfl)
  t_Land_sees := He.meth_ok (c.fact 17 rfl)
  t_Land_seen_from := He.meth_ok (c.fact 18 rfl)
  t_Land_needed := He.meth_ok (c.fact 19 rfl)
  a_Land_rows := He.noat_ok (c.fact 20 rfl)
  m_Net := He.glo_ok X G (c.fact 21 rfl)
  c_Net := He.cls_ok (c.fact 22 rfl)
  k_Net := He.mkr_ok (c.fact 23 rfl)
  t_Net_build := He.meth_ok (c.fact 24 rfl)
  t_Net_tower := He.meth_ok (c.fact 25 rfl)
  t_Net_all_links := He.meth_ok (c.fact 26 rfl)
  t_Net_groups := He.meth_ok (c.fact 27 rfl)
  t_Net_cheapest := He.meth_ok (c.fact 28 rfl)
  t_Net_weak := He.meth_ok (c.fact 29 rfl)
  a_Net_land := He.noat_ok (c.fact 30 rfl)
  a_Net_towers := He.noat_ok (c.fact 31 rfl)
  m_SignalError := He.glo_ok X G (c.fact 32 rfl)
  e_SignalError := He.exc_ok (c.fact 33 rfl)
  x_SignalError_SignalError := He.exm_ok (c.fact 34 rfl)
  x_SignalError_TowerError := He.exm_ok (c.fact 35 rfl)
  m_TowerError := He.glo_ok X G (c.fact 36 rfl)
  e_TowerError := He.exc_ok (c.fact 37 rfl)
  x_TowerError_SignalError := He.exm_ok (c.fact 38 rfl)
  x_TowerError_TowerError := He.exm_ok (c.fact 39 rfl)
  i_MOST_SIDE := He.int_ok X G (c.fact 40 rfl)
  i_MOST_TOWERS := He.int_ok X G (c.fact 41 rfl)
  b_abs := He.free_ok X G (c.fact 42 rfl)
  b_any := He.free_ok X G (c.fact 43 rfl)
  b_dict := He.free_ok X G (c.fact 44 rfl)
  b_enumerate := He.free_ok X G (c.fact 45 rfl)
  b_int := He.free_ok X G (c.fact 46 rfl)
  b_len := He.free_ok X G (c.fact 47 rfl)
  b_list := He.free_ok X G (c.fact 48 rfl)
  b_max := He.free_ok X G (c.fact 49 rfl)
  b_min := He.free_ok X G (c.fact 50 rfl)
  b_range := He.free_ok X G (c.fact 51 rfl)
  b_sorted := He.free_ok X G (c.fact 52 rfl)
  b_str := He.free_ok X G (c.fact 53 rfl)
  b_sum := He.free_ok X G (c.fact 54 rfl)
  b_tuple := He.free_ok X G (c.fact 55 rfl)
/-- a def as the top has left it; its code object is at c -/
structure DefC (K : PySem.W.Frag) (p : He.Defn) (x qual : Str) (st : Stmt) (dvs : List V) (fd : FuncData) : Prop where
  ex : ∃ (oc : Value) (od : Option Addr) (dV kV doc pm : Value) (an : Option Addr) (ct : Value) (osl : Array (Option Value)),
    fd = PySem.W.fnOf x qual (defArgs st) (defBody st) (defScope st) dV kV doc pm an (.ref (He.cT K p).1) ct ∧ K.lookup (He.fAd K p) = some ⟨oc, od, .func fd, osl⟩ ∧ PySem.W.codeIn K (.ref (He.cT K p).1) qual = true ∧ DflV K dV dvs ∧ KwdV K kV []
  kp : PySem.W.keepIn K (.ref (He.fAd K p)) = true
theorem defC_of {K : PySem.W.Frag} {p : He.Defn} {x qual : Str} {st : Stmt} {dvs : List V} {fd : FuncData} (F : FunD K x qual (defArgs st) (defBody st) (defScope st) dvs [] (He.fAd K p) fd) : DefC K p x qual st dvs fd := by
  obtain ⟨oc, od, dV, kV, doc, pm, an, cdv, ct, osl, e, lk, hcd, hd, hk⟩ := F.ex
  obtain ⟨c, e2⟩ := He.codeIn_ref hcd
  subst e2
  have e3 : (He.cT K p).1 = c := He.codeOf_eq lk (by rw [e] <;> rfl)
  refine ⟨⟨oc, od, dV, kV, doc, pm, an, ct, osl, by rw [e3]; exact e, lk, by rw [e3]; exact hcd, hd, hk⟩, F.kp⟩
theorem DefC.funD {K : PySem.W.Frag} {p : He.Defn} {x qual : Str} {st : Stmt} {dvs : List V} {fd : FuncData} (F : DefC K p x qual st dvs fd) : FunD K x qual (defArgs st) (defBody st) (defScope st) dvs [] (He.fAd K p) fd := by
  obtain ⟨oc, od, dV, kV, doc, pm, an, ct, osl, e, lk, hcd, hd, hk⟩ := F.ex
  exact ⟨⟨oc, od, dV, kV, doc, pm, an, _, ct, osl, e, lk, hcd, hd, hk⟩, F.kp⟩
theorem DefC.ok {P : Program} {w : World} {K : PySem.W.Frag} {mg : Str → Option Value} {base : Heap} {p : He.Defn} {x qual : Str} {st : Stmt} {dvs : List V} {fd : FuncData} {CX : CXT} {N ps : List Str} {k : Nat} {sp : Sp} (F : DefC K p x qual st dvs fd) (S : FnScope N ps (defScope st)) (len : ∀ vs H Q E, sp vs H Q E → vs.length = ps.length)
    (hbody : ∀ (A : Around) (outer : List Env) (s : Shared) (H : Hp) (vs : List V) (Q : VK) (E : XK), Room k (A.deeper (envOfC qual (defScope st) s.heap.objs.size (He.fAd K p) (.ref (He.cT K p).1))) → sp vs H Q E →
      ∃ t, PSs (cxOf CX P w K mg base N qual (defScope st) (He.fAd K p) (.ref (He.cT K p).1) A outer s H E) (defBody st) t ∧ t { nx := fun _ H' => Q .non H', rt := Q } (start N vs) H) : FnOk P w K mg base CX (k + 1) (He.fAd K p) fd ps sp := by
  obtain ⟨oc, od, dV, kV, doc, pm, an, ct, osl, rfl, lk, hcd, _, _⟩ := F.ex
  exact fn_of lk hcd S len fun A outer s H vs Q E hr hsp => hbody A outer s H vs Q E hr hsp
/-- each def of the text -/
structure Defs (K : PySem.W.Frag) : Prop where
  d_Land_init : ∃ fd, DefC K ("Land", some "__init__") "__init__" "Land.__init__" s_Land_init [] fd
  d_Land_height : ∃ fd, DefC K ("Land", some "height") "height" "Land.height" s_Land_height [] fd
  d_Land_sees : ∃ fd, DefC K ("Land", some "sees") "sees" "Land.sees" s_Land_sees [] fd
  d_Land_seen_from : ∃ fd, DefC K ("Land", some "seen_from") "seen_from" "Land.seen_from" s_Land_seen_from [] fd
  d_Land_needed : ∃ fd, DefC K ("Land", some "needed") "needed" "Land.needed" s_Land_needed [] fd
  d_between : ∃ fd, DefC K ("between", none) "between" "between" s_between [] fd
  d_nearest : ∃ fd, DefC K ("nearest", none) "nearest" "nearest" s_nearest [] fd
  d_Net_init : ∃ fd, DefC K ("Net", some "__init__") "__init__" "Net.__init__" s_Net_init [] fd
  d_Net_build : ∃ fd, DefC K ("Net", some "build") "build" "Net.build" s_Net_build [] fd
  d_Net_tower : ∃ fd, DefC K ("Net", some "tower") "tower" "Net.tower" s_Net_tower [] fd
  d_Net_all_links : ∃ fd, DefC K ("Net", some "all_links") "all_links" "Net.all_links" s_Net_all_links [] fd
  d_Net_groups : ∃ fd, DefC K ("Net", some "groups") "groups" "Net.groups" s_Net_groups [] fd
  d_Net_cheapest : ∃ fd, DefC K ("Net", some "cheapest") "cheapest" "Net.cheapest" s_Net_cheapest [] fd
  d_Net_weak : ∃ fd, DefC K ("Net", some "weak") "weak" "Net.weak" s_Net_weak [] fd
  d_link_key : ∃ fd, DefC K ("link_key", none) "link_key" "link_key" s_link_key [] fd
  d_joined_rows : ∃ fd, DefC K ("joined_rows", none) "joined_rows" "joined_rows" s_joined_rows [] fd
  d_l_dice : ∃ fd, DefC K ("_law_dice", none) "_law_dice" "_law_dice" s_l_dice [] fd
  d_l_roll : ∃ fd, DefC K ("_law_roll", none) "_law_roll" "_law_roll" s_l_roll [] fd
  d_l_rounds : ∃ fd, DefC K ("_law_rounds", none) "_law_rounds" "_law_rounds" s_l_rounds [] fd
  d_l_told : ∃ fd, DefC K ("_law_told", none) "_law_told" "_law_told" s_l_told [] fd
  d_l_sees : ∃ fd, DefC K ("_law_sees", none) "_law_sees" "_law_sees" s_l_sees [] fd
  d_l_groups : ∃ fd, DefC K ("_law_groups", none) "_law_groups" "_law_groups" s_l_groups [] fd
  d_l_sets : ∃ fd, DefC K ("_law_sets", none) "_law_sets" "_law_sets" s_l_sets [] fd
  d_l_net : ∃ fd, DefC K ("_law_net", none) "_law_net" "_law_net" s_l_net [] fd
  d_law : ∃ fd, DefC K ("law", none) "law" "law" s_law [] fd
theorem defs_of {K : PySem.W.Frag} (c : He.SaysD fa fn K) : Defs K where
  d_Land_init := let ⟨fd, F⟩ := c.def_ 0 rfl; ⟨fd, defC_of F⟩
  d_Land_height := let ⟨fd, F⟩ := c.def_ 1 rfl; ⟨fd, defC_of F⟩
  d_Land_sees := let ⟨fd, F⟩ := c.def_ 2 rfl; ⟨fd, defC_of F⟩
  d_Land_seen_from := let ⟨fd, F⟩ := c.def_ 3 rfl; ⟨fd, defC_of F⟩
  d_Land_needed := let ⟨fd, F⟩ := c.def_ 4 rfl; ⟨fd, defC_of F⟩
  d_between := let ⟨fd, F⟩ := c.def_ 5 rfl; ⟨fd, defC_of F⟩
  d_nearest := let ⟨fd, F⟩ := c.def_ 6 rfl; ⟨fd, defC_of F⟩
  d_Net_init := let ⟨fd, F⟩ := c.def_ 7 rfl; ⟨fd, defC_of F⟩
  d_Net_build := let ⟨fd, F⟩ := c.def_ 8 rfl; ⟨fd, defC_of F⟩
  d_Net_tower := let ⟨fd, F⟩ := c.def_ 9 rfl; ⟨fd, defC_of F⟩
  d_Net_all_links := let ⟨fd, F⟩ := c.def_ 10 rfl; ⟨fd, defC_of F⟩
  d_Net_groups := let ⟨fd, F⟩ := c.def_ 11 rfl; ⟨fd, defC_of F⟩
  d_Net_cheapest := let ⟨fd, F⟩ := c.def_ 12 rfl; ⟨fd, defC_of F⟩
  d_Net_weak := let ⟨fd, F⟩ := c.def_ 13 rfl; ⟨fd, defC_of F⟩
  d_link_key := let ⟨fd, F⟩ := c.def_ 14 rfl; ⟨fd, defC_of F⟩
  d_joined_rows := let ⟨fd, F⟩ := c.def_ 15 rfl; ⟨fd, defC_of F⟩
  d_l_dice := let ⟨fd, F⟩ := c.def_ 16 rfl; ⟨fd, defC_of F⟩
  d_l_roll := let ⟨fd, F⟩ := c.def_ 17 rfl; ⟨fd, defC_of F⟩
  d_l_rounds := let ⟨fd, F⟩ := c.def_ 18 rfl; ⟨fd, defC_of F⟩
  d_l_told := let ⟨fd, F⟩ := c.def_ 19 rfl; ⟨fd, defC_of F⟩
  d_l_sees := let ⟨fd, F⟩ := c.def_ 20 rfl; ⟨fd, defC_of F⟩
  d_l_groups := let ⟨fd, F⟩ := c.def_ 21 rfl; ⟨fd, defC_of F⟩
  d_l_sets := let ⟨fd, F⟩ := c.def_ 22 rfl; ⟨fd, defC_of F⟩
  d_l_net := let ⟨fd, F⟩ := c.def_ 23 rfl; ⟨fd, defC_of F⟩
  d_law := let ⟨fd, F⟩ := c.def_ 24 rfl; ⟨fd, defC_of F⟩
/-- all of it, over a base -/
structure Ctx (K : PySem.W.Frag) (mg : Str → Option Value) (base : Heap) : Prop where
  t : Txt K mg
  d : Defs K
  b : ∀ p ∈ tf, TabB base mg (He.cT K p).1 (He.cT K p).2
  u : ex K = true
end K2

-- text ZipS
set_option maxRecDepth 100000
set_option maxHeartbeats 4000000
/-! ZipS: for a, b in zip(x, y), x and y texts. -/
namespace GX
open PySem PySem.Spec PyProof.Rows L2 LamX
/-- the signs of both texts in new pairs -/
def Itzs (x y : Str) : It :=
  ⟨fun i _ => i < min x.cps.size y.cps.size, fun i H v H' => ∃ T c d, v = .ref T ∧ H T = none ∧ H' = upd H T (.tup [.str ⟨#[c]⟩, .str ⟨#[d]⟩]) ∧ x.cps[i]? = some c ∧ y.cps[i]? = some d, fun i _ => min x.cps.size y.cps.size ≤ i⟩
theorem turn_zips {P : Program} {w : World} {K : PySem.W.Frag} {elts : List Expr} {kk : Nat} {tpos : Pos} {x y : Str} {t u : Tok} {z TI TO i1 i2 : Addr} (D : ZipSep2 z TI TO i1 i2 [i1] [i2]) :
    Turn P w K (.Tuple elts kk tpos) (Itzs x y) [z, TI, TO, i1, i2] z (fun i h => (IsZip h z TI TO .none ∧ IsTupOf2 h TI (.ref i1) (.ref i2) ∧ (∃ a1 a2, IsTupOf2 h TO a1 a2) ∧ h.IsStrIter i1 (strIterType x) x t i ∧ h.IsStrIter i2 (strIterType y) y u i) ∧ i ≤ min x.cps.size y.cps.size) where
  mem := List.mem_cons_self
  obj := fun i h st c hc => by
    obtain ⟨⟨hz, hTI, ⟨a1, a2, hTO⟩, ⟨o1, e1, _, d1⟩, ⟨o2, e2, _, d2⟩⟩, _⟩ := st
    simp only [List.mem_cons, List.not_mem_nil, or_false] at hc
    rcases hc with q | q | q | q | q
    · rw [q]; exact ⟨_, hz, nofun⟩
    · rw [q]; exact ⟨_, hTI, nofun⟩
    · rw [q]; exact ⟨_, hTO, nofun⟩
    · rw [q]; exact ⟨o1, e1, fun v q => by rw [d1] at q; cases q⟩
    · rw [q]; exact ⟨o2, e2, fun v q => by rw [d2] at q; cases q⟩
  keep := fun i h h' st k => by
    obtain ⟨⟨hz, hTI, ⟨a1, a2, hTO⟩, ⟨o1, e1, r1⟩, ⟨o2, e2, r2⟩⟩, hl⟩ := st
    exact ⟨⟨k z (by simp) _ hz, k TI (by simp) _ hTI, ⟨a1, a2, k TO (by simp) _ hTO⟩, ⟨o1, k i1 (by simp) _ e1, r1⟩, ⟨o2, k i2 (by simp) _ e2, r2⟩⟩, hl⟩
  item := by
    intro X hP hw hK hc i pins s σ H E I hf st hg
    subst hP hw hK
    have hh := I.ok.hd hc
    have G := GoesN.zip2 (prog := X.prog) (w := X.w) (A := X.A) (elts := elts) (x1 := kk) (pos := tpos) D (Draws.text (A := X.A.in1) hh i1 x t) (Draws.text (A := X.A.in1) hh i2 y u)
    have hi : i < min x.cps.size y.cps.size := hg
    have hlt : ∀ b ∈ [z, TI, TO, i1, i2], b < s.heap.objs.size := fun c hc => by
      obtain ⟨⟨hz, hTI, ⟨a1, a2, hTO⟩, ⟨o1, e1, _, d1⟩, ⟨o2, e2, _, d2⟩⟩, _⟩ := st
      simp only [List.mem_cons, List.not_mem_nil, or_false] at hc
      rcases hc with q | q | q | q | q
      · rw [q]; exact Heap.lt_size hz
      · rw [q]; exact Heap.lt_size hTI
      · rw [q]; exact Heap.lt_size hTO
      · rw [q]; exact Heap.lt_size e1
      · rw [q]; exact Heap.lt_size e2
    refine G.goes i s (fun v s2 => ∃ x' H', Inv X pins σ H' s2 ∧ RelV x' v ∧ (Itzs x y).yld i H x' H' ∧ ((IsZip s2.heap z TI TO .none ∧ IsTupOf2 s2.heap TI (.ref i1) (.ref i2) ∧ (∃ a1 a2, IsTupOf2 s2.heap TO a1 a2) ∧ s2.heap.IsStrIter i1 (strIterType x) x t (i + 1) ∧ s2.heap.IsStrIter i2 (strIterType y) y u (i + 1)) ∧ i + 1 ≤ min x.cps.size y.cps.size) ∧ ∀ b ∈ [z, TI, TO, i1, i2], H' b = none) E hi st.1 fun v h' tk hY st' hk _ => ?_
    obtain ⟨T, vx, vy, rfl, hT, ⟨c, uc, hcx, rfl⟩, ⟨d, ud, hdy, rfl⟩, ⟨oT, hoT, hcl, nT, hdT⟩⟩ := hY
    refine ⟨.ref T, upd H T (.tup [.str ⟨#[c]⟩, .str ⟨#[d]⟩]), ?_, rfl, ⟨T, c, d, rfl, I.hok.fresh hT, rfl, hcx, hdy⟩, ⟨st', hi⟩, fun b hb => ?_⟩
    · refine I.turnedNew (t' := tk) (ch := [z, TI, TO, i1, i2]) (fun b o hb e => hk b o (fun q => hb (by
        simp only [List.mem_cons, List.not_mem_nil, or_false] at q ⊢
        rcases q with q | q | q | q <;> simp [q])) e) hf hT ?_
      exact ⟨by show 2 ≤ sizeLine; decide, [.str ⟨#[c]⟩ uc, .str ⟨#[d]⟩ ud], .cons ⟨uc, rfl⟩ (.cons ⟨ud, rfl⟩ .nil), ⟨oT, hoT, hcl, nT, hdT⟩⟩
    · rw [upd_ne (Nat.ne_of_lt (Nat.lt_of_lt_of_le (hlt b hb) hT))]
      exact (hf b hb).1
  done := by
    intro X hP hw hK hc i pins s σ H E I hf st hg
    subst hP hw hK
    have hh := I.ok.hd hc
    have G := GoesN.zip2 (prog := X.prog) (w := X.w) (A := X.A) (elts := elts) (x1 := kk) (pos := tpos) D (Draws.text (A := X.A.in1) hh i1 x t) (Draws.text (A := X.A.in1) hh i2 y u)
    have hi : i = min x.cps.size y.cps.size := Nat.le_antisymm st.2 hg
    refine G.stops s (fun s1 => Inv X pins σ H s1) E (by rw [← hi]; exact st.1) fun h' tk hk _ => ?_
    exact I.turnedL (t' := tk) (ch := [z, TI, TO, i1, i2]) (fun b o hb e => hk b o (fun q => hb (by
        simp only [List.mem_cons, List.not_mem_nil, or_false] at q ⊢
        rcases q with q | q | q | q <;> simp [q])) e) hf
  self := fun A i s Q E st h => wpAny_pyIter_zip st.1.1 h
def iZipS (ta : TA) : TI := fun σ H R => ta σ H fun vs H1 => ∃ x y, vs = [.str x, .str y] ∧ R (Itzs x y) H1
theorem pi_zipS {X : Cx} {e e2 : Expr} {ta : TA} {p pos tpos : Pos} {elts : List Expr} {kk : Nat} (hg : Gl X "zip") (hm : X.mg "zip" = none) (ha : PA X [e, e2] ta)
    (hs : starEach [e, e2] X.env = (false, eval e X.env) :: starEach [e2] X.env := by rfl) (hpl : (backTo pos (starEach [e2] X.env)).any (·.1) = false := by rfl) :
    PI X (.Tuple elts kk tpos) (.Call (.Name "zip" p) [e, e2] [] pos) (iZipS ta) := by
  refine ⟨fun pins s σ H R I h => ?_⟩
  refine Call_ (ld_blt I hg hm PyProof.Rows.boot_zip (PyProof.Rows.callWith_type1 (thn (ha.run pos pins s σ H _ I h) fun us s1 ⟨vs, H1, I1, r1, x, y, ex, q⟩ => ?_) hs hpl))
  subst ex
  cases r1 with
  | cons r rr =>
    cases rr with
    | cons r' rr =>
      cases rr
      obtain ⟨t, rfl⟩ := r
      obtain ⟨u, rfl⟩ := r'
      refine zip_begins2 (begins_text x t) (begins_text y u) trivial trivial fun h' hz hTI hTO h1 h2 hsz hk => wpAny_pyIter_zip hz ?_
      have I2 : Inv X pins σ H1 { s1 with heap := h' } := I1.kept (t' := s1.toks) hk
      refine ⟨s1.heap.objs.size + 4, [s1.heap.objs.size + 4, s1.heap.objs.size + 2, s1.heap.objs.size + 3, s1.heap.objs.size, s1.heap.objs.size + 1], _, _, H1, rfl, I2,
        turn_zips (x := x) (y := y) (t := t) (u := u) (zip_sep2 (N := s1.heap.objs.size) (fp1 := []) (fp2 := []) (by simp) (by simp)), ⟨⟨hz, hTI, ⟨_, _, hTO⟩, ⟨_, h1, rfl, rfl⟩, ⟨_, h2, rfl, rfl⟩⟩, Nat.zero_le _⟩, fun c hcm => ?_, q⟩
      have hle : s1.heap.objs.size ≤ c := by
        simp only [List.mem_cons, List.not_mem_nil, or_false] at hcm
        rcases hcm with q | q | q | q | q <;> rw [q] <;> first | exact Nat.le_add_right _ _ | exact Nat.le_refl _
      exact I1.fpOk hle (I1.hok.fresh hle)
end GX

-- text Lp
set_option maxRecDepth 100000
set_option maxHeartbeats 4000000
/-! Lp: loops over a walk of n items, by an invariant. -/
namespace GX
open PySem PySem.Spec PyProof.Rows L2 LamX
/-- [e for t in walk if ..]: n items, the invariant Pv by the turn and the heap -/
theorem lc_n {J : It} {g : TG} {tt : TT} {te : TE} {vs : List Nat} {σ : L2.St} {H1 : Hp} {D : Addr} {Qd : Hp → Prop} (n : Nat) (Pv : Nat → Hp → Prop) (h0 : Pv 0 (upd H1 D (.lst [])))
    (hs : ∀ i H, i < n → Pv i H → J.go i H ∧ ∀ x H', J.yld i H x H' → g x (wipe σ vs) H' fun σ2 H2 => wipe σ2 vs = wipe σ vs ∧ tt σ2 H2 fun b H3 =>
      if b = true then te σ2 H3 fun y H4 => ∃ acc, H4 D = some (.lst acc) ∧ acc.length < sizeLine ∧ Pv (i + 1) (upd H4 D (.lst (acc ++ [y]))) else Pv (i + 1) H3)
    (hd : ∀ H, Pv n H → J.stop n H ∧ Qd H) :
    ∃ W : Nat → Nat → Hp → Prop, (∃ m, W 0 m (upd H1 D (.lst []))) ∧ ∀ i m H, W i m H →
      (J.stop i H ∧ Qd H) ∨ (J.go i H ∧ ∃ Nx : Hp → Prop, (∀ H', Nx H' → ∃ m', m' < m ∧ W (i + 1) m' H') ∧ ∀ x H', J.yld i H x H' → g x (wipe σ vs) H' fun σ2 H2 => wipe σ2 vs = wipe σ vs ∧ tt σ2 H2 fun b H3 =>
        if b = true then te σ2 H3 fun y H4 => ∃ acc, H4 D = some (.lst acc) ∧ acc.length < sizeLine ∧ Nx (upd H4 D (.lst (acc ++ [y]))) else Nx H3) := by
  refine ⟨fun i m H => m = n - i ∧ i ≤ n ∧ Pv i H, ⟨n, by simp, Nat.zero_le _, h0⟩, ?_⟩
  rintro i m H ⟨rfl, hi, p⟩
  by_cases hlt : i < n
  · obtain ⟨q1, q2⟩ := hs i H hlt p
    exact .inr ⟨q1, Pv (i + 1), fun H' p' => ⟨n - (i + 1), by omega, rfl, hlt, p'⟩, q2⟩
  · have e : i = n := by omega
    rw [e] at p ⊢
    exact .inl (hd H p)
/-- the same of a loop -/
theorem for_n {J : It} {g : TG} {tb : TS} {D : Ends} {σ : L2.St} {H : Hp} (n : Nat) (Pv : Nat → L2.St → Hp → Prop) (h0 : Pv 0 σ H)
    (hs : ∀ i σ H, i < n → Pv i σ H → J.go i H ∧ ∀ x H', J.yld i H x H' → g x σ H' fun σ2 H2 => tb { D with nx := Pv (i + 1), ct := Pv (i + 1), bk := D.nx } σ2 H2)
    (hd : ∀ σ H, Pv n σ H → J.stop n H ∧ D.nx σ H) :
    ∃ W : Nat → Nat → L2.St → Hp → Prop, (∃ m, W 0 m σ H) ∧ ∀ i m σ H, W i m σ H →
      (J.stop i H ∧ D.nx σ H) ∨ (J.go i H ∧ ∃ N : L2.St → Hp → Prop, (∀ σ' H', N σ' H' → ∃ m', m' < m ∧ W (i + 1) m' σ' H') ∧ ∀ x H', J.yld i H x H' → g x σ H' fun σ2 H2 => tb { D with nx := N, ct := N, bk := D.nx } σ2 H2) := by
  refine ⟨fun i m σ H => m = n - i ∧ i ≤ n ∧ Pv i σ H, ⟨n, by simp, Nat.zero_le _, h0⟩, ?_⟩
  rintro i m σ H ⟨rfl, hi, p⟩
  by_cases hlt : i < n
  · obtain ⟨q1, q2⟩ := hs i σ H hlt p
    exact .inr ⟨q1, Pv (i + 1), fun σ' H' p' => ⟨n - (i + 1), by omega, rfl, hlt, p'⟩, q2⟩
  · have e : i = n := by omega
    rw [e] at p ⊢
    exact .inl (hd σ H p)
/-- a list's walk at a place -/
theorem Itl_go {K : PySem.W.Frag} {a : Addr} {xs : List V} {i : Nat} {H : Hp} (h : SqL K H a xs) (hi : i < xs.length) : (Itl K a).go i H := ⟨xs, xs[i], h, by rw [List.getElem?_eq_getElem hi]⟩
theorem Itl_stop {K : PySem.W.Frag} {a : Addr} {xs : List V} {i : Nat} {H : Hp} (h : SqL K H a xs) (hi : xs.length ≤ i) : (Itl K a).stop i H := ⟨xs, h, hi⟩
theorem Itl_yld {K : PySem.W.Frag} {a : Addr} {xs : List V} {i : Nat} {H H' : Hp} {x : V} (h : SqL K H a xs) (y : (Itl K a).yld i H x H') : H' = H ∧ xs[i]? = some x := ⟨y.1, y.2 xs h⟩
theorem Itt_go {K : PySem.W.Frag} {a : Addr} {xs : List V} {i : Nat} {H : Hp} (h : SqT K H a xs) (hi : i < xs.length) : (Itt K a).go i H := ⟨xs, xs[i], h, by rw [List.getElem?_eq_getElem hi]⟩
theorem Itt_stop {K : PySem.W.Frag} {a : Addr} {xs : List V} {i : Nat} {H : Hp} (h : SqT K H a xs) (hi : xs.length ≤ i) : (Itt K a).stop i H := ⟨xs, h, hi⟩
theorem Itt_yld {K : PySem.W.Frag} {a : Addr} {xs : List V} {i : Nat} {H H' : Hp} {x : V} (h : SqT K H a xs) (y : (Itt K a).yld i H x H') : H' = H ∧ xs[i]? = some x := ⟨y.1, y.2 xs h⟩
theorem get_map {α : Type} {f : α → V} {xs : List α} {i : Nat} {v : V} (h : (xs.map f)[i]? = some v) : ∃ x, xs[i]? = some x ∧ v = f x := by
  rw [List.getElem?_map] at h
  cases e : xs[i]? with
  | none => rw [e] at h; cases h
  | some x => rw [e] at h; exact ⟨x, rfl, (Option.some.inj h).symm⟩
end GX

-- text Cal
set_option maxRecDepth 100000
set_option maxHeartbeats 4000000
/-! Cal: defs, methods and classes of the text that may raise, by one word each. -/
namespace GX
open PySem PySem.Spec PyProof.Rows L2 LamX
section
variable (P : Program) (w : World) (K : PySem.W.Frag) (mg : Str → Option Value) (base : Heap)
/-- the module's x is a def that keeps sp -/
def CalX (k : Nat) (x : Str) (ps : List Str) (sp : Sp) : Prop := ∃ f fd, FnOk P w K mg base (L2.CX P w) k f fd ps sp ∧ Binds K fd ps [] ∧ PySem.W.keepIn K (.ref f) = true ∧ mg x = some (.ref f)
/-- the method m of the class at C keeps sp -/
def MetX (k : Nat) (C : Addr) (m : Str) (ps : List Str) (sp : Sp) : Prop := ∃ f fd, FnOk P w K mg base (L2.CX P w) k f fd ps sp ∧ Binds K fd ps [] ∧ Meth K C m f ∧ Cls K C
/-- the class x at C is made by an __init__ that keeps sp -/
def MakX (k : Nat) (x : Str) (C : Addr) (ps : List Str) (sp : Sp) : Prop := ∃ f fd, FnOk P w K mg base (L2.CX P w) k f fd ps sp ∧ Binds K fd ps [] ∧ Mk K C f ∧ mg x = some (.ref C)
end
section
variable {X : Cx} {k j : Nat} {x m : Str} {C : Addr} {ps : List Str} {sp : Sp} {E : XK} {p pos apos : Pos} {e o : Expr} {es : List Expr} {ta : TE} {t : TA}
theorem pe_cx (c : CalX X.prog X.w X.K X.mg X.base k x ps sp) (hr : Room j X.A) (hk : k ≤ j) (hg : Gl X x) (hx : Passes (L2.CX X.prog X.w) X E) (ha : PA X (e :: es) t) (hdb : (x == ("__debug__" : Str)) = false := by decide)
    (he : starEach (e :: es) X.env = (false, eval e X.env) :: starEach es X.env := by rfl) (hpl : (backTo pos (starEach es X.env)).any (·.1) = false := by rfl) : PE X (.Call (.Name x p) (e :: es) [] pos) (tCall sp [] E t) := by
  obtain ⟨f, fd, F, b, kp, hm⟩ := c
  exact pe_call F (hr.mono hk) hg hm kp b .nil hx ha hdb he hpl
theorem pe_cx0 (c : CalX X.prog X.w X.K X.mg X.base k x ps sp) (hr : Room j X.A) (hk : k ≤ j) (hg : Gl X x) (hx : Passes (L2.CX X.prog X.w) X E) (hdb : (x == ("__debug__" : Str)) = false := by decide) : PE X (.Call (.Name x p) [] [] pos) (tCall sp [] E tNil) := by
  obtain ⟨f, fd, F, b, kp, hm⟩ := c
  exact pe_call0 F (hr.mono hk) hg hm kp b .nil hx hdb
end
end GX

-- text Str1
set_option maxRecDepth 100000
set_option maxHeartbeats 4000000
/-! Str1: texts by their codes. -/
namespace GX
open PySem PySem.Spec PyProof.Rows L2 LamX
theorem S_app (a b : List Nat) : S a ++ S b = S (a ++ b) := by
  show Str.append (S a) (S b) = _
  simp [S, Str.append]
theorem S_app' (a b : List Nat) : Str.append (S a) (S b) = S (a ++ b) := by simp [S, Str.append]
theorem cutS_def (z : Str) (lo hi : Option Int) : cutS z lo hi = S ((z.cps.toList.drop (HT.sIx z.length 0 lo)).take (HT.sIx z.length z.length hi - HT.sIx z.length 0 lo)) := rfl
theorem sIx_none (n d : Nat) : HT.sIx n d none = d := by
  unfold HT.sIx
  rfl
theorem sIx_nat (n d k : Nat) : HT.sIx n d (some (k : Int)) = min k n := by
  unfold HT.sIx
  simp only
  split
  · omega
  · omega
theorem cut_lo (l : List Nat) (k : Nat) : cutS (S l) none (some (k : Int)) = S (l.take k) := by
  rw [cutS_def, sIx_none, sIx_nat, S_cps, S_len]
  congr 1
  rw [List.drop_zero, Nat.sub_zero]
  rcases Nat.le_total k l.length with h | h
  · rw [Nat.min_eq_left h]
  · rw [Nat.min_eq_right h, List.take_of_length_le (Nat.le_refl _), List.take_of_length_le h]
theorem cut_hi (l : List Nat) (k : Nat) : cutS (S l) (some (k : Int)) none = S (l.drop k) := by
  rw [cutS_def, sIx_none, sIx_nat, S_cps, S_len]
  congr 1
  rcases Nat.le_total k l.length with h | h
  · rw [Nat.min_eq_left h, List.take_of_length_le (by rw [List.length_drop]; omega)]
  · rw [Nat.min_eq_right h, Nat.sub_self, List.take_zero, List.drop_of_length_le h]
theorem cut_mid (l : List Nat) (i j : Nat) : cutS (S l) (some (i : Int)) (some (j : Int)) = S ((l.take j).drop i) := by
  rw [cutS_def, sIx_nat, sIx_nat, S_cps, S_len]
  congr 1
  rw [List.drop_take]
  rcases Nat.le_total j l.length with h | h
  · rw [Nat.min_eq_left h]
    rcases Nat.le_total i l.length with h' | h'
    · rw [Nat.min_eq_left h']
    · rw [Nat.min_eq_right h', List.drop_of_length_le (Nat.le_refl _), List.drop_of_length_le h', List.take_nil, List.take_nil]
  · rw [Nat.min_eq_right h]
    rcases Nat.le_total i l.length with h' | h'
    · rw [Nat.min_eq_left h', List.take_of_length_le (by rw [List.length_drop]; exact Nat.le_refl _), List.take_of_length_le (by rw [List.length_drop]; omega)]
    · rw [Nat.min_eq_right h', Nat.sub_self, List.take_zero, List.drop_of_length_le h', List.take_nil]
/-- str(n) of a small number -/
theorem toS_bit {n : Int} (h : n = 0 ∨ n = 1) : (Str.ofString (toString n) : Str) = S [(48 + n.toNat : Nat)] := by
  rcases h with rfl | rfl <;> decide +kernel
theorem log_bit {n : Int} (h : n = 0 ∨ n = 1) : n.natAbs.log2 < 1920 := by
  rcases h with rfl | rfl <;> decide +kernel
theorem int_bit {c : Nat} (h : c = 48 ∨ c = 49) : PySem.intText? (S [c]) = some ((c : Int) - 48) := by
  rcases h with rfl | rfl <;> decide +kernel
theorem S_one (c : Nat) : (⟨#[c]⟩ : Str) = S [c] := rfl
theorem lenS_le {l : List Nat} {n : Nat} (h : l.length ≤ n) (hn : n ≤ sizeLine) : (S l).length ≤ sizeLine := by rw [S_len]; exact Nat.le_trans h hn
theorem atS {l : List Nat} {k c : Nat} (h : l[k]? = some c) : atI (S l).cps.toList (k : Int) = some c := by
  rw [S_cps]
  exact atI_nat h
/-- how often "1" comes -/
def cnt (l : List Nat) : Nat := (l.filter fun c => c == 49).length
end GX

-- text Dat
set_option maxRecDepth 100000
set_option maxHeartbeats 4000000
/-! Dat: data compared, sorted texts. -/
namespace GX
open PySem PySem.Spec PyProof.Rows L2 LamX
theorem eqv_strs : ∀ xs ys : List Str, PyData.eqvAll (xs.map PyData.str) (ys.map PyData.str) = decide (xs = ys)
  | [], [] => rfl
  | [], _ :: _ => rfl
  | _ :: _, [] => rfl
  | x :: xs, y :: ys => by
    show (PyData.eqv (.str x) (.str y) && PyData.eqvAll (xs.map PyData.str) (ys.map PyData.str)) = _
    rw [eqv_strs xs ys]
    show ((x == y) && _) = _
    by_cases h : x = y
    · subst h; simp
    · have : (x == y) = false := by simpa using h
      rw [this]
      simp [h]
theorem eqv_ints : ∀ xs ys : List Int, PyData.eqvAll (xs.map PyData.int) (ys.map PyData.int) = decide (xs = ys)
  | [], [] => rfl
  | [], _ :: _ => rfl
  | _ :: _, [] => rfl
  | x :: xs, y :: ys => by
    show (PyData.eqv (.int x) (.int y) && PyData.eqvAll (xs.map PyData.int) (ys.map PyData.int)) = _
    rw [eqv_ints xs ys]
    show ((x == y) && _) = _
    by_cases h : x = y
    · subst h; simp
    · have : (x == y) = false := by simpa using h
      rw [this]
      simp [h]
/-- data without anything within -/
def scal0 : PyData → Bool
  | .none | .bool _ | .int _ => true
  | .str x => (PyData.str x).canLay0
  | _ => false
theorem scal0_lay : ∀ {d : PyData}, scal0 d = true → d.canLay0 = true ∧ d.depth = 0
  | .none, _ => ⟨rfl, rfl⟩
  | .bool _, _ => ⟨rfl, rfl⟩
  | .int _, _ => ⟨rfl, rfl⟩
  | .str x, h => ⟨h, rfl⟩
  | .list _, h => by cases h
  | .tuple _, h => by cases h
  | .dict _, h => by cases h
theorem all_lay : ∀ {ds : List PyData} {n : Nat}, (∀ d ∈ ds, d.canLay0 = true ∧ d.depth ≤ n) → PyData.canLayAll0 ds = true ∧ PyData.depthAll ds ≤ n
  | [], _, _ => ⟨rfl, Nat.zero_le _⟩
  | d :: r, n, h => by
    obtain ⟨a, b⟩ := h d List.mem_cons_self
    obtain ⟨c, e⟩ := all_lay fun x hx => h x (List.mem_cons_of_mem _ hx)
    refine ⟨?_, ?_⟩
    · show (d.canLay0 && PyData.canLayAll0 r) = true
      rw [a, c]; rfl
    · show max d.depth (PyData.depthAll r) ≤ n
      omega
theorem shaped1 {d : PyData} (h : scal0 d = true) : SeqAt.shaped d = true := by
  obtain ⟨a, b⟩ := scal0_lay h
  unfold SeqAt.shaped
  rw [a, b]; rfl
theorem lay_list {ds : List PyData} {n : Nat} (h : ∀ d ∈ ds, d.canLay0 = true ∧ d.depth ≤ n) : (PyData.list ds).canLay0 = true ∧ (PyData.list ds).depth ≤ n + 1 := by
  obtain ⟨a, b⟩ := all_lay h
  exact ⟨a, by simp only [PyData.depth]; omega⟩
theorem lay_tuple {ds : List PyData} {n : Nat} (h : ∀ d ∈ ds, d.canLay0 = true ∧ d.depth ≤ n) : (PyData.tuple ds).canLay0 = true ∧ (PyData.tuple ds).depth ≤ n + 1 := by
  obtain ⟨a, b⟩ := all_lay h
  exact ⟨a, by simp only [PyData.depth]; omega⟩
theorem shaped_of {d : PyData} {n : Nat} (h : d.canLay0 = true ∧ d.depth ≤ n) (hn : n ≤ 64) : SeqAt.shaped d = true := by
  unfold SeqAt.shaped
  rw [h.1, decide_eq_true (Nat.le_trans h.2 hn)]; rfl
theorem shaped_list {ds : List PyData} (h : ∀ d ∈ ds, scal0 d = true) : SeqAt.shaped (.list ds) = true :=
  shaped_of (n := 1) (lay_list fun d hd => ⟨(scal0_lay (h d hd)).1, Nat.le_of_eq (scal0_lay (h d hd)).2⟩) (by decide)
theorem shaped_tuple {ds : List PyData} (h : ∀ d ∈ ds, scal0 d = true) : SeqAt.shaped (.tuple ds) = true :=
  shaped_of (n := 1) (lay_tuple fun d hd => ⟨(scal0_lay (h d hd)).1, Nat.le_of_eq (scal0_lay (h d hd)).2⟩) (by decide)
theorem shaped_ints (ns : List Int) : SeqAt.shaped (.list (ns.map PyData.int)) = true := shaped_list fun d hd => by
  obtain ⟨n, _, rfl⟩ := List.mem_map.mp hd
  rfl
/-! ### sorted texts -/
theorem rising_pair : ∀ {p : Str} {l : List Str}, risingS p l = true → (p :: l).Pairwise fun a b => ¬ b.cps.toList < a.cps.toList
  | p, [], _ => List.pairwise_singleton _ _
  | p, x :: r, h => by
    have h : (!ltCps x.cps.toList p.cps.toList && risingS x r) = true := h
    rw [Bool.and_eq_true] at h
    have h1 : ¬ x.cps.toList < p.cps.toList := by
      have := h.1
      rw [ltCps_eq] at this
      simpa using this
    have ih := rising_pair h.2
    refine List.pairwise_cons.mpr ⟨fun y hy => ?_, ih⟩
    rcases List.mem_cons.mp hy with rfl | hy
    · exact h1
    · have h2 := (List.pairwise_cons.mp ih).1 y hy
      exact fun z => h1 (List.lt_of_le_of_lt (List.not_lt.mp h2) z)
theorem sortedS_pair {l : List Str} (h : sortedS l = true) : l.Pairwise fun a b => ¬ b.cps.toList < a.cps.toList := by
  cases l with
  | nil => exact List.Pairwise.nil
  | cons x r => exact rising_pair h
theorem str_ext {a b : Str} (h : a.cps.toList = b.cps.toList) : a = b := by
  rw [← S_eq a, ← S_eq b, h]
theorem sorted_uniq {a b : List Str} (ha : sortedS a = true) (hb : sortedS b = true) (p : a.Perm b) : a = b :=
  List.Perm.eq_of_pairwise (fun x y _ _ h1 h2 => str_ext (List.le_antisymm (List.not_lt.mp h1) (List.not_lt.mp h2))) (sortedS_pair ha) (sortedS_pair hb) p
theorem ints_uniq {a b : List Int} (ha : a.Pairwise (· ≤ ·)) (hb : b.Pairwise (· ≤ ·)) (p : a.Perm b) : a = b :=
  List.Perm.eq_of_pairwise (fun x y _ _ h1 h2 => Int.le_antisymm h1 h2) ha hb p
/-! ### cuts of lists -/
theorem cutV_drop (xs : List V) (k : Nat) : cutV xs (some (k : Int)) none = xs.drop k := by
  unfold cutV
  rw [GX.sIx_none, GX.sIx_nat]
  rcases Nat.le_total k xs.length with h | h
  · rw [Nat.min_eq_left h, List.take_of_length_le (by rw [List.length_drop]; exact Nat.le_refl _)]
  · rw [Nat.min_eq_right h, Nat.sub_self, List.take_zero, List.drop_of_length_le h]
theorem cutV_take (xs : List V) (k : Nat) : cutV xs none (some (k : Int)) = xs.take k := by
  unfold cutV
  rw [GX.sIx_none, GX.sIx_nat, List.drop_zero, Nat.sub_zero]
  rcases Nat.le_total k xs.length with h | h
  · rw [Nat.min_eq_left h]
  · rw [Nat.min_eq_right h, List.take_of_length_le (Nat.le_refl _), List.take_of_length_le h]
end GX

-- text SmX
set_option maxRecDepth 100000
set_option maxHeartbeats 4000000
/-! SmX: list(text), a sign times a number, sorted(d.values()). -/
namespace GX
open PySem PySem.Spec PyProof.Rows L2 LamX
section
variable {X : Cx}
theorem signs_vals {l : List Nat} : ∀ {us : List Value}, us.length = l.length → (∀ (j : Nat) (v : Value), us[j]? = some v → ∃ c t, l[j]? = some c ∧ v = .str (S [c]) t) → Vals (l.map fun c => V.str (S [c])) us := by
  induction l with
  | nil =>
    intro us h _
    match us, h with
    | [], _ => exact .nil
  | cons c r ih =>
    intro us h hv
    match us, h with
    | u :: us, h =>
      obtain ⟨c2, t, e1, e2⟩ := hv 0 u rfl
      have e1 : c = c2 := by simpa using e1
      subst e1
      exact .cons ⟨t, e2⟩ (ih (by simpa using h) fun j v e => by
        obtain ⟨c3, t3, a, b⟩ := hv (j + 1) v (by simpa using e)
        exact ⟨c3, t3, by simpa using a, b⟩)
/-- list(s) -/
theorem cr_listS (hc : X.calm = true) : CallR X (.type "list") (fun xs H Q => ∃ l : List Nat, xs = [.str (S l)] ∧ l.length ≤ 1000 ∧ ∀ p, H p = none → Q (.ref p) (upd H p (.lst (l.map fun c => V.str (S [c]))))) := by
  intro pins s σ H xs us Q I r h
  obtain ⟨l, rfl, hl, hq⟩ := h
  obtain ⟨u, rfl, t, rfl⟩ := vals1 r
  have hsz : (S l).cps.size ≤ sizeLine := by
    have e : (S l).cps.size = l.length := S_len l
    rw [e]
    exact Nat.le_trans hl (by decide)
  refine call_list_str (I.ok.hd hc) (S l) t (hn := hsz) fun h' tk acc c kp hS hacc => ?_
  have hlen : acc.toList.length = l.length := by rw [Array.length_toList, hacc.1]; exact S_len l
  refine ⟨.ref s.heap.objs.size, upd H s.heap.objs.size (.lst (l.map fun c => V.str (S [c]))), I.laid (t' := tk) kp (Nat.le_refl _) ⟨by rw [List.length_map]; exact Nat.le_trans hl (by decide), acc.toList, c, signs_vals hlen fun j v e => ?_, hS⟩, rfl, hq _ (I.hok.fresh (Nat.le_refl _))⟩
  obtain ⟨c2, t2, e1, e2⟩ := hacc.2 j v (by rw [← Array.getElem?_toList]; exact e)
  exact ⟨c2, t2, by have : (S l).cps.toList[j]? = some c2 := by rw [Array.getElem?_toList]; exact e1
                    rw [S_cps] at this; exact this, e2⟩
theorem rep_sign (c n : Nat) : (List.replicate n (S [c]).cps).foldl (· ++ ·) #[] = (List.replicate n c).toArray := by
  have key : ∀ (m : Nat) (a : Array Nat), (List.replicate m (S [c]).cps).foldl (· ++ ·) a = a ++ (List.replicate m c).toArray := by
    intro m
    induction m with
    | zero => intro a; simp
    | succ m ih =>
      intro a
      rw [List.replicate_succ, List.foldl_cons, ih, List.replicate_succ]
      apply Array.ext'
      simp [S]
  rw [key]
  simp
/-- a sign times a number -/
theorem op_mulSign : OpR X (binaryOp .Mult) (fun x y H Q => ∃ c n : Nat, x = .str (S [c]) ∧ y = .int (n : Int) ∧ n ≤ 1000 ∧ Q (.str (S (List.replicate n c))) H) := by
  intro pins s σ H x y v u Q I rx ry h
  obtain ⟨c, n, rfl, rfl, hn, hq⟩ := h
  obtain ⟨t, rfl⟩ := rx
  obtain ⟨t2, rfl⟩ := ry
  have hl : (S [c]).length = 1 := S_len _
  refine P.mul_str (by simp; omega) (fun _ _ => ?_) (fun _ _ => ?_) ?_
  · rw [hl]
    have h1 : ((n : Int)) ≤ 1000 := by omega
    intro z
    have h0 : (1 : Int) ≤ (n : Int) := by omega
    have : (2 : Int) ≤ (2 ^ 63 - 1) / (n : Int) := (Int.le_ediv_iff_mul_le (by omega)).mpr (by omega)
    omega
  · rw [hl]
    unfold PySem.Builtin.Str.tooLong
    have : n ≤ sizeLine := Nat.le_trans hn (by decide)
    simp
    omega
  · have I2 := I.tok (s.toks + 1)
    by_cases h0 : n = 0
    · subst h0
      rw [if_pos (by decide)]
      exact ⟨by decide, .str (S (List.replicate 0 c)), H, I2, ⟨_, rfl⟩, hq⟩
    · rw [if_neg (by omega)]
      by_cases h1 : n = 1
      · subst h1
        rw [if_pos (by simp)]
        exact ⟨.str (S [c]), H, I, ⟨_, rfl⟩, hq⟩
      · rw [if_neg (by rw [hl]; simp; omega), show ((n : Int)).toNat = n by omega, rep_sign]
        exact ⟨by show (S (List.replicate n c)).length ≤ sizeLine; rw [S_len, List.length_replicate]; exact Nat.le_trans hn (by decide), .str (S (List.replicate n c)), H, I2, ⟨_, rfl⟩, hq⟩
theorem int_vals : ∀ {kvs : List (Key × V)} {vs : List (Key × Value)} {is : List Int}, KV kvs vs → kvs.map (·.2) = is.map V.int → IntsAre (vs.map (·.2)) is := by
  intro kvs
  induction kvs with
  | nil =>
    intro vs is rel e
    cases rel
    cases is with
    | nil => exact .nil
    | cons a r => cases e
  | cons p r ih =>
    intro vs is rel e
    cases is with
    | nil => cases e
    | cons a r2 =>
      cases rel with
      | cons h t =>
        have e1 : p.2 = V.int a := by injection e
        have e2 : r.map (·.2) = r2.map V.int := by injection e
        obtain ⟨h1, h2⟩ := h
        rw [e1] at h2
        obtain ⟨tk, h3⟩ := h2
        rw [List.map_cons, h3]
        exact .cons _ _ (ih t e2)
/-- the reading of sorted(d.values()), d's values whole numbers -/
def tSortVals (td : TE) : TE := fun σ H Q => td σ H fun x H1 => ∃ a kvs is, x = V.ref a ∧ H1 a = some (.dK kvs) ∧ kvs.map (·.2) = is.map V.int ∧ is.length < 64 ∧
  ∀ (ns : List Int) p, ns.Perm is → ns.Pairwise (· ≤ ·) → H1 p = none → Q (.ref p) (upd H1 p (.lst (ns.map V.int)))
variable {o : Expr} {td : TE} {p pos apos mpos : Pos}
theorem pe_sortVals (hc : X.calm = true) (hg : Gl X "sorted") (hm : X.mg "sorted" = none) (hd : PE X o td) (hbase : attributeBase o "values" X.env (eval o X.env) = eval o X.env := by rfl) (hline : (apos.endLine == mpos.line) = true := by rfl)
    (hse : starEach [Expr.Call (.Attribute o "values" apos) [] [] mpos] X.env = [(false, eval (Expr.Call (.Attribute o "values" apos) [] [] mpos) X.env)] := by rfl) :
    PE X (.Call (.Name "sorted" p) [.Call (.Attribute o "values" apos) [] [] mpos] [] pos) (tSortVals td) := by
  refine ⟨fun pins s σ H Q I h => ?_⟩
  refine wpAny_Call_Name_kw (ld_blt I hg hm (u := .builtin "sorted") (by first | rfl | decide +kernel) ?_ (by first | decide +kernel | decide) (by first | decide +kernel | decide))
  rw [hse]
  refine PySem.callWith_builtin1 (wpAny_Call_method0_late hbase hline (thn (hd.run pins s σ H _ I h) fun v s1 ⟨x, H1, I1, r1, a, kvs, is, ex, ha, hv, h64, q⟩ => ?_))
  subst ex
  obtain rfl : v = Value.ref a := r1
  obtain ⟨_, hsys, vs, rel, dof⟩ := dk_of I1.hok ha
  obtain ⟨ep, dat⟩ := dof.dictAt
  obtain ⟨ob, es, ho, ex, hdat, hko, hpr, hnd⟩ := id dat
  refine ⟨"dict", "dict.values", F.plainAttrs_dict, F.slot_dict_values, F.type_dict_values, ⟨ob, ho, ex.1⟩, fun b e => by cases e; exact ⟨ob, ho, ex.2.1⟩, Calls.callWith_builtin rfl (PySem.evalArgs_none ?_)⟩
  refine call_meetsIn F.slot_dict_values ⟨ob, ho, ex.1⟩ F.entry_dict_values (F.args_dict_values_1 _) (meets_dict_values (mixKind X.prog X.w) a hsys) ⟨⟨vs, dof⟩, ?_⟩
  have k1 : ∀ b u, s1.heap.get? b = some u → (s1.heap.push { cls := .type "dict_values", data := .fields #[.ref a] }).get? b = some u := fun b u e => Heap.get?_push_of_some _ e
  have hiv := int_vals rel hv
  have hln : vs.length = is.length := by have := hiv.length; rw [List.length_map] at this; exact this
  refine Calls.call_function_entry PyProof.Rows.kind_sorted PyProof.Rows.plain_sorted PyProof.Rows.entry_sorted (PyProof.Rows.args_sorted1 _) ?_
  unfold Builtin.«sorted»
  refine wpAny_bind (m := checkCount "sorted" 1 1 _) (wpAny_pure ?_)
  refine wpAny_bind (PySem.W.kdu_collect (A := X.A.in1) (PySem.W.kdl_values (knd := mixKind X.prog X.w) (r := s1.heap.objs.size) (d := a) (kvs := vs) (ep := ep)) (I1.ok.hd hc) ⟨⟨_, Heap.get?_push_size _ rfl, rfl, rfl⟩, dat.keep k1⟩ (by rw [hln]; exact small64 h64) fun h' tk acc hk hacc => ?_)
  have eacc : acc.toList = vs.map (·.2) := PySem.W.kdl_vals_eq _ (by rw [Array.length_toList]; exact hacc.1) fun j v e => hacc.2 j v (by rw [← Array.getElem?_toList]; exact e)
  have hI : IntsAre acc.toList is := by rw [eacc]; exact hiv
  have hl64 : acc.toList.length < 64 := by rw [eacc, List.length_map, hln]; exact h64
  refine wpAny_bind (wpAny_newList ?_ (Nat.le_trans (Nat.le_of_lt hl64) (by decide)))
  have hoL : (h'.push (seqObj "list" acc.toList.toArray 0)).get? h'.objs.size = some (seqObj "list" acc.toList.toArray 0) := Heap.get?_push_size _ rfl
  show wpAny _ _ _ _ _ { s1 with heap := h'.push (seqObj "list" acc.toList.toArray 0), toks := tk }
  refine wpAny_bind (wpAny_holding (wpAny_call_entry slot_list_sort ⟨_, hoL, rfl⟩ entry_list_sort (list_sort_tree hoL hI hl64 fun out ns' a1 a2 a3 => ⟨_, rfl, ?_⟩) (args_list_sort _)))
  have I2 : Inv X pins σ H1 { s1 with heap := h', toks := tk } := I1.kept fun b u e => hk b u (k1 b u e)
  obtain ⟨e', he'⟩ := PyProof.Rows.sortedHeap_at (vs := acc.toList) (out := out) hoL
  have hlen : (ns'.map V.int).length ≤ sizeLine := by rw [List.length_map, a2.length_eq]; exact small64 h64
  refine wpAny_pure ⟨_, rfl, .ref h'.objs.size, upd H1 h'.objs.size (.lst (ns'.map V.int)), I2.laid (t' := tk) (fun b u e => ?_) (Nat.le_refl _) ⟨hlen, out.toList, e', vals_of_ints a1, by rw [Array.toArray_toList]; exact he'⟩, rfl, q ns' _ a2 a3 (I2.hok.fresh (Nat.le_refl _))⟩
  have hb : b < h'.objs.size := Heap.lt_size e
  rw [PyProof.Rows.sortedHeap_old (Nat.ne_of_lt hb) (by rw [size_push']; exact Nat.lt_succ_of_lt hb)]
  exact Heap.get?_push_of_some _ e
end
end GX

-- text Tix
set_option maxRecDepth 100000
set_option maxHeartbeats 4000000
/-! Tix: a tuple made from a list, and its index(..). -/
namespace GX
open PySem PySem.Spec PyProof.Rows L2 LamX
section
variable {X : Cx}
/-- tuple(xs), xs a list: the new tuple's object is known -/
def rTupF (K : PySem.W.Frag) : List V → Hp → VK → Prop := fun vs H Q => ∃ p ys, vs = [.ref p] ∧ SqL K H p ys ∧ ∀ t ob, ob.dict = none → H t = none → Q (.ref t) (upd H t (.frz ob (.tup ys)))
theorem cr_tupF : CallR X (.type "tuple") (rTupF X.K) := by
  intro pins s σ H xs us Q I r h
  obtain ⟨p, ys, rfl, hq, q⟩ := h
  obtain ⟨u, rfl, rx⟩ := vals1 r
  cases rx
  obtain ⟨its, rv, isl, hz⟩ := I.list hq
  have hlen := rv.length
  refine call_tuple_list isl.isList (fun hh keep => ?_) (by simp only [List.size_toArray] <;> omega)
  have J := I.kept (t' := s.toks) keep
  exact ⟨.ref hh.objs.size, _, J.laid (t' := s.toks) (o := .frz { cls := .type "tuple", data := .seq its.toArray } (.tup ys)) (fun b o e => Heap.get?_push_of_some _ e) (Nat.le_refl _) ⟨Heap.get?_push_size _ rfl, hz, its, rv, IsTup.new _ _⟩, rfl, q _ _ rfl (J.hok.fresh (Nat.le_refl _))⟩
variable {o e : Expr} {es : List Expr} {to : TE} {t : TA} {apos cpos : Pos} {r : V → List V → Hp → VK → Prop}
def tTix (r : V → List V → Hp → VK → Prop) (to : TE) (t : TA) : TE := fun σ H Q => to σ H fun x H1 => (∃ p ob xs, x = .ref p ∧ H1 p = some (.frz ob (.tup xs)) ∧ ob.dict = none) ∧ t σ H1 fun xs H2 => r x xs H2 Q
/-- t.index(x) of such a tuple -/
theorem pe_tix (hm : MtR X "tuple.index" r) (ho : PE X o to) (ha : PA X (e :: es) t) (hbase : attributeBase o "index" X.env (eval o X.env) = eval o X.env := by rfl)
    (hfew : ((backTo cpos (starEach (e :: es) X.env)).all (fun x => !x.1) && (backToKw cpos (keywordEach [] X.env)).all (fun x => x.1.isSome)
      && decide ((e :: es).length + ([] : List Keyword).length + (if ([] : List Keyword).isEmpty then 0 else 1) < 30)) = true := by rfl)
    (hline : (apos.endLine == cpos.line) = true := by rfl) (hs : starEach (e :: es) X.env = (false, eval e X.env) :: starEach es X.env := by rfl) (hplain : (backTo cpos (starEach es X.env)).any (·.1) = false := by rfl) :
    PE X (.Call (.Attribute o "index" apos) (e :: es) [] cpos) (tTix r to t) := by
  refine ⟨fun pins s σ H Q I h => wpAny_Call_method_late hbase hfew hline rfl (thn (ho.run pins s σ H _ I h) fun v s1 ⟨x, H1, I1, r1, ⟨p, ob, xs, ex, hp, hob⟩, q1⟩ => ?_)⟩
  subst ex
  obtain rfl : v = Value.ref p := r1
  obtain ⟨hg, _, its, _, tp⟩ := (show ObjOk X.prog X.w H1 s1.heap p (.frz ob (.tup xs)) from I1.hok p _ hp)
  obtain ⟨o2, g2, c2, _⟩ := tp
  have go := ha.run cpos pins s1 σ H1 _ I1 q1
  rw [hs] at go ⊢
  refine ⟨"tuple", "tuple.index", PySem.F.plainAttrs_tuple, PySem.F.slot_tuple_index, PySem.F.type_tuple_index, ⟨o2, g2, c2⟩, fun a ea => ?_, ?_⟩
  · cases ea
    exact ⟨ob, hg, hob⟩
  · refine Calls.callWith_builtin (by show (false || (backTo cpos (starEach es X.env)).any (·.1)) = false; rw [hplain] <;> rfl) (Calls.evalArgs_plain ?_)
    exact thn go fun us s2 ⟨ws, H2, I2, r2, q2⟩ => hm pins s2 σ H2 (.ref p) ws _ us Q I2 rfl r2 q2
end
end GX

-- text Lp2
set_option maxRecDepth 100000
set_option maxHeartbeats 4000000
/-! Lp2: walks over the signs of a text. -/
namespace GX
open PySem PySem.Spec PyProof.Rows L2 LamX
theorem lc_txt {g : TG} {tt : TT} {te : TE} {vs : List Nat} {σ : L2.St} {H1 : Hp} {D : Addr} {Qd : Hp → Prop} (l : List Nat) (Pv : Nat → Hp → Prop) (h0 : Pv 0 (upd H1 D (.lst [])))
    (hs : ∀ i c H, l[i]? = some c → Pv i H → g (.str (S [c])) (wipe σ vs) H fun σ2 H2 => wipe σ2 vs = wipe σ vs ∧ tt σ2 H2 fun b H3 =>
      if b = true then te σ2 H3 fun y H4 => ∃ acc, H4 D = some (.lst acc) ∧ acc.length < sizeLine ∧ Pv (i + 1) (upd H4 D (.lst (acc ++ [y]))) else Pv (i + 1) H3)
    (hd : ∀ H, Pv l.length H → Qd H) :
    ∃ W : Nat → Nat → Hp → Prop, (∃ m, W 0 m (upd H1 D (.lst []))) ∧ ∀ i m H, W i m H →
      ((Its (S l)).stop i H ∧ Qd H) ∨ ((Its (S l)).go i H ∧ ∃ Nx : Hp → Prop, (∀ H', Nx H' → ∃ m', m' < m ∧ W (i + 1) m' H') ∧ ∀ x H', (Its (S l)).yld i H x H' → g x (wipe σ vs) H' fun σ2 H2 => wipe σ2 vs = wipe σ vs ∧ tt σ2 H2 fun b H3 =>
        if b = true then te σ2 H3 fun y H4 => ∃ acc, H4 D = some (.lst acc) ∧ acc.length < sizeLine ∧ Nx (upd H4 D (.lst (acc ++ [y]))) else Nx H3) := by
  refine lc_n l.length Pv h0 (fun i H hi p => ⟨?_, ?_⟩) (fun H p => ⟨?_, hd H p⟩)
  · show i < (S l).cps.size
    simpa [S] using hi
  · rintro x H' ⟨rfl, c, hc, rfl⟩
    exact hs i c _ (by simpa [S] using hc) p
  · show (S l).cps.size ≤ l.length
    simp [S]
theorem for_txt {g : TG} {tb : TS} {D : Ends} {σ : L2.St} {H : Hp} (l : List Nat) (Pv : Nat → L2.St → Hp → Prop) (h0 : Pv 0 σ H)
    (hs : ∀ i c σ H, l[i]? = some c → Pv i σ H → g (.str (S [c])) σ H fun σ2 H2 => tb { D with nx := Pv (i + 1), ct := Pv (i + 1), bk := D.nx } σ2 H2)
    (hd : ∀ σ H, Pv l.length σ H → D.nx σ H) :
    ∃ W : Nat → Nat → L2.St → Hp → Prop, (∃ m, W 0 m σ H) ∧ ∀ i m σ H, W i m σ H →
      ((Its (S l)).stop i H ∧ D.nx σ H) ∨ ((Its (S l)).go i H ∧ ∃ N : L2.St → Hp → Prop, (∀ σ' H', N σ' H' → ∃ m', m' < m ∧ W (i + 1) m' σ' H') ∧ ∀ x H', (Its (S l)).yld i H x H' → g x σ H' fun σ2 H2 => tb { D with nx := N, ct := N, bk := D.nx } σ2 H2) := by
  refine for_n l.length Pv h0 (fun i σ H hi p => ⟨?_, ?_⟩) (fun σ H p => ⟨?_, hd σ H p⟩)
  · show i < (S l).cps.size
    simpa [S] using hi
  · rintro x H' ⟨rfl, c, hc, rfl⟩
    exact hs i c σ _ (by simpa [S] using hc) p
  · show (S l).cps.size ≤ l.length
    simp [S]
/-- the same without a test -/
theorem lc_txtY {g : TG} {te : TE} {vs : List Nat} {σ : L2.St} {H1 : Hp} {D : Addr} {Qd : Hp → Prop} (l : List Nat) (Pv : Nat → Hp → Prop) (h0 : Pv 0 (upd H1 D (.lst [])))
    (hs : ∀ i c H, l[i]? = some c → Pv i H → g (.str (S [c])) (wipe σ vs) H fun σ2 H2 => wipe σ2 vs = wipe σ vs ∧ te σ2 H2 fun y H4 => ∃ acc, H4 D = some (.lst acc) ∧ acc.length < sizeLine ∧ Pv (i + 1) (upd H4 D (.lst (acc ++ [y]))))
    (hd : ∀ H, Pv l.length H → Qd H) (hm : ∀ v σ H Q Q', (∀ σ H, Q σ H → Q' σ H) → g v σ H Q → g v σ H Q') :
    ∃ W : Nat → Nat → Hp → Prop, (∃ m, W 0 m (upd H1 D (.lst []))) ∧ ∀ i m H, W i m H →
      ((Its (S l)).stop i H ∧ Qd H) ∨ ((Its (S l)).go i H ∧ ∃ Nx : Hp → Prop, (∀ H', Nx H' → ∃ m', m' < m ∧ W (i + 1) m' H') ∧ ∀ x H', (Its (S l)).yld i H x H' → g x (wipe σ vs) H' fun σ2 H2 => wipe σ2 vs = wipe σ vs ∧ tYes σ2 H2 fun b H3 =>
        if b = true then te σ2 H3 fun y H4 => ∃ acc, H4 D = some (.lst acc) ∧ acc.length < sizeLine ∧ Nx (upd H4 D (.lst (acc ++ [y]))) else Nx H3) :=
  lc_txt l Pv h0 (fun i c H hc p => hm _ _ _ _ _ (fun σ2 H2 ⟨e, z⟩ => ⟨e, @iteT _ (Pv (i + 1) H2) z⟩) (hs i c H hc p)) hd
theorem mono_name {i : Nat} : ∀ v σ H Q Q', (∀ σ H, Q σ H → Q' σ H) → gName i v σ H Q → gName i v σ H Q' := fun _ _ _ _ _ h z => h _ _ z
theorem lenS_one {c : Nat} : (S [c]).length ≤ 640 := by rw [S_len]; exact Nat.le_trans (Nat.le_refl 1) (by decide)
theorem take_snoc {α : Type} {l : List α} {i : Nat} {c : α} (h : l[i]? = some c) : l.take (i + 1) = l.take i ++ [c] := by rw [List.take_add_one, h]; rfl
end GX

-- text Cut
set_option maxRecDepth 100000
set_option maxHeartbeats 4000000
/-! Cut: a word between an expression and what follows. -/
namespace GX
open PySem PySem.Spec PyProof.Rows L2 LamX
/-- what follows is shown once, from Mid -/
def tMid (t : TE) : TE := fun σ H Q => ∃ Mid : V → Hp → Prop, t σ H Mid ∧ ∀ v H', Mid v H' → Q v H'
theorem pe_mid {X : Cx} {e : Expr} {t : TE} (h : PE X e t) : PE X e (tMid t) := by
  refine ⟨fun pins s σ H Q I ⟨Mid, hm, hq⟩ => thn (h.run pins s σ H Mid I hm) fun v s1 ⟨x, H1, I1, r1, q1⟩ => ⟨x, H1, I1, r1, hq x H1 q1⟩⟩
end GX

-- text Dct
set_option maxRecDepth 100000
set_option maxHeartbeats 4000000
/-! Dct: dicts with texts for keys. -/
namespace GX
open PySem PySem.Spec PyProof.Rows L2 LamX
abbrev SD (α : Type) := List (Str × α)
/-- the entries of a dict -/
def ents {α : Type} (f : α → V) (cs : SD α) : List (L2.Key × V) := cs.map fun p => (Sum.inr p.1, f p.2)
def look {α : Type} (cs : SD α) (n : Str) : Option α := (cs.find? fun p => decide (p.1 = n)).map (·.2)
theorem valV_ents {α : Type} (f : α → V) (n : Str) : ∀ cs : SD α, valV (ents f cs) (Sum.inr n) = (look cs n).map f
  | [] => rfl
  | p :: r => by
    show valV ((Sum.inr p.1, f p.2) :: ents f r) (Sum.inr n) = _
    by_cases h : p.1 = n
    · rw [valV_pos (by rw [h])]
      unfold look
      rw [List.find?_cons_of_pos (by simpa using h)]
      rfl
    · rw [valV_neg (by simpa using h), valV_ents f n r]
      unfold look
      rw [List.find?_cons_of_neg (by simpa using h)]
theorem ents_keys {α : Type} (f : α → V) (cs : SD α) : (ents f cs).map (·.1) = (cs.map (·.1)).map Sum.inr := by
  unfold ents
  rw [List.map_map, List.map_map]
  rfl
theorem ents_len {α : Type} (f : α → V) (cs : SD α) : (ents f cs).length = cs.length := by unfold ents; rw [List.length_map]
theorem look_mem {α : Type} {cs : SD α} {n : Str} (h : n ∈ cs.map (·.1)) : ∃ v, look cs n = some v ∧ (n, v) ∈ cs := by
  obtain ⟨p, hp, rfl⟩ := List.mem_map.mp h
  cases e : cs.find? fun q => decide (q.1 = p.1) with
  | none =>
    have := List.find?_eq_none.mp e p hp
    simp at this
  | some q =>
    have h1 := List.mem_of_find?_eq_some e
    have h2 := List.find?_some e
    have h2 : q.1 = p.1 := by simpa using h2
    refine ⟨q.2, by unfold look; rw [e]; rfl, ?_⟩
    rw [← h2]
    exact h1
theorem look_of {α : Type} {cs : SD α} (hn : (cs.map (·.1)).Nodup) {p : Str × α} (h : p ∈ cs) : look cs p.1 = some p.2 := by
  obtain ⟨v, h1, h2⟩ := look_mem (List.mem_map.mpr ⟨p, h, rfl⟩)
  rw [h1]
  obtain ⟨i, hi, e1⟩ := List.mem_iff_getElem.mp h
  obtain ⟨j, hj, e2⟩ := List.mem_iff_getElem.mp h2
  have hij : i = j := by
    have a : (cs.map (·.1))[i]'(by rw [List.length_map]; exact hi) = (cs.map (·.1))[j]'(by rw [List.length_map]; exact hj) := by
      rw [List.getElem_map, List.getElem_map, e1, e2]
    exact (List.getElem_inj hn).mp a
  subst hij
  rw [e1] at e2
  rw [e2]
theorem look_none {α : Type} {cs : SD α} {n : Str} (h : ¬ n ∈ cs.map (·.1)) : look cs n = none := by
  unfold look
  have : cs.find? (fun p => decide (p.1 = n)) = none := List.find?_eq_none.mpr fun p hp z => h (List.mem_map.mpr ⟨p, hp, by simpa using z⟩)
  rw [this]
  rfl
/-- read at a name, whether the dict is locked or not -/
theorem dget_rd {α : Type} {f : α → V} {cs : SD α} {H : Hp} {a : Addr} {n : Str} {v : α} (h : Rd H a (.dK (ents f cs))) (e : look cs n = some v) : DGet H a (.str n) (some (f v)) :=
  .inl ⟨_, Sum.inr n, h, rfl, by rw [valV_ents, e]; rfl⟩
theorem dget_of {α : Type} {f : α → V} {cs : SD α} {H : Hp} {a : Addr} {n : Str} {v : α} (h : H a = some (.dK (ents f cs))) (e : look cs n = some v) : DGet H a (.str n) (some (f v)) := dget_rd (.inl h) e
section
variable {T : List (Addr × Str)} {H H' : Hp} {d : Addr} {u : HO} {o : Obj}
theorem tabs_lock (t : Tabs T H) (hd : H d = some u) (hu : PlainO u) : Tabs T (upd H d (.frz o u)) := tabs_upd t fun v e => by rw [hd] at e; cases e; exact hu
theorem Le.unlock (hd : H d = some u) (hu : PlainO u) (x : Le T (L2.upd H d (.frz o u)) H') : Le T H (L2.upd H' d u) := by
  have h1 : H' d = some (.frz o u) := x.at upd_same
  refine ⟨fun b v e n => ?_, tabs_upd x.tab fun v e => by rw [h1] at e; cases e; trivial, fun b e => ?_⟩
  · by_cases hb : b = d
    · subst hb
      rw [hd] at e
      cases e
      exact upd_same
    · rw [upd_ne hb]
      exact x.ext b v (by rw [upd_ne hb]; exact e) n
  · have nb : b ≠ d := fun z => by rw [z, upd_same] at e; cases e
    have e1 : L2.upd H d (.frz o u) b = none := x.no b (upd_none2 e)
    rw [upd_ne nb] at e1
    exact e1
/-- what stands beside stands within the lock -/
theorem at_lock {a : Addr} {v : HO} (h : H a = some v) (n : a ≠ d) : upd H d (.frz o u) a = some v := (upd_ne n).trans h
end
/-- b begins a -/
def begins (a b : List Nat) : Bool := decide (a.take b.length = b)
theorem starts_eq (a b : List Nat) : Txt.startswith (S a) (S b) = begins a b := by
  have e : Txt.startswith (S a) (S b) = (decide (0 + (S b).length ≤ (S a).length) && ((S a).cps.extract 0 (0 + (S b).length) == (S b).cps)) := rfl
  rw [e, S_len, S_len, Nat.zero_add]
  unfold begins
  have h : ((S a).cps.extract 0 b.length == (S b).cps) = decide (a.take b.length = b) := by
    have : (S a).cps.extract 0 b.length = (a.take b.length).toArray := by simp [S]
    rw [this]
    by_cases q : a.take b.length = b
    · rw [q, decide_eq_true rfl]
      exact beq_self_eq_true _
    · rw [decide_eq_false q]
      apply beq_false_of_ne
      intro z
      exact q (by simpa [S] using congrArg Array.toList z)
  rw [h]
  by_cases q : a.take b.length = b
  · have : b.length ≤ a.length := by
      have := congrArg List.length q
      rw [List.length_take] at this
      omega
    rw [decide_eq_true this]
    rfl
  · rw [decide_eq_false q, Bool.and_false]
end GX

-- text Any1
set_option maxRecDepth 100000
set_option maxHeartbeats 4000000
/-! Any1: the reading of any(.. for x in xs), xs a list that stands. -/
namespace GX
open PySem PySem.Spec PyProof.Rows L2 LamX
section
variable {T : List (Addr × Str)} {K : PySem.W.Frag} {g : TG} {te : TE} {vs : List Nat} {σ : L2.St} {H : Hp} {Qt Qf : Hp → Prop}
/-- what a turn leaves -/
theorem any_close {pb : Nat → Bool} {i : Nat} {c : Bool} {H4 : Hp} {A : Prop} (hc : c = pb i) (h0 : ∀ j, j < i → pb j = false) (L : Le T H H4) (ht : pb i = true → A) :
    if c = true then A else Le T H H4 ∧ ∀ j, j < i + 1 → pb j = false := by
  subst hc
  cases e : pb i with
  | true => exact iteT (ht e)
  | false =>
    refine iteF ⟨L, fun j hj => ?_⟩
    by_cases hji : j = i
    · rw [hji, e]
    · exact h0 j (by omega)
theorem genAny_list {a : Addr} {xs : List V} (pb : Nat → Bool) (hs : SqL K H a xs)
    (step : ∀ i x H', xs[i]? = some x → (∀ j, j < i → pb j = false) → Le T H H' → g x (wipe σ vs) H' fun σ2 H3 => wipe σ2 vs = wipe σ vs ∧ te σ2 H3 fun y H4 => ∃ c, y = .bl c ∧ if c = true then Qt H4 else Le T H H4 ∧ ∀ j, j < i + 1 → pb j = false)
    (fin : ∀ H', Le T H H' → (∀ j, j < xs.length → pb j = false) → Qf H') :
    ∀ H2, ExtN H H2 → Tabs T H2 → (∀ b, H2 b = none → H b = none) → ∃ (n₀ : Nat) (W : Nat → Hp → Prop), W 0 H2 ∧
      (∀ i H, i < n₀ → W i H → (Itl K a).go i H ∧ ∀ x H', (Itl K a).yld i H x H' → g x (wipe σ vs) H' fun σ2 H3 => wipe σ2 vs = wipe σ vs ∧ te σ2 H3 fun y H4 => ∃ c, y = .bl c ∧ if c = true then Qt H4 else W (i + 1) H4) ∧
      (∀ H, W n₀ H → (Itl K a).stop n₀ H ∧ Qf H) := by
  intro H2 hE hT2 hno2
  refine ⟨xs.length, fun i H' => Le T H H' ∧ ∀ j, j < i → pb j = false, ⟨⟨hE, hT2, hno2⟩, fun j h => absurd h (Nat.not_lt_zero j)⟩, fun i H3 hi ⟨L3, h3⟩ => ⟨Itl_go (L3.seqL hs) hi, fun x H4 y => ?_⟩, fun H3 ⟨L3, h3⟩ => ⟨Itl_stop (L3.seqL hs) (Nat.le_refl _), fin H3 L3 h3⟩⟩
  obtain ⟨rfl, hx⟩ := Itl_yld (L3.seqL hs) y
  exact step i x _ hx h3 L3
end
theorem getD_of {α : Type} {l : List α} {i : Nat} {x d : α} (h : l[i]? = some x) : l.getD i d = x := by rw [List.getD_eq_getElem?_getD, h]; rfl
end GX

-- text K2A
set_option maxRecDepth 100000
set_option maxHeartbeats 4000000
namespace K2
open PySem PySem.Spec PyProof.Rows L2 LamX GX
section
variable {P : Program} {w : World} {K : PySem.W.Frag} {mg : Str → Option Value} {base : Heap}
abbrev aTE (K : PySem.W.Frag) : Addr := He.ga K "TowerError"
abbrev aLd (K : PySem.W.Frag) : Addr := He.ga K "Land"
abbrev aNt (K : PySem.W.Frag) : Addr := He.ga K "Net"
/-! ### nearest -/
def near (n p : Int) : List Int := if (2 * n + p) % (2 * p) = 0 then [(2 * n + p - 1) / (2 * p), (2 * n + p - 1) / (2 * p) + 1] else [(2 * n + p - 1) / (2 * p)]
theorem near_len (n p : Int) : (near n p).length ≤ 2 := by
  unfold near
  by_cases h : (2 * n + p) % (2 * p) = 0
  · rw [if_pos h]; exact Nat.le_refl _
  · rw [if_neg h]; exact Nat.le_succ _
def spNr : Sp := fun vs H Q _ => ∃ n p : Int, vs = [.int n, .int p] ∧ 0 < p ∧ p < 2 ^ 20 ∧ ∀ t, H t = none → Q (.ref t) (upd H t (.tup ((near n p).map V.int)))
theorem ok_nearest (C : Ctx K mg base) : CalX P w K mg base 1 "nearest" ["number", "parts"] spNr := by
  obtain ⟨fd, F⟩ := C.d.d_nearest
  refine ⟨_, fd, ?_, F.funD.bindsN fun _ _ _ _ _ _ us hl => (match us, hl with | [_, _], _ => rfl), F.kp, C.t.m_nearest⟩
  refine F.ok sc_nearest (fun vs H Q E h => ?_) (fun A outer s H vs Q E hr h => ?_)
  · obtain ⟨n, p, rfl, _⟩ := h
    rfl
  · obtain ⟨n, p, rfl, hp, hp2, hq⟩ := h
    have nn := sc_nearest.nd
    refine ⟨_, pss_cons (ps_set (i := 2) nn rfl (by first | exact Or.inl rfl | exact Or.inr rfl) (pe_op op_fdiv (pe_op op_sub (pe_op op_add (pe_op op_mul pe_int (pv 0)) (pv 1)) pe_int) (pe_op op_mul pe_int (pv 1))))
      (pss_one (ps_ret (pe_ifExp (pt_cmpR op_eq (pe_op op_mod (pe_op op_add (pe_op op_mul pe_int (pv 0)) (pv 1)) (pe_op op_mul pe_int (pv 1))) pe_int (nomark _)) (pe_tup (pa_cons (pv 2) (pa_cons (pe_op op_add (pv 2) pe_int) pa_nil))) (pe_tup (pa_cons (pv 2) pa_nil))))), ?_⟩
    have b2 : -(2 ^ 64) < (2 : Int) ∧ (2 : Int) < 2 ^ 64 := by decide
    refine ⟨_, rfl, _, _, rfl, rfl, .inl ⟨by decide, by decide⟩, _, rfl, _, _, rfl, rfl, _, _, rfl, rfl, _, rfl, _, _, rfl, rfl, .inl ⟨by decide, by decide⟩, _, _, rfl, rfl, ⟨by omega, by omega⟩, ?_⟩
    refine ⟨_, rfl, _, _, rfl, rfl, .inl ⟨by decide, by decide⟩, _, rfl, _, _, rfl, rfl, _, rfl, _, _, rfl, rfl, .inl ⟨by decide, by decide⟩, _, _, rfl, rfl, ?_, rfl, _, rfl, ?_⟩
    · show 0 < 2 * p
      omega
    unfold near at hq
    by_cases h : (2 * n + p) % (2 * p) = 0
    · rw [if_pos h] at hq
      rw [decide_eq_true (show V.int ((2 * n + p) % (2 * p)) = V.int 0 by rw [h])]
      exact iteT ⟨_, rfl, _, rfl, _, _, rfl, rfl, by show 2 ≤ sizeLine; decide, fun t ht => hq t ht⟩
    · rw [if_neg h] at hq
      rw [decide_eq_false (show ¬ V.int ((2 * n + p) % (2 * p)) = V.int 0 from fun z => h (V.int.inj z))]
      exact iteF ⟨_, rfl, by show 1 ≤ sizeLine; decide, fun t ht => hq t ht⟩
/-! ### between -/
abbrev Pt := Int × Int
/-- a tuple of points -/
def isPts (H : Hp) (L : List (Addr × Pt)) : Prop := ∀ x ∈ L, H x.1 = some (.tup [.int x.2.1, .int x.2.2])
theorem Le.pts {T : List (Addr × Str)} {H H' : Hp} {L : List (Addr × Pt)} (x : Le T H H') (h : isPts H L) : isPts H' L := fun y hy => x.at (h y hy)
def iabs (n : Int) : Int := if n < 0 then -n else n
def btw (x y wide high step steps : Int) : List Pt := if iabs high ≤ iabs wide then (near (high * step) steps).map fun f => (x + (if 0 < wide then step else 0 - step), y + f)
  else (near (wide * step) steps).map fun f => (x + f, y + (if 0 < high then step else 0 - step))
def spBt (K : PySem.W.Frag) : Sp := fun vs H Q _ => ∃ (o : Addr) (x y wide high step steps : Int) (rest : List V), vs = [.ref o, .int wide, .int high, .int step, .int steps] ∧ SqT K H o (.int x :: .int y :: rest) ∧ Tabs (T K) H ∧ 0 < steps ∧ steps < 2 ^ 20 ∧ (-(2 ^ 20) < step ∧ step < 2 ^ 20) ∧
  ∀ (L : List (Addr × Pt)) (t : Addr) H', Le (T K) H H' → L.map (·.2) = btw x y wide high step steps → isPts H' L → H' t = some (.tup (L.map fun x => V.ref x.1)) → Q (.ref t) H'
theorem ok_between (C : Ctx K mg base) : CalX P w K mg base 2 "between" ["one", "wide", "high", "step", "steps"] (spBt K) := by
  obtain ⟨fd, F⟩ := C.d.d_between
  refine ⟨_, fd, ?_, F.funD.bindsN fun _ _ _ _ _ _ us hl => (match us, hl with | [_, _, _, _, _], _ => rfl), F.kp, C.t.m_between⟩
  refine F.ok sc_between (fun vs H Q E h => ?_) (fun A outer s H vs Q E hr h => ?_)
  · obtain ⟨o, x, y, wide, high, step, steps, rest, rfl, _⟩ := h
    rfl
  · obtain ⟨o, x, y, wide, high, step, steps, rest, rfl, ho, hT, hs0, hs1, hst, hq⟩ := h
    have nn := sc_between.nd
    refine ⟨_, pss_cons (ps_if (pt_cmpR op_ge (pe_callB call_abs (by rfl) C.t.b_abs (by decide +kernel) (pa_cons (pv 1) pa_nil)) (pe_callB call_abs (by rfl) C.t.b_abs (by decide +kernel) (pa_cons (pv 2) pa_nil)) (nomark _))
        (pss_cons (ps_set (i := 5) nn rfl (by first | exact Or.inl rfl | exact Or.inr rfl) (pe_op op_add (pe_ix ix_tup (pv 0) pe_int (fun _ _ => rfl)) (pe_mid (pe_ifExp (pt_cmpR op_gt (pv 1) pe_int (nomark _)) (pv 3) (pe_op op_sub pe_int (pv 3))))))
        (pss_one (ps_ret (pe_genTup (T := T K) (own := [("far", 7)]) (g := gName 7) hr rfl C.t.b_tuple nn (C.b _ (tf_mem 1)) rfl (T_mem 1) (T_uniq C.u 1) (pi_tup (pe_cx (ok_nearest (P := P) (w := w) C) hr (by decide) rfl passA (pa_cons (pe_op op_mul (pv 2) (pv 3)) (pa_cons (pv 4) pa_nil)))) (gsc_by (blkOk_by (N := n_between) (sc := defScope s_between) (by decide +kernel)) (by decide +kernel))
          (fun _ _ _ _ _ => (pg_name (i := 7) nn rfl (by first | exact Or.inl rfl | exact Or.inr rfl))) (fun _ _ _ _ _ _ => by exact pe_tup (pa_cons (pv 5) (pa_cons (pe_op op_add (pe_ix (r := rIxT K) ix_tup (pv 0) pe_int (fun _ _ => rfl)) (pv 7)) pa_nil))))))) pss_nil)
      (pss_cons (ps_set (i := 6) nn rfl (by first | exact Or.inl rfl | exact Or.inr rfl) (pe_op op_add (pe_ix ix_tup (pv 0) pe_int (fun _ _ => rfl)) (pe_mid (pe_ifExp (pt_cmpR op_gt (pv 2) pe_int (nomark _)) (pv 3) (pe_op op_sub pe_int (pv 3))))))
      (pss_one (ps_ret (pe_genTup (T := T K) (own := [("far", 7)]) (g := gName 7) hr rfl C.t.b_tuple nn (C.b _ (tf_mem 1)) rfl (T_mem 1) (T_uniq C.u 1) (pi_tup (pe_cx (ok_nearest (P := P) (w := w) C) hr (by decide) rfl passA (pa_cons (pe_op op_mul (pv 1) (pv 3)) (pa_cons (pv 4) pa_nil)))) (gsc_by (blkOk_by (N := n_between) (sc := defScope s_between) (by decide +kernel)) (by decide +kernel))
          (fun _ _ _ _ _ => (pg_name (i := 7) nn rfl (by first | exact Or.inl rfl | exact Or.inr rfl))) (fun _ _ _ _ _ _ => by exact pe_tup (pa_cons (pe_op op_add (pe_ix (r := rIxT K) ix_tup (pv 0) pe_int (fun _ _ => rfl)) (pv 7)) (pa_cons (pv 6) pa_nil))))))), ?_⟩
    refine ⟨_, rfl, _, rfl, _, rfl, _, rfl, _, _, rfl, rfl, _, rfl, ?_⟩
    by_cases hw : iabs high ≤ iabs wide
    · rw [decide_eq_true (show (if high < 0 then -high else high) ≤ (if wide < 0 then -wide else wide) from hw)]
      refine iteT ⟨_, rfl, o, _, _, _, rfl, rfl, ho, atI_nat (j := 0) rfl, ?_⟩
      refine ⟨fun v H' => v = .int (if 0 < wide then step else 0 - step) ∧ H' = H, ?_, ?_⟩
      · refine ⟨_, rfl, _, _, rfl, rfl, _, rfl, ?_⟩
        by_cases h0 : 0 < wide
        · rw [decide_eq_true h0, if_pos h0]; exact iteT ⟨_, rfl, rfl, rfl⟩
        · rw [decide_eq_false h0, if_neg h0]; exact iteF ⟨_, rfl, _, _, rfl, rfl, rfl, rfl⟩
      rintro v H' ⟨rfl, rfl⟩
      refine ⟨_, _, rfl, rfl, ?_⟩
      refine ⟨_, rfl, _, rfl, _, _, rfl, rfl, .inr ⟨by omega, by omega⟩, _, rfl, high * step, steps, rfl, hs0, hs1, fun t ht => ?_⟩
      have L1 := (Le.refl hT).new (o := .tup ((near (high * step) steps).map V.int)) ht
      have ht1 : upd H' t (.tup ((near (high * step) steps).map V.int)) t = some (.tup ((near (high * step) steps).map V.int)) := upd_same
      have nl := near_len (high * step) steps
      have hgoal : ∀ (L : List (Addr × Pt)) (t : Addr) (H2 : Hp), Le (T K) H' H2 → L.map (·.2) = (near (high * step) steps).map (fun f => (x + (if 0 < wide then step else 0 - step), y + f)) → isPts H2 L → H2 t = some (.tup (L.map fun x => V.ref x.1)) → Q (.ref t) H2 := fun L t H2 LL e1 e2 e3 => hq L t H2 LL (by rw [e1]; unfold btw; rw [if_pos hw]) e2 e3
      clear hq
      refine ⟨t, rfl, ⟨_, SqT.of ht1⟩, ?_⟩
      generalize near (high * step) steps = nr at L1 ht1 nl hgoal ⊢
      generalize upd H' t (.tup (nr.map V.int)) = H1 at L1 ht1
      refine ⟨L1.tab, fun H2 hE hT2 hno2 => ?_⟩
      have L2 : Le (T K) H' H2 := L1.trans ⟨hE, hT2, hno2⟩
      have ht2 := (show Le (T K) H1 H2 from ⟨hE, hT2, hno2⟩).at ht1
      refine ⟨nr.length, fun i ys H3 => Le (T K) H2 H3 ∧ ∃ L : List (Addr × Pt), ys = (L.map fun x => V.ref x.1) ∧ isPts H3 L ∧ L.map (·.2) = (nr.take i).map fun f => (x + (if 0 < wide then step else 0 - step), y + f), Nat.le_trans nl (by decide), ⟨Le.refl hT2, [], rfl, (fun x hx => by cases hx), rfl⟩,
        fun i ys H3 hi ⟨L3, L, e1, e2, e3⟩ => ⟨Itt_go (SqT.of (L3.at ht2)) (by rw [List.length_map]; exact hi), fun v H4 y4 => ?_⟩, fun ys H3 ⟨L3, L, e1, e2, e3⟩ => ⟨Itt_stop (SqT.of (L3.at ht2)) (by rw [List.length_map]; exact Nat.le_refl _), fun p hp => ?_⟩⟩
      · obtain ⟨rfl, hx⟩ := Itt_yld (SqT.of (L3.at ht2)) y4
        obtain ⟨f, hf, rfl⟩ := GX.get_map hx
        have ho3 : SqT K H4 o _ := (L2.trans L3).seqT ho
        refine ⟨rfl, ?_⟩
        refine ⟨_, rfl, _, rfl, o, _, _, _, rfl, rfl, ho3, atI_nat (j := 1) rfl, _, rfl, _, _, rfl, rfl, by show 2 ≤ sizeLine; decide, fun u hu => ?_⟩
        refine ⟨L3.new hu, L ++ [(u, (x + (if 0 < wide then step else 0 - step), y + f))], by rw [List.map_append, e1]; rfl, fun x hx => ?_, ?_⟩
        · rcases List.mem_append.mp hx with hx | hx
          · have := e2 x hx
            exact (upd_ne (ne_of_none this hu)).trans this
          · rw [List.mem_singleton.mp hx]; exact upd_same
        · rw [List.map_append, e3, GX.take_snoc hf, List.map_append]
          rfl
      · rw [List.take_of_length_le (Nat.le_refl _)] at e3
        subst e1
        exact hgoal L p _ ((L2.trans L3).new hp) e3 (fun x hx => (upd_ne (ne_of_none (e2 x hx) hp)).trans (e2 x hx)) upd_same
    · rw [decide_eq_false (show ¬ (if high < 0 then -high else high) ≤ (if wide < 0 then -wide else wide) from hw)]
      refine iteF ⟨_, rfl, o, _, _, _, rfl, rfl, ho, atI_nat (j := 1) rfl, ?_⟩
      refine ⟨fun v H' => v = .int (if 0 < high then step else 0 - step) ∧ H' = H, ?_, ?_⟩
      · refine ⟨_, rfl, _, _, rfl, rfl, _, rfl, ?_⟩
        by_cases h0 : 0 < high
        · rw [decide_eq_true h0, if_pos h0]; exact iteT ⟨_, rfl, rfl, rfl⟩
        · rw [decide_eq_false h0, if_neg h0]; exact iteF ⟨_, rfl, _, _, rfl, rfl, rfl, rfl⟩
      rintro v H' ⟨rfl, rfl⟩
      refine ⟨_, _, rfl, rfl, ?_⟩
      refine ⟨_, rfl, _, rfl, _, _, rfl, rfl, .inr ⟨by omega, by omega⟩, _, rfl, wide * step, steps, rfl, hs0, hs1, fun t ht => ?_⟩
      have L1 := (Le.refl hT).new (o := .tup ((near (wide * step) steps).map V.int)) ht
      have ht1 : upd H' t (.tup ((near (wide * step) steps).map V.int)) t = some (.tup ((near (wide * step) steps).map V.int)) := upd_same
      have nl := near_len (wide * step) steps
      have hgoal : ∀ (L : List (Addr × Pt)) (t : Addr) (H2 : Hp), Le (T K) H' H2 → L.map (·.2) = (near (wide * step) steps).map (fun f => (x + f, y + (if 0 < high then step else 0 - step))) → isPts H2 L → H2 t = some (.tup (L.map fun x => V.ref x.1)) → Q (.ref t) H2 := fun L t H2 LL e1 e2 e3 => hq L t H2 LL (by rw [e1]; unfold btw; rw [if_neg hw]) e2 e3
      clear hq
      refine ⟨t, rfl, ⟨_, SqT.of ht1⟩, ?_⟩
      generalize near (wide * step) steps = nr at L1 ht1 nl hgoal ⊢
      generalize upd H' t (.tup (nr.map V.int)) = H1 at L1 ht1
      refine ⟨L1.tab, fun H2 hE hT2 hno2 => ?_⟩
      have L2 : Le (T K) H' H2 := L1.trans ⟨hE, hT2, hno2⟩
      have ht2 := (show Le (T K) H1 H2 from ⟨hE, hT2, hno2⟩).at ht1
      refine ⟨nr.length, fun i ys H3 => Le (T K) H2 H3 ∧ ∃ L : List (Addr × Pt), ys = (L.map fun x => V.ref x.1) ∧ isPts H3 L ∧ L.map (·.2) = (nr.take i).map fun f => (x + f, y + (if 0 < high then step else 0 - step)), Nat.le_trans nl (by decide), ⟨Le.refl hT2, [], rfl, (fun x hx => by cases hx), rfl⟩,
        fun i ys H3 hi ⟨L3, L, e1, e2, e3⟩ => ⟨Itt_go (SqT.of (L3.at ht2)) (by rw [List.length_map]; exact hi), fun v H4 y4 => ?_⟩, fun ys H3 ⟨L3, L, e1, e2, e3⟩ => ⟨Itt_stop (SqT.of (L3.at ht2)) (by rw [List.length_map]; exact Nat.le_refl _), fun p hp => ?_⟩⟩
      · obtain ⟨rfl, hx⟩ := Itt_yld (SqT.of (L3.at ht2)) y4
        obtain ⟨f, hf, rfl⟩ := GX.get_map hx
        have ho3 : SqT K H4 o _ := (L2.trans L3).seqT ho
        refine ⟨rfl, ?_⟩
        refine ⟨_, rfl, o, _, _, _, rfl, rfl, ho3, atI_nat (j := 0) rfl, _, rfl, _, _, rfl, rfl, _, rfl, by show 2 ≤ sizeLine; decide, fun u hu => ?_⟩
        refine ⟨L3.new hu, L ++ [(u, (x + f, y + (if 0 < high then step else 0 - step)))], by rw [List.map_append, e1]; rfl, fun x hx => ?_, ?_⟩
        · rcases List.mem_append.mp hx with hx | hx
          · have := e2 x hx
            exact (upd_ne (ne_of_none this hu)).trans this
          · rw [List.mem_singleton.mp hx]; exact upd_same
        · rw [List.map_append, e3, GX.take_snoc hf, List.map_append]
          rfl
      · rw [List.take_of_length_le (Nat.le_refl _)] at e3
        subst e1
        exact hgoal L p _ ((L2.trans L3).new hp) e3 (fun x hx => (upd_ne (ne_of_none (e2 x hx) hp)).trans (e2 x hx)) upd_same
end
end K2

-- text K2B
set_option maxRecDepth 100000
set_option maxHeartbeats 4000000
namespace K2
open PySem PySem.Spec PyProof.Rows L2 LamX GX
section
variable {P : Program} {w : World} {K : PySem.W.Frag} {mg : Str → Option Value} {base : Heap}
/-! ### numbers nearest -/
theorem near_aux (M q f : Int) (hq : 0 < q) : f ∈ (if M % q = 0 then [(M - 1) / q, (M - 1) / q + 1] else [(M - 1) / q]) ↔ M - q ≤ f * q ∧ f * q ≤ M := by
  have d1 := Int.mul_ediv_add_emod M q
  have r0 := Int.emod_nonneg M (by omega : q ≠ 0)
  have r1 := Int.emod_lt_of_pos M hq
  have key : ∀ F : Int, M = q * F + M % q → (f * q ≤ M ↔ f ≤ F) ∧ (M - q ≤ f * q ↔ (if M % q = 0 then F - 1 ≤ f else F ≤ f)) := fun F hF => by
    have c1 : f ≤ F → f * q ≤ q * F := fun h => by rw [Int.mul_comm q F]; exact Int.mul_le_mul_of_nonneg_right h (by omega)
    have c2 : F + 1 ≤ f → q * F + q ≤ f * q := fun h => by
      have := Int.mul_le_mul_of_nonneg_right h (show 0 ≤ q by omega)
      rw [Int.add_mul, Int.mul_comm F q] at this; omega
    have c3 : f ≤ F - 2 → f * q ≤ q * F - 2 * q := fun h => by
      have := Int.mul_le_mul_of_nonneg_right h (show 0 ≤ q by omega)
      rw [Int.sub_mul, Int.mul_comm F q] at this; omega
    have c4 : f = F - 1 → f * q = q * F - q := fun h => by rw [h, Int.sub_mul, Int.mul_comm F q]; omega
    have c5 : f = F → f * q = q * F := fun h => by rw [h, Int.mul_comm]
    refine ⟨⟨fun h => ?_, fun h => ?_⟩, ?_⟩
    · by_cases g : f ≤ F
      · exact g
      · have := c2 (by omega); omega
    · have := c1 h; omega
    · by_cases hz : M % q = 0
      · rw [if_pos hz]
        refine ⟨fun h => ?_, fun h => ?_⟩
        · by_cases g : F - 1 ≤ f
          · exact g
          · have := c3 (by omega); omega
        · by_cases g1 : f = F - 1
          · have := c4 g1; omega
          · by_cases g2 : f = F
            · have := c5 g2; omega
            · have := c2 (by omega); omega
      · rw [if_neg hz]
        refine ⟨fun h => ?_, fun h => ?_⟩
        · by_cases g : F ≤ f
          · exact g
          · by_cases g1 : f = F - 1
            · have := c4 g1; omega
            · have := c3 (by omega); omega
        · by_cases g2 : f = F
          · have := c5 g2; omega
          · have := c2 (by omega); omega
  obtain ⟨k1, k2⟩ := key (M / q) d1.symm
  rw [k1, k2]
  have dm : M % q = 0 → (M - 1) / q = M / q - 1 := fun h => by
    have : M - 1 = q * (M / q - 1) + (q - 1) := by rw [Int.mul_sub, Int.mul_one]; omega
    rw [this, Int.mul_add_ediv_left _ _ (by omega : q ≠ 0), Int.ediv_eq_zero_of_lt (show 0 ≤ q - 1 by omega) (show q - 1 < q by omega)]
    omega
  have dn : M % q ≠ 0 → (M - 1) / q = M / q := fun h => by
    have : M - 1 = q * (M / q) + (M % q - 1) := by omega
    rw [this, Int.mul_add_ediv_left _ _ (by omega : q ≠ 0), Int.ediv_eq_zero_of_lt (show 0 ≤ M % q - 1 by omega) (show M % q - 1 < q by omega)]
    omega
  by_cases hz : M % q = 0
  · rw [if_pos hz, if_pos hz, dm hz]
    simp only [List.mem_cons, List.not_mem_nil, or_false]
    omega
  · rw [if_neg hz, if_neg hz, dn hz]
    simp only [List.mem_singleton]
    omega
theorem near_iff {n p f : Int} (hp : 0 < p) : f ∈ near n p ↔ 2 * n - p ≤ f * (2 * p) ∧ f * (2 * p) ≤ 2 * n + p := by
  have := near_aux (2 * n + p) (2 * p) f (by omega)
  rw [show 2 * n + p - 2 * p = 2 * n - p by omega] at this
  exact this
/-- between the ends -/
theorem near_mid {h s S f : Int} (hs : 0 < s) (hS : s < S) (hf : f ∈ near (h * s) S) : (0 ≤ h → 0 ≤ f ∧ f ≤ h) ∧ (h ≤ 0 → h ≤ f ∧ f ≤ 0) := by
  obtain ⟨a, b⟩ := (near_iff (by omega)).mp hf
  have e2 : f * (2 * S) = 2 * (f * S) := by rw [← Int.mul_assoc, Int.mul_comm f 2, Int.mul_assoc]
  rw [e2] at a b
  have sub : (h - f) * S = h * S - f * S := Int.sub_mul _ _ _
  refine ⟨fun h0 => ?_, fun h0 => ?_⟩
  · have m0 : 0 ≤ h * s := Int.mul_nonneg h0 (by omega)
    have m1 : h * s ≤ h * S := Int.mul_le_mul_of_nonneg_left (by omega) h0
    refine ⟨?_, ?_⟩
    · by_cases g : 0 ≤ f
      · exact g
      · have := Int.mul_le_mul_of_nonneg_right (show f ≤ -1 by omega) (show 0 ≤ S by omega)
        omega
    · by_cases g : f ≤ h
      · exact g
      · have := Int.mul_le_mul_of_nonneg_right (show h - f ≤ -1 by omega) (show 0 ≤ S by omega)
        omega
  · have m0 : h * s ≤ 0 := Int.mul_nonpos_of_nonpos_of_nonneg h0 (by omega)
    have m1 : h * S ≤ h * s := Int.mul_le_mul_of_nonpos_left h0 (by omega)
    refine ⟨?_, ?_⟩
    · by_cases g : h ≤ f
      · exact g
      · have := Int.mul_le_mul_of_nonneg_right (show 1 ≤ h - f by omega) (show 0 ≤ S by omega)
        omega
    · by_cases g : f ≤ 0
      · exact g
      · have := Int.mul_le_mul_of_nonneg_right (show 1 ≤ f by omega) (show 0 ≤ S by omega)
        omega
/-! ### land -/
def inL (rs : List (List Int)) (x y : Int) : Prop := (0 ≤ y ∧ y < rs.length) ∧ 0 ≤ x ∧ x < (rs.headD []).length
instance (rs : List (List Int)) (x y : Int) : Decidable (inL rs x y) := by unfold inL; exact inferInstance
def atL (rs : List (List Int)) (x y : Int) : Int := (rs.getD y.toNat []).getD x.toNat 0
structure GoodL (rs : List (List Int)) : Prop where
  h1 : 0 < rs.length
  h2 : rs.length ≤ 20
  w2 : (rs.headD []).length ≤ 20
  row : ∀ r ∈ rs, r.length = (rs.headD []).length
  val : ∀ r ∈ rs, ∀ z ∈ r, 0 ≤ z ∧ z ≤ 999
def isRows (H : Hp) (L : List (Addr × List Int)) : Prop := ∀ x ∈ L, H x.1 = some (.tup (x.2.map V.int))
def isLand (K : PySem.W.Frag) (H : Hp) (l : Addr) (rs : List (List Int)) : Prop := ∃ dx t, H l = some (.ins (aLd K) dx [("rows", .ref t)]) ∧ ∃ L : List (Addr × List Int), H t = some (.tup (L.map fun x => V.ref x.1)) ∧ isRows H L ∧ L.map (·.2) = rs
theorem Le.land {T : List (Addr × Str)} {H H' : Hp} {l : Addr} {rs : List (List Int)} (x : Le T H H') (h : isLand K H l rs) : isLand K H' l rs := by
  obtain ⟨dx, t, h1, L, h2, h3, h4⟩ := h
  exact ⟨dx, t, x.at h1, L, x.at h2, fun y hy => x.at (h3 y hy), h4⟩
theorem at_in {rs : List (List Int)} (g : GoodL rs) {x y : Int} (h : inL rs x y) : ∃ r, rs[y.toNat]? = some r ∧ r[x.toNat]? = some (atL rs x y) ∧ 0 ≤ atL rs x y ∧ atL rs x y ≤ 999 := by
  obtain ⟨⟨y0, y1⟩, x0, x1⟩ := h
  have hy : y.toNat < rs.length := by omega
  have hr := g.row _ (List.getElem_mem hy)
  have hx : x.toNat < (rs[y.toNat]).length := by omega
  have e1 : rs.getD y.toNat [] = rs[y.toNat] := by rw [List.getD_eq_getElem?_getD, List.getElem?_eq_getElem hy]; rfl
  have e2 : atL rs x y = (rs[y.toNat])[x.toNat] := by
    unfold atL
    rw [e1, List.getD_eq_getElem?_getD, List.getElem?_eq_getElem hx]; rfl
  refine ⟨rs[y.toNat], List.getElem?_eq_getElem hy, by rw [e2, List.getElem?_eq_getElem hx], ?_⟩
  rw [e2]
  exact g.val _ (List.getElem_mem hy) _ (List.getElem_mem hx)
def spHt (K : PySem.W.Frag) : Sp := fun vs H Q E => ∃ (l : Addr) (x y : Int) (rs : List (List Int)), vs = [.ref l, .int x, .int y] ∧ isLand K H l rs ∧ GoodL rs ∧ Tabs (T K) H ∧
  (inL rs x y → Q (.int (atL rs x y)) H) ∧ (¬ inL rs x y → ∀ H', Le (T K) H H' → E (.ref (aTE K)) none H')
theorem ok_height (C : Ctx K mg base) : MetX P w K mg base 1 (aLd K) "height" ["self", "x", "y"] (spHt K) := by
  obtain ⟨fd, F⟩ := C.d.d_Land_height
  refine ⟨_, fd, ?_, F.funD.bindsN fun _ _ _ _ _ _ us hl => (match us, hl with | [_, _, _], _ => rfl), C.t.t_Land_height, C.t.c_Land⟩
  refine F.ok sc_Land_height (fun vs H Q E h => ?_) (fun A outer s H vs Q E hr h => ?_)
  · obtain ⟨l, x, y, rs, rfl, _⟩ := h
    rfl
  · obtain ⟨l, x, y, rs, rfl, hl, g, hT, hin, hout⟩ := h
    obtain ⟨e1, e2, e3, e4⟩ := C.t.e_TowerError
    have nn := sc_Land_height.nd
    refine ⟨_, pss_cons (ps_if (PW.pt (pw_or (pt_not (pt_chain op_le op_lt pe_int (pv 2) (pe_callB call_len_seq (by rfl) C.t.b_len PySem.boot_len (pa_cons (pe_fld (pv 0) rfl) pa_nil)))) (pw_or1 (pt_not (pt_chain op_le op_lt pe_int (pv 1) (pe_callB call_len_seq (by rfl) C.t.b_len PySem.boot_len (pa_cons (pe_ix ix_tup (pe_fld (pv 0) rfl) pe_int (fun _ _ => rfl)) pa_nil))))))) (pss_one (ps_raise rfl takesA (pmk_own PySem.F.excBase_ValueError e1 C.t.m_TowerError e2 (raises_own e3 e4) (by rfl)))) pss_nil)
      (pss_one (ps_ret (pe_ix ix_tup (pe_ix ix_tup (pe_fld (pv 0) rfl) (pv 2) (fun _ _ => rfl)) (pv 1) (fun _ _ => rfl)))), ?_⟩
    obtain ⟨dx, t, h1, L, h2, h3, h4⟩ := hl
    have ll : L.length = rs.length := by rw [← h4, List.length_map]
    have out : ¬ inL rs x y → E (.ref (aTE K)) none H := fun z => hout z _ (Le.refl hT)
    refine ⟨_, rfl, _, _, rfl, rfl, _, rfl, ?_⟩
    by_cases y0 : 0 ≤ y
    · rw [decide_eq_true y0]
      refine iteT ⟨_, rfl, l, _, dx, _, _, rfl, h1, C.t.c_Land, C.t.a_Land_rows, rfl, t, _, rfl, .inr (SqT.of h2), _, _, rfl, rfl, _, rfl, ?_⟩
      rw [List.length_map, ll]
      by_cases y1 : y < rs.length
      · rw [decide_eq_true (show y < ((rs.length : Nat) : Int) from y1)]
        refine iteF ⟨_, rfl, _, _, rfl, rfl, _, rfl, ?_⟩
        have hd : ∃ a0, L[0]? = some (a0, rs.headD []) := by
          clear h2 h3
          match L, h4 with
          | [], h4 =>
            have := g.h1
            rw [← h4] at this
            exact absurd this (Nat.lt_irrefl 0)
          | z :: _, h4 =>
            refine ⟨z.1, ?_⟩
            have : rs.headD [] = z.2 := by rw [← h4]; rfl
            rw [this]; rfl
        obtain ⟨a0, ha0⟩ := hd
        by_cases x0 : 0 ≤ x
        · rw [decide_eq_true x0]
          refine iteT ⟨_, rfl, l, _, dx, _, _, rfl, h1, C.t.c_Land, C.t.a_Land_rows, rfl, t, _, _, _, rfl, rfl, SqT.of h2, atI_nat (j := 0) (by rw [List.getElem?_map, ha0]; rfl), a0, _, rfl, .inr (SqT.of (h3 _ (List.mem_of_getElem? ha0))), _, _, rfl, rfl, _, rfl, ?_⟩
          rw [List.length_map]
          by_cases x1 : x < (rs.headD []).length
          · rw [decide_eq_true (show x < (((rs.headD []).length : Nat) : Int) from x1)]
            refine iteF ?_
            have hi : inL rs x y := ⟨⟨y0, y1⟩, x0, x1⟩
            obtain ⟨r, k1, k2, _⟩ := at_in g hi
            obtain ⟨z, hz1, hz2⟩ : ∃ z, L[y.toNat]? = some z ∧ z.2 = r := by
              rw [← h4, List.getElem?_map] at k1
              obtain ⟨z, q1, q2⟩ := Option.map_eq_some_iff.mp k1
              exact ⟨z, q1, q2⟩
            have ey : y = ((y.toNat : Nat) : Int) := by omega
            have ex : x = ((x.toNat : Nat) : Int) := by omega
            refine ⟨_, rfl, l, _, dx, _, _, rfl, h1, C.t.c_Land, C.t.a_Land_rows, rfl, _, rfl, t, _, _, _, rfl, rfl, SqT.of h2, by rw [ey]; exact atI_nat (j := y.toNat) (by rw [List.getElem?_map, hz1]; rfl), _, rfl, z.1, _, _, _, rfl, rfl, SqT.of (h3 _ (List.mem_of_getElem? hz1)), by rw [ex]; exact atI_nat (j := x.toNat) (by rw [List.getElem?_map, hz2, k2]; rfl), ?_⟩
            exact hin hi
          · rw [decide_eq_false (show ¬ x < (((rs.headD []).length : Nat) : Int) from x1)]
            exact iteT (out fun z => x1 z.2.2)
        · rw [decide_eq_false x0]
          exact iteF ⟨_, rfl, iteT (out fun z => x0 z.2.1)⟩
      · rw [decide_eq_false (show ¬ y < ((rs.length : Nat) : Int) from y1)]
        exact iteT (iteT (out fun z => y1 z.1.2))
    · rw [decide_eq_false y0]
      exact iteF ⟨_, rfl, iteT (iteT (out fun z => y0 z.1.1))⟩
end
end K2

-- text K2C
set_option maxRecDepth 100000
set_option maxHeartbeats 4000000
namespace K2
open PySem PySem.Spec PyProof.Rows L2 LamX GX
section
variable {P : Program} {w : World} {K : PySem.W.Frag} {mg : Str → Option Value} {base : Heap}
/-! ### sees -/
abbrev Tw := Int × Int × Int
def mx (a b : Int) : Int := if b > a then b else a
def stepsOf (a b : Tw) : Int := mx (iabs (b.1 - a.1)) (iabs (b.2.1 - a.2.1))
def topOf (rs : List (List Int)) (a : Tw) : Int := atL rs a.1 a.2.1 + a.2.2
def blk (rs : List (List Int)) (a b : Tw) (step : Int) (p : Pt) : Bool := decide (topOf rs a * (stepsOf a b - step) + topOf rs b * step < atL rs p.1 p.2 * stepsOf a b)
def ptsOf (a b : Tw) (step : Int) : List Pt := btw a.1 a.2.1 (b.1 - a.1) (b.2.1 - a.2.1) step (stepsOf a b)
def seesB (rs : List (List Int)) (a b : Tw) : Bool := (List.range (stepsOf a b - 1).toNat).all fun k => (ptsOf a b (1 + (k : Int))).all fun p => !blk rs a b (1 + (k : Int)) p
def inT (rs : List (List Int)) (a : Tw) : Prop := inL rs a.1 a.2.1
instance (rs : List (List Int)) (a : Tw) : Decidable (inT rs a) := by unfold inT; exact inferInstance
theorem iabs_le {n k : Int} : iabs n ≤ k ↔ -k ≤ n ∧ n ≤ k := by
  unfold iabs
  by_cases h : n < 0
  · rw [if_pos h]; omega
  · rw [if_neg h]; omega
theorem mx_le {a b k : Int} : mx a b ≤ k ↔ a ≤ k ∧ b ≤ k := by
  unfold mx
  by_cases h : b > a
  · rw [if_pos h]; omega
  · rw [if_neg h]; omega
theorem iabs_nn (n : Int) : 0 ≤ iabs n := by
  unfold iabs
  by_cases h : n < 0
  · rw [if_pos h]; omega
  · rw [if_neg h]; omega
theorem steps_bound {rs : List (List Int)} (g : GoodL rs) {a b : Tw} (ha : inT rs a) (hb : inT rs b) : 0 ≤ stepsOf a b ∧ stepsOf a b ≤ 20 := by
  obtain ⟨⟨a1, a2⟩, a3, a4⟩ := ha
  obtain ⟨⟨b1, b2⟩, b3, b4⟩ := hb
  have h2 := g.h2
  have w2 := g.w2
  have h1 : (rs.length : Int) ≤ 20 := by omega
  refine ⟨?_, ?_⟩
  · have := iabs_nn (b.1 - a.1)
    unfold stepsOf mx
    by_cases h : iabs (b.2.1 - a.2.1) > iabs (b.1 - a.1)
    · rw [if_pos h]; omega
    · rw [if_neg h]; omega
  · unfold stepsOf
    rw [mx_le, iabs_le, iabs_le]
    omega
/-- between two places of the land there is land -/
theorem pts_in {rs : List (List Int)} {a b : Tw} (ha : inT rs a) (hb : inT rs b) {s : Int} (h0 : 0 < s) (h1 : s < stepsOf a b) : ∀ p ∈ ptsOf a b s, inL rs p.1 p.2 := fun p hp => by
  obtain ⟨⟨a1, a2⟩, a3, a4⟩ := ha
  obtain ⟨⟨b1, b2⟩, b3, b4⟩ := hb
  unfold ptsOf btw at hp
  unfold inL
  by_cases hw : iabs (b.2.1 - a.2.1) ≤ iabs (b.1 - a.1)
  · rw [if_pos hw] at hp
    obtain ⟨f, hf, rfl⟩ := List.mem_map.mp hp
    have hS : stepsOf a b = iabs (b.1 - a.1) := by unfold stepsOf mx; rw [if_neg (by omega)]
    obtain ⟨m1, m2⟩ := near_mid h0 h1 hf
    rw [hS] at h1
    unfold iabs at h1
    show (0 ≤ a.2.1 + f ∧ a.2.1 + f < (rs.length : Int)) ∧ 0 ≤ a.1 + (if 0 < b.1 - a.1 then s else 0 - s) ∧ a.1 + (if 0 < b.1 - a.1 then s else 0 - s) < _
    have q : (0 ≤ b.2.1 - a.2.1 ∧ 0 ≤ f ∧ f ≤ b.2.1 - a.2.1) ∨ (b.2.1 - a.2.1 ≤ 0 ∧ b.2.1 - a.2.1 ≤ f ∧ f ≤ 0) := by
      rcases Int.le_total 0 (b.2.1 - a.2.1) with z | z
      · exact .inl ⟨z, m1 z⟩
      · exact .inr ⟨z, m2 z⟩
    clear m1 m2 hw hS hf hp
    by_cases hp0 : 0 < b.1 - a.1
    · rw [if_pos hp0]; rw [if_neg (by omega)] at h1; omega
    · rw [if_neg hp0]
      by_cases hn0 : b.1 - a.1 < 0
      · rw [if_pos hn0] at h1; omega
      · rw [if_neg hn0] at h1; omega
  · rw [if_neg hw] at hp
    obtain ⟨f, hf, rfl⟩ := List.mem_map.mp hp
    have hS : stepsOf a b = iabs (b.2.1 - a.2.1) := by unfold stepsOf mx; rw [if_pos (by omega)]
    obtain ⟨m1, m2⟩ := near_mid h0 h1 hf
    rw [hS] at h1
    unfold iabs at h1
    show (0 ≤ a.2.1 + (if 0 < b.2.1 - a.2.1 then s else 0 - s) ∧ a.2.1 + (if 0 < b.2.1 - a.2.1 then s else 0 - s) < (rs.length : Int)) ∧ 0 ≤ a.1 + f ∧ a.1 + f < _
    have q : (0 ≤ b.1 - a.1 ∧ 0 ≤ f ∧ f ≤ b.1 - a.1) ∨ (b.1 - a.1 ≤ 0 ∧ b.1 - a.1 ≤ f ∧ f ≤ 0) := by
      rcases Int.le_total 0 (b.1 - a.1) with z | z
      · exact .inl ⟨z, m1 z⟩
      · exact .inr ⟨z, m2 z⟩
    clear m1 m2 hw hS hf hp
    by_cases hp0 : 0 < b.2.1 - a.2.1
    · rw [if_pos hp0]; rw [if_neg (by omega)] at h1; omega
    · rw [if_neg hp0]
      by_cases hn0 : b.2.1 - a.2.1 < 0
      · rw [if_pos hn0] at h1; omega
      · rw [if_neg hn0] at h1; omega
def tupT (a : Tw) : List V := [.int a.1, .int a.2.1, .int a.2.2]
def spSees (K : PySem.W.Frag) : Sp := fun vs H Q E => ∃ (l o1 o2 : Addr) (rs : List (List Int)) (a b : Tw), vs = [.ref l, .ref o1, .ref o2] ∧ isLand K H l rs ∧ GoodL rs ∧ Tabs (T K) H ∧ SqT K H o1 (tupT a) ∧ SqT K H o2 (tupT b) ∧
  (inT rs a → inT rs b → ∀ H', Le (T K) H H' → Q (.bl (seesB rs a b)) H') ∧ (¬ (inT rs a ∧ inT rs b) → ∀ H', Le (T K) H H' → E (.ref (aTE K)) none H')
theorem ok_sees (C : Ctx K mg base) : MetX P w K mg base 3 (aLd K) "sees" ["self", "one", "other"] (spSees K) := by
  obtain ⟨fd, F⟩ := C.d.d_Land_sees
  refine ⟨_, fd, ?_, F.funD.bindsN fun _ _ _ _ _ _ us hl => (match us, hl with | [_, _, _], _ => rfl), C.t.t_Land_sees, C.t.c_Land⟩
  refine F.ok sc_Land_sees (fun vs H Q E h => ?_) (fun A outer s H vs Q E hr h => ?_)
  · obtain ⟨l, o1, o2, rs, a, b, rfl, _⟩ := h
    rfl
  · obtain ⟨l, o1, o2, rs, a, b, rfl, hl, g, hT, h1, h2, hin, hout⟩ := h
    have nn := sc_Land_sees.nd
    obtain ⟨fH, fdH, FH, bH, mH, cH⟩ := ok_height (P := P) (w := w) C
    refine ⟨_, pss_cons (ps_set (i := 3) nn rfl (by first | exact Or.inl rfl | exact Or.inr rfl) (pe_op op_add (pe_meth (pv 0) cH mH FH (hr.mono (by decide)) bH .nil passA (pa_cons (pe_ix ix_tup (pv 1) pe_int (fun _ _ => rfl)) (pa_cons (pe_ix ix_tup (pv 1) pe_int (fun _ _ => rfl)) pa_nil))) (pe_ix ix_tup (pv 1) pe_int (fun _ _ => rfl))))
      (pss_cons (ps_set (i := 4) nn rfl (by first | exact Or.inl rfl | exact Or.inr rfl) (pe_op op_add (pe_meth (pv 0) cH mH FH (hr.mono (by decide)) bH .nil passA (pa_cons (pe_ix ix_tup (pv 2) pe_int (fun _ _ => rfl)) (pa_cons (pe_ix ix_tup (pv 2) pe_int (fun _ _ => rfl)) pa_nil))) (pe_ix ix_tup (pv 2) pe_int (fun _ _ => rfl))))
      (pss_cons (ps_par (i := 5) (j := 6) (by rfl) nn rfl rfl (by decide) rfl rfl (pa_cons (pe_op op_sub (pe_ix ix_tup (pv 2) pe_int (fun _ _ => rfl)) (pe_ix ix_tup (pv 1) pe_int (fun _ _ => rfl))) (pa_cons (pe_op op_sub (pe_ix ix_tup (pv 2) pe_int (fun _ _ => rfl)) (pe_ix ix_tup (pv 1) pe_int (fun _ _ => rfl))) pa_nil)) (by rfl))
      (pss_cons (ps_set (i := 7) nn rfl (by first | exact Or.inl rfl | exact Or.inr rfl) (pe_callB (call_max2 rfl) (by rfl) C.t.b_max (by decide +kernel) (pa_cons (pe_callB call_abs (by rfl) C.t.b_abs (by decide +kernel) (pa_cons (pv 5) pa_nil)) (pa_cons (pe_callB call_abs (by rfl) C.t.b_abs (by decide +kernel) (pa_cons (pv 6) pa_nil)) pa_nil))))
      (pss_cons (ps_for ownsA rfl (pi_range2 (by rfl) C.t.b_range (pa_cons pe_int (pa_cons (pv 7) pa_nil))) (pg_name (i := 8) nn rfl (by first | exact Or.inl rfl | exact Or.inr rfl))
        (pss_one (ps_for ownsA rfl (pi_tup (pe_cx (ok_between (P := P) (w := w) C) hr (by decide) rfl passA (pa_cons (pv 1) (pa_cons (pv 5) (pa_cons (pv 6) (pa_cons (pv 8) (pa_cons (pv 7) pa_nil))))))) (pg_tup rfl (pgs_cons (pg_name (i := 9) nn rfl (by first | exact Or.inl rfl | exact Or.inr rfl)) (pgs_cons (pg_name (i := 10) nn rfl (by first | exact Or.inl rfl | exact Or.inr rfl)) pgs_nil)))
          (pss_one (ps_if (pt_cmpR op_gt (pe_op op_mul (pe_meth (pv 0) cH mH FH (hr.mono (by decide)) bH .nil passA (pa_cons (pv 9) (pa_cons (pv 10) pa_nil))) (pv 7)) (pe_op op_add (pe_op op_mul (pv 3) (pe_op op_sub (pv 7) (pv 8))) (pe_op op_mul (pv 4) (pv 8))) (nomark _)) (pss_one (ps_ret pe_bl)) pss_nil)))))
      (pss_one (ps_ret pe_bl)))))), ?_⟩
    obtain ⟨dx, t, hl1, hl2⟩ := id hl
    refine ⟨_, rfl, l, dx, _, rfl, hl1, rfl, _, rfl, o1, _, _, _, rfl, rfl, h1, atI_nat (j := 0) rfl, _, rfl, o1, _, _, _, rfl, rfl, h1, atI_nat (j := 1) rfl, l, a.1, a.2.1, rs, rfl, hl, g, hT, fun ha => ?_, fun z H' L' => hout (fun q => z q.1) H' L'⟩
    refine ⟨_, rfl, o1, _, _, _, rfl, rfl, h1, atI_nat (j := 2) rfl, _, _, rfl, rfl, ?_⟩
    refine ⟨_, rfl, l, dx, _, rfl, hl1, rfl, _, rfl, o2, _, _, _, rfl, rfl, h2, atI_nat (j := 0) rfl, _, rfl, o2, _, _, _, rfl, rfl, h2, atI_nat (j := 1) rfl, l, b.1, b.2.1, rs, rfl, hl, g, hT, fun hb => ?_, fun z H' L' => hout (fun q => z q.2) H' L'⟩
    have hq := hin ha hb
    clear hin hout
    obtain ⟨s0, s20⟩ := steps_bound g ha hb
    refine ⟨_, rfl, o2, _, _, _, rfl, rfl, h2, atI_nat (j := 2) rfl, _, _, rfl, rfl, ?_⟩
    refine ⟨_, rfl, o2, _, _, _, rfl, rfl, h2, atI_nat (j := 0) rfl, _, rfl, o1, _, _, _, rfl, rfl, h1, atI_nat (j := 0) rfl, _, _, rfl, rfl, _, rfl, o2, _, _, _, rfl, rfl, h2, atI_nat (j := 1) rfl, _, rfl, o1, _, _, _, rfl, rfl, h1, atI_nat (j := 1) rfl, _, _, rfl, rfl, _, _, rfl, ?_⟩
    refine ⟨_, rfl, _, rfl, _, rfl, _, rfl, _, _, rfl, ?_⟩
    refine ⟨_, rfl, _, _, rfl, ⟨by omega, by omega, ?_, ?_⟩, ?_⟩
    · show -(2 ^ 62) ≤ stepsOf a b
      omega
    · show stepsOf a b < 2 ^ 62
      omega
    refine for_range (lo := 1) (n := (stepsOf a b - 1).toNat) (fun i σ H' => Le (T K) H H' ∧ (∃ a8 a9 a10, σ = [some (.ref l), some (.ref o1), some (.ref o2), some (.int (topOf rs a)), some (.int (topOf rs b)), some (.int (b.1 - a.1)), some (.int (b.2.1 - a.2.1)), some (.int (stepsOf a b)), a8, a9, a10]) ∧
        ∀ k, k < i → ∀ p ∈ ptsOf a b (1 + (k : Int)), blk rs a b (1 + (k : Int)) p = false)
      ⟨Le.refl hT, ⟨none, none, none, rfl⟩, fun k hk => absurd hk (Nat.not_lt_zero k)⟩ (fun i σ H1 hi ⟨L1, ⟨a8, a9, a10, hσ⟩, hno⟩ => ?_) (fun σ H1 ⟨L1, ⟨a8, a9, a10, hσ⟩, hno⟩ => ?_)
    · subst hσ
      have hs1 : 0 < (1 : Int) + (i : Int) := by omega
      have hs2 : (1 : Int) + (i : Int) < stepsOf a b := by omega
      refine ⟨_, rfl, _, rfl, _, rfl, _, rfl, _, rfl, o1, a.1, a.2.1, b.1 - a.1, b.2.1 - a.2.1, 1 + (i : Int), stepsOf a b, [.int a.2.2], rfl, L1.seqT h1, L1.tab, by omega, by omega, ⟨by omega, by omega⟩, fun L tt H2 L2 e1 e2 e3 => ?_⟩
      refine ⟨tt, rfl, ⟨_, SqT.of e3⟩, ?_⟩
      have e1 : L.map (·.2) = ptsOf a b (1 + (i : Int)) := e1
      refine for_tup (xs := L.map fun x => V.ref x.1) (fun j σ H' => Le (T K) H2 H' ∧ (∃ a9 a10, σ = [some (.ref l), some (.ref o1), some (.ref o2), some (.int (topOf rs a)), some (.int (topOf rs b)), some (.int (b.1 - a.1)), some (.int (b.2.1 - a.2.1)), some (.int (stepsOf a b)), some (.int (1 + (i : Int))), a9, a10]) ∧
          ∀ p ∈ (L.map (·.2)).take j, blk rs a b (1 + (i : Int)) p = false)
        ⟨Le.refl L2.tab, ⟨a9, a10, rfl⟩, fun p hp => by cases hp⟩ (fun j σ H' _ hP => SqT.of (hP.1.at e3)) (fun j v σ H3 hv ⟨L3, ⟨a9, a10, hσ⟩, hnp⟩ => ?_) (fun σ H3 ⟨L3, ⟨a9, a10, hσ⟩, hnp⟩ => ?_)
      · subst hσ
        obtain ⟨x, hx, rfl⟩ := GX.get_map hv
        have hxm := List.mem_of_getElem? hx
        have hpm : x.2 ∈ ptsOf a b (1 + (i : Int)) := by rw [← e1]; exact List.mem_map.mpr ⟨x, hxm, rfl⟩
        have hip := pts_in ha hb hs1 hs2 x.2 hpm
        have LL := (L1.trans L2).trans L3
        refine ⟨x.1, _, rfl, SqT.of (L3.at (e2 x hxm)), rfl, _, _, rfl, _, _, rfl, rfl, ?_⟩
        refine ⟨_, rfl, l, dx, _, rfl, LL.at hl1, rfl, _, rfl, _, rfl, l, x.2.1, x.2.2, rs, rfl, Le.land LL hl, g, LL.tab, fun _ => ?_, fun z => absurd hip z⟩
        refine ⟨_, rfl, _, _, rfl, rfl, .inr ⟨by omega, by omega⟩, _, rfl, _, rfl, _, rfl, _, _, rfl, rfl, _, _, rfl, rfl, .inr ⟨by omega, by omega⟩, _, rfl, _, rfl, _, _, rfl, rfl, .inr ⟨by omega, by omega⟩, _, _, rfl, rfl, _, _, rfl, rfl, _, rfl, ?_⟩
        have hbk : decide (topOf rs a * (stepsOf a b - (1 + (i : Int))) + topOf rs b * (1 + (i : Int)) < atL rs x.2.1 x.2.2 * stepsOf a b) = blk rs a b (1 + (i : Int)) x.2 := rfl
        rw [hbk]
        cases hv2 : blk rs a b (1 + (i : Int)) x.2 with
        | true =>
          have : seesB rs a b = false := by
            unfold seesB
            rw [List.all_eq_false]
            refine ⟨i, List.mem_range.mpr hi, ?_⟩
            simp only [Bool.not_eq_true, List.all_eq_false]
            exact ⟨x.2, hpm, by rw [hv2]; simp⟩
          rw [this] at hq
          exact iteT (hq _ LL)
        | false =>
          refine iteF ⟨L3, ⟨_, _, rfl⟩, fun p hp => ?_⟩
          rw [GX.take_snoc (l := L.map (·.2)) (c := x.2) (by rw [List.getElem?_map, hx]; rfl)] at hp
          rcases List.mem_append.mp hp with hp | hp
          · exact hnp p hp
          · rw [List.mem_singleton.mp hp]; exact hv2
      · subst hσ
        refine ⟨(L1.trans L2).trans L3, ⟨_, _, _, rfl⟩, fun k hk p hp => ?_⟩
        by_cases hki : k = i
        · subst hki
          rw [List.length_map, List.take_of_length_le (by rw [List.length_map]; exact Nat.le_refl _), e1] at hnp
          exact hnp p hp
        · exact hno k (by omega) p hp
    · subst hσ
      have : seesB rs a b = true := by
        unfold seesB
        rw [List.all_eq_true]
        intro k hk
        rw [List.all_eq_true]
        intro p hp
        rw [hno k (List.mem_range.mp hk) p hp]
        rfl
      rw [this] at hq
      exact hq _ L1
end
end K2

-- text LcX
set_option maxRecDepth 100000
set_option maxHeartbeats 4000000
/-! LcX: list comprehensions whose element may let an exception out of the def. -/
namespace GX
open PySem PySem.Spec PyProof.Rows L2 LamX
/-- how a comprehension's block ends, the frame told -/
def pastC (M : Model) (A : Around) (E : Value → Shared → Prop) (use : Option (Value → Sem Unit)) (Q : Value → Shared → Prop) (acc : Value) (C : Addr) (Fr : Option Addr) (r : Result) (z : Shared) : Prop :=
  match r with
  | .ok f => compPost M A E use Q acc C (.ok f) z
  | .error x => ∃ m, z.heap.Ns C m ∧ ∀ g, Heap.SameBut C z.heap g → ∀ ce : Env, ce.locals = C → ce.frame = Fr → wpAny M A (PySem.passOn "comprehension.variables-let-go" x ce : Sem Value) (fun _ _ => False) E { z with heap := g }
theorem comp_framed {M : Model} {A : Around} {E : Value → Shared → Prop} {z0 : Shared} {ev : Env} {e : Expr} {scope : Scope} {pos : Pos} {newAcc first : Sem Value} {g : Comprehension} {gs : List Comprehension} {cl : List (Str × Addr)} {use : Option (Value → Sem Unit)} {Q : Value → Shared → Prop}
    (hcl : clausesOf e = g :: gs) (hs : ∀ x, foldedSetIterable g.iter ev x = pure x) (hclos : closureFor scope ev = pure cl) (hkind : scope.kind = .function) (hn0 : ∀ x ∈ scope.names, x.2 = .local → scope.names.lookup x.1 = some .local)
    (h : wpAny M A first (fun x z1 => wpAny M A (pyIter x) (fun it z2 => wpAny M A newAcc (fun acc z3 => wpAny M A (newFunctionEnv scope ev.globals cl [] ev.qual none .none (some ev)) (fun ce z4 =>
        codeAny M A (.compStart e 0 it acc { ce with scope := relabel scope ev }) (pastC M A E use Q acc ce.locals ce.frame) z4) E z3) E z2) E z1) E z0) :
    wpAny M A (comprehension e scope ev pos newAcc false first use) Q E z0 := by
  unfold comprehension
  rw [hclos, hcl]
  refine wpAny_bind (wpAny_mono h (fun x z1 k1 => wpAny_bind (wpAny_standAt (wpAny_bind (wpAny_of_eq (hs x) (wpAny_bind (wpAny_holding (wpAny_mono k1 (fun it z2 k2 =>
    wpAny_standIf (wpAny_bind (wpAny_mono k2 (fun acc z3 k3 => wpAny_bind (wpAny_pure (wpAny_bind (wpAny_mono k3 (fun ce z4 k4 => ?_) fun _ _ y => y)))) fun _ _ y => y))) fun _ _ y => y))))))) fun _ _ y => y)
  dsimp only
  have own : ∀ x ∈ (scope.names.filter fun x => (x.2 == .local || x.2 == .cell) && x.1 != (".0" : Str)).reverse, x.2 = .local → Env.kindOf { ce with scope := relabel scope ev } x.1 = some .local :=
    fun x hx hl => lookup_relabel_local (hn0 x (List.mem_filter.mp (List.mem_reverse.mp hx)).1 hl)
  refine wpAny_holding (wpAny_bind (wpAny_attempt (wpAny_holding (wpAny_run (codeAny_mono k4 fun r z5 kr => ?_)))))
  cases r with
  | ok f =>
    cases use with
    | none =>
      obtain ⟨m, hn, kr⟩ := kr
      exact wpAny_bind (wpAny_holding (wpAny_comp_letGo (cenv := { ce with scope := relabel scope ev }) hkind _ z5 m own hn fun g1 _ _ sb => wpAny_pure (kr g1 sb)))
    | some u =>
      refine wpAny_bind (wpAny_rule (wpAny_bind (wpAny_holding (wpAny_mono kr (fun _ z6 k6 => ?_) fun _ _ y => y))))
      obtain ⟨m, hn, k7⟩ := k6
      exact wpAny_bind (wpAny_comp_letGo (cenv := { ce with scope := relabel scope ev }) hkind _ z6 m (fun x hx hl => (List.mem_append.mp hx).elim (fun q => own x (List.mem_of_mem_drop q) hl) fun q => own x (List.mem_of_mem_take q) hl) hn fun g1 _ _ sb => wpAny_pure (k7 g1 sb))
  | error x =>
    obtain ⟨m, hn, kr⟩ := kr
    exact wpAny_bind (wpAny_holding (wpAny_comp_letGo (cenv := { ce with scope := relabel scope ev }) hkind _ z5 m own hn
      fun g1 _ _ sb => wpAny_mono (kr g1 sb _ rfl rfl) (fun _ _ f => f.elim) fun _ _ y => y))
theorem note_frame {a b : Env} (h : a.frame = b.frame) (e : Value) : noteFrame e a = noteFrame e b := by
  unfold noteFrame PySem.frameOf
  rw [h]
section
variable {X : Cx} {pins : List (Addr × Obj)} {σ : L2.St} {H : Hp} {s s' : Shared} {E : XK} {C : Addr}
/-- an exception in the air of a comprehension's block; C is the block's own dict -/
def AirB (X : Cx) (pins : List (Addr × Obj)) (E : XK) (C : Addr) (u : Value) (s' : Shared) : Prop :=
  ∃ oC, (∃ es ep, oC.data = .dict es ep ∧ StrKeys es) ∧ L2.XE (X.tr ((C, oC) :: (X.pn ++ pins)) fun _ _ => False) (fun cls d _ H => E cls d H) u s'
theorem air_of (I : Inv X pins σ H s) (f : FpOk X pins H C) {m : Str → Option Value} (hn : s.heap.Ns C m) {u : Value} (c : L2.CX X.prog X.w X.stack H s E u s') : AirB X pins E C u s' := by
  obtain ⟨o, es, ep, ho, hd, sk, _⟩ := hn
  refine ⟨o, ⟨es, ep, hd, sk⟩, ?_⟩
  have J : Inv (X.tr ((C, o) :: (X.pn ++ pins)) fun _ _ => False) [] σ H s := ⟨I.ok.toTry _ _, I.os, I.bare, I.base, I.loc, I.cell, I.free, I.freeC, fun p hp => by
    rw [List.append_nil] at hp
    rcases List.mem_cons.mp hp with e | hp
    · rw [e]
      exact ⟨ho, f.1, f.2.1, f.2.2.1, fun v z => by rw [hd] at z; cases z⟩
    · exact I.pin p hp, I.hok, I.len⟩
  exact XE.of_call (X := X.tr ((C, o) :: (X.pn ++ pins)) fun _ _ => False) (W := fun cls d _ H => E cls d H) J (fun _ _ _ h => h) c
theorem air_out (ok : X.Ok) (hs : X.stack = X.env :: X.outer) (hf : X.env.frame = some X.env.locals) (tk : L2.Takes X (fun cls d _ H => E cls d H))
    (st : C ≠ X.env.locals ∧ C ∉ X.fs ∧ (C ∈ X.ex ∨ X.s_0.heap.objs.size ≤ C) ∧ (∀ x c, X.env.cells.lookup x = some c → c ≠ C) ∧ ∀ p ∈ X.pn ++ pins, p.1 ≠ C) {ce : Env} (hce : ce.frame = X.env.frame) {use : Option (Value → Sem Unit)} {Q : Value → Shared → Prop} {acc : Value} {u : Value}
    (x : AirB X pins E C u s') : notedBy (model X.prog X.w) X.A ce (fun e z => pastC (model X.prog X.w) X.A X.xe use Q acc C ce.frame (.error e) z) u s' := by
  obtain ⟨oC, ⟨es, ep, hdC, sk⟩, a, B, sI, pins', σ', H', cls, d, rfl, I, nb, up, sky, na, os, ag, w⟩ := x
  obtain ⟨c1, c2, c3, c4, c5⟩ := st
  have pC := I.pin (C, oC) (List.mem_append_left _ List.mem_cons_self)
  have hfr : X.A.frames = some (X.env :: X.outer) := by rw [ok.frames, hs]
  have nCf : C ∉ frs X.stack := fun hm => by
    rcases List.mem_cons.mp (I.stkSub C hm) with z | z
    · exact c1 z
    · exact c2 z
  have bC : B.get? C = some oC := nb C oC pC.1 nCf
  unfold notedBy
  rw [note_frame hce]
  rw [hs] at sky
  -- noted by our own frame
  suffices fin : ∀ h1, HandSPX.HeldZ B (X.env :: X.outer) a (Zc cls d) X.env.locals h1 → s'.heap.UpToSlots h1 → pastC (model X.prog X.w) X.A X.xe use Q acc C ce.frame (.error (.ref a)) { s' with heap := h1 } by
    rcases sky with ⟨hB, hn, hl, oe, vs, he, hz, hd, h1⟩ | fl | hh
    · exact HandSPX.look_newZ Zc.steady hfr hl hf he hB hn hd h1 hz fin
    · exact HandSPX.looks_onZ Zc.steady hfr hf fl fin
    · exact HandSPX.againZ hf hh.2.2.2 (fin s'.heap hh (Heap.UpToSlots.refl _))
  intro h1 hh up1
  have nsC : sI.heap.Ns C (fun x => nsFind es x) := ⟨oC, es, ep, pC.1, hdC, sk, fun _ => rfl⟩
  refine ⟨_, Heap.UpToSlots.ns up1 (Heap.UpToSlots.ns up nsC), fun g sb ce' hl' hf' => ?_⟩
  obtain ⟨g1, g2, g3, oe, vs, T, oT, ts, he, hz, hd, h1v, hnT, hTe, hT, hdT, h3⟩ := hh
  have aC : a ≠ C := fun z => by rw [z, bC] at g2; cases g2
  have TC : T ≠ C := fun z => by rw [z, bC] at hnT; cases hnT
  have B2 : ∀ b o, (PySem.W.hideAll B [C]).get? b = some o → B.get? b = some o ∧ b ≠ C := fun b o e => ⟨PySem.W.of_hideAll _ e, fun z => by
    have := PySem.W.hideAll_none (h := B) _ (show b ∈ [C] by rw [z]; exact List.mem_singleton.mpr rfl)
    rw [this] at e; cases e⟩
  have B2n : ∀ b, B.get? b = none → (PySem.W.hideAll B [C]).get? b = none := fun b e => by
    cases q : (PySem.W.hideAll B [C]).get? b with
    | none => rfl
    | some o => rw [(B2 b o q).1] at e; cases e
  have FF : ∀ {l : List Env}, h1.FunFrames B l → g.FunFrames (PySem.W.hideAll B [C]) l := fun {l} => by
    induction l with
    | nil => exact fun _ => trivial
    | cons ev l ih =>
      rintro ⟨k1, ⟨L, o, f1, f2, f3, f4⟩, k3⟩
      exact ⟨k1, ⟨L, o, f1, B2n L f2, (sb.2 L fun z => by rw [z, bC] at f2; cases f2).trans f3, f4⟩, ih k3⟩
  have st2 : (PySem.W.hideAll B [C]).StaysIn g := fun b o e => (sb.2 b (B2 b o e).2).trans (g1 b o (B2 b o e).1)
  have he2 : g.get? a = some oe := (sb.2 a aC).trans he
  have hT2 : g.get? T = some oT := (sb.2 T TC).trans hT
  have tz : HandSPX.TracedZ g (PySem.W.hideAll B [C]) a (Zc cls d) (rawInt X.env.locals) := ⟨oe, vs, T, oT, ts, he2, hz, hd, h1v, B2n T hnT, hTe, hT2, hdT, h3⟩
  unfold PySem.passOn
  refine wpAny_bind (wpAny_field he2 hd h1v ?_)
  rw [if_neg (show ¬ ((Value.ref T == Value.none) = true) from by simp)]
  refine wpAny_bind (HandSPX.setFlight_anyZ st2 (FF g3) tz fun h2 k1 k2 k3 k4 => ?_)
  refine wpAny_throw (tk _ _ ?_)
  have hfl : ce'.frame = some X.env.locals := by rw [hf', hce, hf]
  rw [hfl] at k3
  -- the state without it
  have J : Inv X [] σ' H' sI := ⟨ok, I.os, I.bare, I.base, I.loc, I.cell, I.free, I.freeC, fun p hp => I.pin p (List.mem_append_left _ (List.mem_cons_of_mem _ (List.mem_append_left _ (by rw [List.append_nil] at hp; exact hp)))), I.hok, I.len⟩
  have J2 := J.turned (t' := sI.toks) (h' := PySem.W.hideAll sI.heap [C]) (it := C) (fun b o hb e => PySem.W.hideAll_get _ e (by rw [List.mem_singleton]; exact hb)) pC.2.1 c1 c3 c4 (fun p hp => c5 p (List.mem_append_left _ (by rw [List.append_nil] at hp; exact hp)))
  have hid : ∀ b o, (PySem.W.hideAll sI.heap [C]).get? b = some o → sI.heap.get? b = some o ∧ b ≠ C := fun b o e => ⟨PySem.W.of_hideAll _ e, fun z => by
    have := PySem.W.hideAll_none (h := sI.heap) _ (show b ∈ [C] by rw [z]; exact List.mem_singleton.mpr rfl)
    rw [this] at e; cases e⟩
  refine ⟨a, PySem.W.hideAll B [C], _, [], σ', H', cls, d, rfl, J2, fun b o e hb => ?_, fun b o e hnf => ?_, .inr (.inr ?_), na, os, ag, w⟩
  · exact PySem.W.hideAll_get _ (nb b o (hid b o e).1 hb) (by rw [List.mem_singleton]; exact (hid b o e).2)
  · obtain ⟨q1, q2⟩ := hid b o e
    obtain ⟨sl1, e1⟩ := up b o q1 hnf
    obtain ⟨sl2, e2⟩ := up1 b _ e1 hnf
    obtain ⟨sl3, e3⟩ := k4 b _ ((sb.2 b q2).trans e2) hnf
    exact ⟨sl3, e3⟩
  · rw [hs]
    exact ⟨k1, B2n a g2, k2, k3⟩
/-- [elt for target in iter if ..] in a def that exceptions leave: elt may raise; the tests know the def's own state -/
theorem lcB_core {use : Option (Value → Sem Unit)} {Q : VK} {Qf : Value → Shared → Prop} {pos' : Pos} {elt tg iter : Expr} {ifs : List Expr} {scope : Scope} {own : List (Str × Nat)} {pos : Pos} {wi : TI} {g : TG} {tt : L2.St → TT} {te : TE} (hc : X.calm = true) (hN : X.N.Nodup) (hs : X.stack = X.env :: X.outer) (hf : X.env.frame = some X.env.locals)
    (tk : L2.Takes X (fun cls d _ H => E cls d H)) (hi : PI X tg iter wi) (ok : BlkOk X.N X.env.scope scope own)
    (hg : ∀ (s : Shared) (H : Hp) (C : Addr) (cl : List (Str × Addr)) (fp : List Addr), PG (X.blk s H scope (compEnvC scope cl C X.env) fp) tg g)
    (ht : ∀ (s : Shared) (H : Hp) (C : Addr) (cl : List (Str × Addr)) (fp : List Addr) (σ : L2.St), (∀ pn σ' H' z, Inv (X.blk s H scope (compEnvC scope cl C X.env) fp) pn σ' H' z → ∃ ps, Inv X ps σ H' z) → PTs (X.blk s H scope (compEnvC scope cl C X.env) fp) ifs (tt σ))
    (he : ∀ (s : Shared) (H : Hp) (C : Addr) (cl : List (Str × Addr)) (fp : List Addr) (pn : List (Addr × Obj)) (xe : Value → Shared → Prop), Passes (L2.CX X.prog X.w) ((X.blk s H scope (compEnvC scope cl C X.env) fp).tr pn xe) E →
      PE ((X.blk s H scope (compEnvC scope cl C X.env) fp).tr pn xe) elt te) (hsf : ∀ x, foldedSetIterable iter X.env x = pure x) (I : Inv X pins σ H s) (h : tLc wi g (tt σ) te (own.map (·.2)) σ H Q)
    (hRR : ∀ D C s' m H', Inv X pins σ H' s' → Q (.ref D) H' → s'.heap.Ns C m → FpOk X pins H' C → compPost (model X.prog X.w) X.A X.xe use Qf (.ref D) C (.ok .next) s') :
    wpAny (model X.prog X.w) X.A (comprehension (.ListComp elt [⟨tg, iter, ifs, 0⟩] scope pos) scope X.env pos' (newList []) false (eval iter X.env) use) Qf X.xe s := by
  have clo : ∀ y ∈ scope.names, y.2 = .free → ∃ c, X.env.cells.lookup y.1 = some c := fun y hy e => (ok.free y hy e).elim (fun k => I.ok.has _ (.inl k)) fun k => I.ok.has _ (.inr k)
  refine comp_framed rfl hsf (closure_ok clo) ok.kind (fun y hy e => by rw [ok.uniq y hy, e]) (thn (hi.run pins s σ H _ I h) fun xv s1 hx => thn hx fun itv s2 h2 => ?_)
  obtain ⟨it, fp, tn, J, H2, e, I2, T, st2, f2, q⟩ := h2
  subst e
  refine wpAny_newObj_type (newEnv_comp ?_) (by show 0 ≤ sizeLine; decide)
  generalize hD : s2.heap.objs.size = D
  obtain ⟨W, ⟨m0, w0⟩, turn⟩ := q D (I2.hok.fresh (Nat.le_of_eq hD))
  generalize z3 : ({ s2 with heap := s2.heap.push { cls := .type "list", data := .seq ([] : List Value).toArray } } : Shared) = s3
  have I3 : Inv X pins σ (upd H2 D (.lst [])) s3 := by
    rw [← z3]
    refine I2.laid (t' := s2.toks) (fun b o e => Heap.get?_push_of_some _ e) (Nat.le_of_eq hD) ⟨Nat.zero_le _, [], 0, .nil, ?_⟩
    rw [← hD]
    exact Heap.get?_push_size _ rfl
  have e3 : s3.heap = s2.heap.push { cls := .type "list", data := .seq ([] : List Value).toArray } := by rw [← z3]
  have small : ∀ b ∈ fp, b < s2.heap.objs.size := fun b hb => let ⟨_, e, _⟩ := T.obj _ _ st2 b hb; Heap.lt_size e
  have f3 : ∀ b ∈ fp, FpOk X pins (upd H2 D (.lst [])) b ∧ b < s3.heap.objs.size := fun b hb => by
    have hlt := small b hb
    refine ⟨⟨?_, (f2 b hb).2⟩, by rw [e3, Heap.size_push]; exact Nat.lt_succ_of_lt hlt⟩
    rw [upd_ne (by rw [← hD]; exact Nat.ne_of_lt hlt)]
    exact (f2 b hb).1
  have st3 : tn 0 s3.heap := T.keep _ _ _ st2 fun b _ o e => by rw [e3]; exact Heap.get?_push_of_some _ e
  have I4 := block_start I3 ok hN f3
  generalize zC : s3.heap.objs.size = C at I4
  have pg := hg s3 (upd H2 D (.lst [])) C (cellsFrom (C + 1) scope.names (cloFrom X.env.cells scope.names [])) fp
  have pt := ht s3 (upd H2 D (.lst [])) C (cellsFrom (C + 1) scope.names (cloFrom X.env.cells scope.names [])) fp σ
  have pe := he s3 (upd H2 D (.lst [])) C (cellsFrom (C + 1) scope.names (cloFrom X.env.cells scope.names [])) fp
  show codeAny _ _ (.compStart (.ListComp elt [⟨tg, iter, ifs, 0⟩] scope pos) 0 (.ref it) (.ref D) (compEnvC scope (cellsFrom (C + 1) scope.names (cloFrom X.env.cells scope.names [])) C X.env))
    (pastC (model X.prog X.w) X.A X.xe use Qf (.ref D) C X.env.frame) { s3 with heap := pushCells (s3.heap.push { cls := .type "dict", data := .dict #[] }) scope.names }
  have n3 : ∀ b ∈ fp, (upd H2 D (.lst [])) b = none := fun b hb => (f3 b hb).1.1
  generalize zce : compEnvC scope (cellsFrom (C + 1) scope.names (cloFrom X.env.cells scope.names [])) C X.env = ce at I4 pg pt pe ⊢
  have cL : ce.locals = C := by subst zce; rfl
  have cF : ce.frame = X.env.frame := by subst zce; rfl
  generalize zH : upd H2 D (.lst []) = H3 at I3 I4 pg pt pe w0 n3 f3
  generalize z4 : ({ s3 with heap := pushCells (s3.heap.push { cls := .type "dict", data := .dict #[] }) scope.names } : Shared) = s4 at I4 ⊢
  have st4 : tn 0 s4.heap := T.keep _ _ _ st3 fun b _ o e => by rw [← z4]; exact pushCells_keeps _ _ _ _ (Heap.get?_push_of_some _ e)
  -- what holds of C, and the def's own state behind a state of the block
  have sC : ∀ H', H' C = none → FpOk X pins H' C := fun H' n => I3.fpOk (Nat.le_of_eq zC) n
  have back : ∀ {pn : List (Addr × Obj)} {σ' : L2.St} {H' : Hp} {z : Shared}, Inv (X.blk s3 H3 scope ce fp) pn σ' H' z → Inv X pins σ H' z ∧ H' C = none ∧ ∃ m, z.heap.Ns C m := fun {pn σ' H' z} K => by
    refine ⟨I3.call' (ch := fp) K.os K.base K.hok K.bare fun b hb => ⟨(f3 b hb).1.2.2.2.1, (f3 b hb).1.2.1, (f3 b hb).1.2.2.2.2.1, (f3 b hb).1.2.2.2.2.2⟩, ?_, ?_⟩
    · have y : H' ce.locals = none := K.free
      rw [cL] at y
      exact y
    · obtain ⟨m, hn, _⟩ := K.loc
      have hn : z.heap.Ns ce.locals m := hn
      rw [cL] at hn
      exact ⟨m, hn⟩
  have stat : ∀ {σ' : L2.St} {H' : Hp} {z : Shared}, Inv (X.blk s3 H3 scope ce fp) [] σ' H' z → (∀ b ∈ fp, H' b = none) → ∀ b ∈ fp, FpOk (X.blk s3 H3 scope ce fp) [] H' b := fun {σ' H' z} K hn b hb =>
    ⟨hn b hb, (K.ok.exf b hb).1, K.ok.exfs b hb, .inl hb, fun x c e => (K.ok.exf b hb).2 x c e, fun p hp => absurd (show p ∈ ([] : List (Addr × Obj)) ++ [] from hp) (by simp)⟩
  have okX := I.ok
  have out : ∀ u z, AirB X pins E C u z → notedBy (model X.prog X.w) X.A ce (fun e z => pastC (model X.prog X.w) X.A X.xe use Qf (.ref D) C X.env.frame (.error e) z) u z := fun u z x => by
    obtain ⟨_, k1, k2, k3, k4, k5⟩ := I3.fpOk (b := C) (H' := fun _ => none) (Nat.le_of_eq zC) rfl
    have := air_out (use := use) (Q := Qf) (acc := .ref D) okX hs hf tk ⟨k1, k2, k3, k4, k5⟩ cF x
    rw [cF] at this
    exact this
  have loop : codeAny (model X.prog X.w) X.A (.compLoop (.ListComp elt [⟨tg, iter, ifs, 0⟩] scope pos) 0 (.ref it) (.ref D) ce) (pastC (model X.prog X.w) X.A X.xe use Qf (.ref D) C X.env.frame) s4 := by
    refine compLoop_any (fun n z => ∃ i H', Inv (X.blk s3 H3 scope ce fp) [] (wipe σ (own.map (·.2))) H' z ∧ tn i z.heap ∧ (∀ b ∈ fp, H' b = none) ∧ W i n H') ?_ m0 ⟨0, H3, I4, st4, n3, w0⟩
    rintro n s5 ⟨i, H5, I5, st5, n5, w5⟩
    rcases turn i n H5 w5 with ⟨stop, qq⟩ | ⟨go, Nx, hNx, step⟩
    · refine thnF (T.done (X.blk s3 H3 scope ce fp) rfl rfl rfl hc i [] s5 _ H5 (fun _ _ => False) I5 (stat I5 n5) st5 stop) fun r s6 ⟨hr, I6⟩ => ?_
      subst hr
      obtain ⟨I7, nC, m, hn⟩ := back I6
      exact hRR D C s6 m H5 I7 qq hn (sC H5 nC)
    · refine thnF (T.item (X.blk s3 H3 scope ce fp) rfl rfl rfl hc i [] s5 _ H5 (fun _ _ => False) I5 (stat I5 n5) st5 go) fun r s6 ⟨u, hr, h6⟩ => ?_
      subst hr
      refine thnF h6 fun _ s7 ⟨x, H7, I7, r7, y7, st7, n7⟩ => ?_
      refine thnF (pg.run _ s7 _ H7 x u _ (I7.pinned (stat I7 n7) (T.obj _ _ st7)) r7 (step x H7 y7)) fun _ s8 ⟨σ8, H8, I8, hw8, q8⟩ => ?_
      refine thnF ((pt fun pn σ' H' z K => ⟨_, (back K).1⟩).run _ s8 σ8 H8 _ I8 q8) fun b s9 ⟨H9, I9, q9⟩ => ?_
      have fin : ∀ {z : Shared} {H' : Hp}, Inv (X.blk s3 H3 scope ce fp) ([] ++ pinsAt fp s7.heap) σ8 H' z → Nx H' → ∃ m, m < n ∧ ∃ i H', Inv (X.blk s3 H3 scope ce fp) [] (wipe σ (own.map (·.2))) H' z ∧ tn i z.heap ∧ (∀ b ∈ fp, H' b = none) ∧ W i m H' := fun {z H'} K nx => by
        obtain ⟨m', hm, w'⟩ := hNx H' nx
        have pin' : ∀ b ∈ fp, ∀ o, s7.heap.get? b = some o → z.heap.get? b = some o ∧ H' b = none := fun b hb o e =>
          let y := K.pin (b, o) (List.mem_append_right _ (List.mem_append_right _ (mem_pinsAt hb e)))
          ⟨y.1, y.2.1⟩
        refine ⟨m', hm, i + 1, H', (K.unpinned (pins := [])).weak (by rw [← hw8, wipe_length]) (fun j v e => ?_), T.keep _ _ _ st7 fun b hb o e => (pin' b hb o e).1, fun b hb => ?_, w'⟩
        · rw [← hw8] at e
          exact (wipe_some e).1
        · obtain ⟨o, e, _⟩ := T.obj _ _ st7 b hb
          exact (pin' b hb o e).2
      cases b with
      | false =>
        simp only [Bool.false_eq_true, if_false] at q9 ⊢
        exact fin I9 q9
      | true =>
        simp only [if_true] at q9 ⊢
        have px : Passes (L2.CX X.prog X.w) ((X.blk s3 H3 scope ce fp).tr ([] ++ ([] ++ pinsAt fp s7.heap)) (AirB X pins E C)) E := fun pins' σ' H' z u z' K c => by
          obtain ⟨K7, nC, m, hn⟩ := back (show Inv (X.blk s3 H3 scope ce fp) (([] ++ pinsAt fp s7.heap) ++ pins') σ' H' z from ⟨I9.ok, K.os, K.bare, K.base, K.loc, K.cell, K.free, K.freeC, fun p hp => K.pin p (by simpa using hp), K.hok, K.len⟩)
          exact air_of K7 (sC H' nC) hn c
        refine wpAny_mono ((pe _ _ px).run [] s9 σ8 H9 _ (I9.toTry _) q9) (fun y s10 ⟨yv, H10, I10, r10, acc, hD10, hz10, nx⟩ => ?_) out
        refine thnF (app_ok (X := X.blk s3 H3 scope ce fp) (E := fun _ _ => False) (I10.ofTry I9.ok) hD10 hz10 r10 fun s11 I11 => ?_) fun _ _ k => k
        exact fin I11 nx
  exact codeAny_compStart_list loop (T.self X.A 0 _ _ _ st4 loop)
/-- [elt for target in iter if ..] in a def that exceptions leave: elt may raise; the tests know the def's own state -/
theorem pe_lcB {elt tg iter : Expr} {ifs : List Expr} {scope : Scope} {own : List (Str × Nat)} {pos : Pos} {wi : TI} {g : TG} {tt : L2.St → TT} {te : TE} (hc : X.calm = true) (hN : X.N.Nodup) (hs : X.stack = X.env :: X.outer) (hf : X.env.frame = some X.env.locals)
    (tk : L2.Takes X (fun cls d _ H => E cls d H)) (hi : PI X tg iter wi) (ok : BlkOk X.N X.env.scope scope own)
    (hg : ∀ (s : Shared) (H : Hp) (C : Addr) (cl : List (Str × Addr)) (fp : List Addr), PG (X.blk s H scope (compEnvC scope cl C X.env) fp) tg g)
    (ht : ∀ (s : Shared) (H : Hp) (C : Addr) (cl : List (Str × Addr)) (fp : List Addr) (σ : L2.St), (∀ pn σ' H' z, Inv (X.blk s H scope (compEnvC scope cl C X.env) fp) pn σ' H' z → ∃ ps, Inv X ps σ H' z) → PTs (X.blk s H scope (compEnvC scope cl C X.env) fp) ifs (tt σ))
    (he : ∀ (s : Shared) (H : Hp) (C : Addr) (cl : List (Str × Addr)) (fp : List Addr) (pn : List (Addr × Obj)) (xe : Value → Shared → Prop), Passes (L2.CX X.prog X.w) ((X.blk s H scope (compEnvC scope cl C X.env) fp).tr pn xe) E →
      PE ((X.blk s H scope (compEnvC scope cl C X.env) fp).tr pn xe) elt te) (hsf : ∀ x, foldedSetIterable iter X.env x = pure x := by intro _; rfl) :
    PE X (.ListComp elt [⟨tg, iter, ifs, 0⟩] scope pos) (fun σ => tLc wi g (tt σ) te (own.map (·.2)) σ) := by
  refine ⟨fun pins s σ H Q I h => ?_⟩
  rw [eval_ListComp]
  refine lcB_core hc hN hs hf tk hi ok hg ht he hsf I h fun D C s' m H' J q hn f => ⟨m, hn, fun g1 sb => ?_⟩
  obtain ⟨k0, k1, k2, k3, k4, k5⟩ := f
  exact ⟨.ref D, H', J.turned (t' := s'.toks) (fun b o hb e => (sb.2 b hb).trans e) k0 k1 k3 k4 k5, rfl, q⟩
/-- y = [elt for target in iter if ..], the same, y a local -/
theorem ps_setLcX {i : Nat} {y : Str} {py spos : Pos} {elt tg iter : Expr} {ifs : List Expr} {scope : Scope} {own : List (Str × Nat)} {pos : Pos} {wi : TI} {g : TG} {tt : TT} {te : TE} (hc : X.calm = true) (hN : X.N.Nodup) (hs : X.stack = X.env :: X.outer) (hf : X.env.frame = some X.env.locals)
    (tk : L2.Takes X (fun cls d _ H => E cls d H)) (hy : X.N[i]? = some y) (hyl : X.env.scope.names.lookup y = some .local) (hsw : swapsWith (.ListComp elt [⟨tg, iter, ifs, 0⟩] scope pos) (some (.Name y py)) spos.line X.env = pure true) (hi : PI X tg iter wi) (ok : BlkOk X.N X.env.scope scope own)
    (hg : ∀ (s : Shared) (H : Hp) (C : Addr) (cl : List (Str × Addr)) (fp : List Addr), PG (X.blk s H scope (compEnvC scope cl C X.env) fp) tg g)
    (ht : ∀ (s : Shared) (H : Hp) (C : Addr) (cl : List (Str × Addr)) (fp : List Addr), PTs (X.blk s H scope (compEnvC scope cl C X.env) fp) ifs tt)
    (he : ∀ (s : Shared) (H : Hp) (C : Addr) (cl : List (Str × Addr)) (fp : List Addr) (pn : List (Addr × Obj)) (xe : Value → Shared → Prop), Passes (L2.CX X.prog X.w) ((X.blk s H scope (compEnvC scope cl C X.env) fp).tr pn xe) E →
      PE ((X.blk s H scope (compEnvC scope cl C X.env) fp).tr pn xe) elt te) (hsf : ∀ x, foldedSetIterable iter X.env x = pure x := by intro _; rfl) :
    PS X (.Assign [.Name y py] (.ListComp elt [⟨tg, iter, ifs, 0⟩] scope pos) spos) (tAsg (tLc wi g tt te (own.map (·.2))) (gName i)) := by
  refine ⟨fun pins s σ H D I h => ?_⟩
  rw [exec_Assign_Name_used _ _ _ _ hsw]
  refine wpAny_bind (wpAny_standAt (wpAny_bind (wpAny_bind (thn (lcB_core (tt := fun _ => tt) (Q := fun x H1 => gName i x σ H1 D.nx) (Qf := fun _ z => SP X pins D .next z) hc hN hs hf tk hi ok hg (fun s H C cl fp _ _ => ht s H C cl fp) he hsf I h fun L C z m H' J q hn f => ?_) fun _ _ q => wpAny_pure (wpAny_pure q)))))
  obtain ⟨k0, k1, k2, k3, k4, k5⟩ := f
  show wpAny _ _ (assign (.Name y py) X.env (.ref L)) _ _ _
  refine wpAny_assign_Name (store_ok2 (v := V.ref L) J hN hy (.inl hyl) rfl (fun z2 J2 ⟨a, sb, ha⟩ => ⟨m, hn.sameBut sb (ha.elim (fun e => by rw [e]; exact k1) fun e z => k4 y a e z.symm), fun g3 sb3 => ?_⟩) (.inr hyl))
  exact ⟨_, H', J2.turned (t' := z2.toks) (fun b o hb e => (sb3.2 b hb).trans e) k0 k1 k3 k4 k5, q⟩
/-- [elt for target in iter if ..] in a def that exceptions leave: elt may raise -/
theorem pe_lcX {elt tg iter : Expr} {ifs : List Expr} {scope : Scope} {own : List (Str × Nat)} {pos : Pos} {wi : TI} {g : TG} {tt : TT} {te : TE} (hc : X.calm = true) (hN : X.N.Nodup) (hs : X.stack = X.env :: X.outer) (hf : X.env.frame = some X.env.locals)
    (tk : L2.Takes X (fun cls d _ H => E cls d H)) (hi : PI X tg iter wi) (ok : BlkOk X.N X.env.scope scope own)
    (hg : ∀ (s : Shared) (H : Hp) (C : Addr) (cl : List (Str × Addr)) (fp : List Addr), PG (X.blk s H scope (compEnvC scope cl C X.env) fp) tg g)
    (ht : ∀ (s : Shared) (H : Hp) (C : Addr) (cl : List (Str × Addr)) (fp : List Addr), PTs (X.blk s H scope (compEnvC scope cl C X.env) fp) ifs tt)
    (he : ∀ (s : Shared) (H : Hp) (C : Addr) (cl : List (Str × Addr)) (fp : List Addr) (pn : List (Addr × Obj)) (xe : Value → Shared → Prop), Passes (L2.CX X.prog X.w) ((X.blk s H scope (compEnvC scope cl C X.env) fp).tr pn xe) E →
      PE ((X.blk s H scope (compEnvC scope cl C X.env) fp).tr pn xe) elt te) (hsf : ∀ x, foldedSetIterable iter X.env x = pure x := by intro _; rfl) :
    PE X (.ListComp elt [⟨tg, iter, ifs, 0⟩] scope pos) (tLc wi g tt te (own.map (·.2))) :=
  pe_lcB (tt := fun _ => tt) hc hN hs hf tk hi ok hg (fun s H C cl fp _ _ => ht s H C cl fp) he hsf
end
end GX

-- text LcT
set_option maxRecDepth 100000
set_option maxHeartbeats 4000000
/-! LcT: a list comprehension whose tests and element may raise out of the def. -/
namespace GX
open PySem PySem.Spec PyProof.Rows L2 LamX
section
variable {X : Cx} {pins : List (Addr × Obj)} {σ : L2.St} {H : Hp} {s s' : Shared} {E : XK} {C : Addr}
theorem lcT_core {use : Option (Value → Sem Unit)} {Q : VK} {Qf : Value → Shared → Prop} {pos' : Pos} {elt tg iter : Expr} {ifs : List Expr} {scope : Scope} {own : List (Str × Nat)} {pos : Pos} {wi : TI} {g : TG} {tt : TT} {te : TE} (hc : X.calm = true) (hN : X.N.Nodup) (hs : X.stack = X.env :: X.outer) (hf : X.env.frame = some X.env.locals)
    (tk : L2.Takes X (fun cls d _ H => E cls d H)) (hi : PI X tg iter wi) (ok : BlkOk X.N X.env.scope scope own)
    (hg : ∀ (s : Shared) (H : Hp) (C : Addr) (cl : List (Str × Addr)) (fp : List Addr), PG (X.blk s H scope (compEnvC scope cl C X.env) fp) tg g)
    (ht : ∀ (s : Shared) (H : Hp) (C : Addr) (cl : List (Str × Addr)) (fp : List Addr) (pn : List (Addr × Obj)) (xe : Value → Shared → Prop), Passes (L2.CX X.prog X.w) ((X.blk s H scope (compEnvC scope cl C X.env) fp).tr pn xe) E → PTs ((X.blk s H scope (compEnvC scope cl C X.env) fp).tr pn xe) ifs tt)
    (he : ∀ (s : Shared) (H : Hp) (C : Addr) (cl : List (Str × Addr)) (fp : List Addr) (pn : List (Addr × Obj)) (xe : Value → Shared → Prop), Passes (L2.CX X.prog X.w) ((X.blk s H scope (compEnvC scope cl C X.env) fp).tr pn xe) E →
      PE ((X.blk s H scope (compEnvC scope cl C X.env) fp).tr pn xe) elt te) (hsf : ∀ x, foldedSetIterable iter X.env x = pure x) (I : Inv X pins σ H s) (h : tLc wi g tt te (own.map (·.2)) σ H Q)
    (hRR : ∀ D C s' m H', Inv X pins σ H' s' → Q (.ref D) H' → s'.heap.Ns C m → FpOk X pins H' C → compPost (model X.prog X.w) X.A X.xe use Qf (.ref D) C (.ok .next) s') :
    wpAny (model X.prog X.w) X.A (comprehension (.ListComp elt [⟨tg, iter, ifs, 0⟩] scope pos) scope X.env pos' (newList []) false (eval iter X.env) use) Qf X.xe s := by
  have clo : ∀ y ∈ scope.names, y.2 = .free → ∃ c, X.env.cells.lookup y.1 = some c := fun y hy e => (ok.free y hy e).elim (fun k => I.ok.has _ (.inl k)) fun k => I.ok.has _ (.inr k)
  refine comp_framed rfl hsf (closure_ok clo) ok.kind (fun y hy e => by rw [ok.uniq y hy, e]) (thn (hi.run pins s σ H _ I h) fun xv s1 hx => thn hx fun itv s2 h2 => ?_)
  obtain ⟨it, fp, tn, J, H2, e, I2, T, st2, f2, q⟩ := h2
  subst e
  refine wpAny_newObj_type (newEnv_comp ?_) (by show 0 ≤ sizeLine; decide)
  generalize hD : s2.heap.objs.size = D
  obtain ⟨W, ⟨m0, w0⟩, turn⟩ := q D (I2.hok.fresh (Nat.le_of_eq hD))
  generalize z3 : ({ s2 with heap := s2.heap.push { cls := .type "list", data := .seq ([] : List Value).toArray } } : Shared) = s3
  have I3 : Inv X pins σ (upd H2 D (.lst [])) s3 := by
    rw [← z3]
    refine I2.laid (t' := s2.toks) (fun b o e => Heap.get?_push_of_some _ e) (Nat.le_of_eq hD) ⟨Nat.zero_le _, [], 0, .nil, ?_⟩
    rw [← hD]
    exact Heap.get?_push_size _ rfl
  have e3 : s3.heap = s2.heap.push { cls := .type "list", data := .seq ([] : List Value).toArray } := by rw [← z3]
  have small : ∀ b ∈ fp, b < s2.heap.objs.size := fun b hb => let ⟨_, e, _⟩ := T.obj _ _ st2 b hb; Heap.lt_size e
  have f3 : ∀ b ∈ fp, FpOk X pins (upd H2 D (.lst [])) b ∧ b < s3.heap.objs.size := fun b hb => by
    have hlt := small b hb
    refine ⟨⟨?_, (f2 b hb).2⟩, by rw [e3, Heap.size_push]; exact Nat.lt_succ_of_lt hlt⟩
    rw [upd_ne (by rw [← hD]; exact Nat.ne_of_lt hlt)]
    exact (f2 b hb).1
  have st3 : tn 0 s3.heap := T.keep _ _ _ st2 fun b _ o e => by rw [e3]; exact Heap.get?_push_of_some _ e
  have I4 := block_start I3 ok hN f3
  generalize zC : s3.heap.objs.size = C at I4
  have pg := hg s3 (upd H2 D (.lst [])) C (cellsFrom (C + 1) scope.names (cloFrom X.env.cells scope.names [])) fp
  have pt := ht s3 (upd H2 D (.lst [])) C (cellsFrom (C + 1) scope.names (cloFrom X.env.cells scope.names [])) fp
  have pe := he s3 (upd H2 D (.lst [])) C (cellsFrom (C + 1) scope.names (cloFrom X.env.cells scope.names [])) fp
  show codeAny _ _ (.compStart (.ListComp elt [⟨tg, iter, ifs, 0⟩] scope pos) 0 (.ref it) (.ref D) (compEnvC scope (cellsFrom (C + 1) scope.names (cloFrom X.env.cells scope.names [])) C X.env))
    (pastC (model X.prog X.w) X.A X.xe use Qf (.ref D) C X.env.frame) { s3 with heap := pushCells (s3.heap.push { cls := .type "dict", data := .dict #[] }) scope.names }
  have n3 : ∀ b ∈ fp, (upd H2 D (.lst [])) b = none := fun b hb => (f3 b hb).1.1
  generalize zce : compEnvC scope (cellsFrom (C + 1) scope.names (cloFrom X.env.cells scope.names [])) C X.env = ce at I4 pg pt pe ⊢
  have cL : ce.locals = C := by subst zce; rfl
  have cF : ce.frame = X.env.frame := by subst zce; rfl
  generalize zH : upd H2 D (.lst []) = H3 at I3 I4 pg pt pe w0 n3 f3
  generalize z4 : ({ s3 with heap := pushCells (s3.heap.push { cls := .type "dict", data := .dict #[] }) scope.names } : Shared) = s4 at I4 ⊢
  have st4 : tn 0 s4.heap := T.keep _ _ _ st3 fun b _ o e => by rw [← z4]; exact pushCells_keeps _ _ _ _ (Heap.get?_push_of_some _ e)
  -- what holds of C, and the def's own state behind a state of the block
  have sC : ∀ H', H' C = none → FpOk X pins H' C := fun H' n => I3.fpOk (Nat.le_of_eq zC) n
  have back : ∀ {pn : List (Addr × Obj)} {σ' : L2.St} {H' : Hp} {z : Shared}, Inv (X.blk s3 H3 scope ce fp) pn σ' H' z → Inv X pins σ H' z ∧ H' C = none ∧ ∃ m, z.heap.Ns C m := fun {pn σ' H' z} K => by
    refine ⟨I3.call' (ch := fp) K.os K.base K.hok K.bare fun b hb => ⟨(f3 b hb).1.2.2.2.1, (f3 b hb).1.2.1, (f3 b hb).1.2.2.2.2.1, (f3 b hb).1.2.2.2.2.2⟩, ?_, ?_⟩
    · have y : H' ce.locals = none := K.free
      rw [cL] at y
      exact y
    · obtain ⟨m, hn, _⟩ := K.loc
      have hn : z.heap.Ns ce.locals m := hn
      rw [cL] at hn
      exact ⟨m, hn⟩
  have stat : ∀ {σ' : L2.St} {H' : Hp} {z : Shared}, Inv (X.blk s3 H3 scope ce fp) [] σ' H' z → (∀ b ∈ fp, H' b = none) → ∀ b ∈ fp, FpOk (X.blk s3 H3 scope ce fp) [] H' b := fun {σ' H' z} K hn b hb =>
    ⟨hn b hb, (K.ok.exf b hb).1, K.ok.exfs b hb, .inl hb, fun x c e => (K.ok.exf b hb).2 x c e, fun p hp => absurd (show p ∈ ([] : List (Addr × Obj)) ++ [] from hp) (by simp)⟩
  have okX := I.ok
  have out : ∀ u z, AirB X pins E C u z → notedBy (model X.prog X.w) X.A ce (fun e z => pastC (model X.prog X.w) X.A X.xe use Qf (.ref D) C X.env.frame (.error e) z) u z := fun u z x => by
    obtain ⟨_, k1, k2, k3, k4, k5⟩ := I3.fpOk (b := C) (H' := fun _ => none) (Nat.le_of_eq zC) rfl
    have := air_out (use := use) (Q := Qf) (acc := .ref D) okX hs hf tk ⟨k1, k2, k3, k4, k5⟩ cF x
    rw [cF] at this
    exact this
  have loop : codeAny (model X.prog X.w) X.A (.compLoop (.ListComp elt [⟨tg, iter, ifs, 0⟩] scope pos) 0 (.ref it) (.ref D) ce) (pastC (model X.prog X.w) X.A X.xe use Qf (.ref D) C X.env.frame) s4 := by
    refine compLoop_any (fun n z => ∃ i H', Inv (X.blk s3 H3 scope ce fp) [] (wipe σ (own.map (·.2))) H' z ∧ tn i z.heap ∧ (∀ b ∈ fp, H' b = none) ∧ W i n H') ?_ m0 ⟨0, H3, I4, st4, n3, w0⟩
    rintro n s5 ⟨i, H5, I5, st5, n5, w5⟩
    rcases turn i n H5 w5 with ⟨stop, qq⟩ | ⟨go, Nx, hNx, step⟩
    · refine thnF (T.done (X.blk s3 H3 scope ce fp) rfl rfl rfl hc i [] s5 _ H5 (fun _ _ => False) I5 (stat I5 n5) st5 stop) fun r s6 ⟨hr, I6⟩ => ?_
      subst hr
      obtain ⟨I7, nC, m, hn⟩ := back I6
      exact hRR D C s6 m H5 I7 qq hn (sC H5 nC)
    · refine thnF (T.item (X.blk s3 H3 scope ce fp) rfl rfl rfl hc i [] s5 _ H5 (fun _ _ => False) I5 (stat I5 n5) st5 go) fun r s6 ⟨u, hr, h6⟩ => ?_
      subst hr
      refine thnF h6 fun _ s7 ⟨x, H7, I7, r7, y7, st7, n7⟩ => ?_
      refine thnF (pg.run _ s7 _ H7 x u _ (I7.pinned (stat I7 n7) (T.obj _ _ st7)) r7 (step x H7 y7)) fun _ s8 ⟨σ8, H8, I8, hw8, q8⟩ => ?_
      have px : Passes (L2.CX X.prog X.w) ((X.blk s3 H3 scope ce fp).tr ([] ++ ([] ++ pinsAt fp s7.heap)) (AirB X pins E C)) E := fun pins' σ' H' z u z' K c => by
        obtain ⟨K7, nC, m, hn⟩ := back (show Inv (X.blk s3 H3 scope ce fp) (([] ++ pinsAt fp s7.heap) ++ pins') σ' H' z from ⟨I8.ok, K.os, K.bare, K.base, K.loc, K.cell, K.free, K.freeC, fun p hp => K.pin p (by simpa using hp), K.hok, K.len⟩)
        exact air_of K7 (sC H' nC) hn c
      refine wpAny_mono ((pt _ _ px).run [] s8 σ8 H8 _ (I8.toTry _) q8) (fun b s9 ⟨H9, I9t, q9⟩ => ?_) out
      have I9 := I9t.ofTry I8.ok
      have fin : ∀ {z : Shared} {H' : Hp}, Inv (X.blk s3 H3 scope ce fp) ([] ++ pinsAt fp s7.heap) σ8 H' z → Nx H' → ∃ m, m < n ∧ ∃ i H', Inv (X.blk s3 H3 scope ce fp) [] (wipe σ (own.map (·.2))) H' z ∧ tn i z.heap ∧ (∀ b ∈ fp, H' b = none) ∧ W i m H' := fun {z H'} K nx => by
        obtain ⟨m', hm, w'⟩ := hNx H' nx
        have pin' : ∀ b ∈ fp, ∀ o, s7.heap.get? b = some o → z.heap.get? b = some o ∧ H' b = none := fun b hb o e =>
          let y := K.pin (b, o) (List.mem_append_right _ (List.mem_append_right _ (mem_pinsAt hb e)))
          ⟨y.1, y.2.1⟩
        refine ⟨m', hm, i + 1, H', (K.unpinned (pins := [])).weak (by rw [← hw8, wipe_length]) (fun j v e => ?_), T.keep _ _ _ st7 fun b hb o e => (pin' b hb o e).1, fun b hb => ?_, w'⟩
        · rw [← hw8] at e
          exact (wipe_some e).1
        · obtain ⟨o, e, _⟩ := T.obj _ _ st7 b hb
          exact (pin' b hb o e).2
      cases b with
      | false =>
        simp only [Bool.false_eq_true, if_false] at q9 ⊢
        exact fin I9 q9
      | true =>
        simp only [if_true] at q9 ⊢
        refine wpAny_mono ((pe _ _ px).run [] s9 σ8 H9 _ (I9.toTry _) q9) (fun y s10 ⟨yv, H10, I10, r10, acc, hD10, hz10, nx⟩ => ?_) out
        refine thnF (app_ok (X := X.blk s3 H3 scope ce fp) (E := fun _ _ => False) (I10.ofTry I9.ok) hD10 hz10 r10 fun s11 I11 => ?_) fun _ _ k => k
        exact fin I11 nx
  exact codeAny_compStart_list loop (T.self X.A 0 _ _ _ st4 loop)
/-- [elt for target in iter if ..] in a def that exceptions leave: tests and elt may raise -/
theorem pe_lcT {elt tg iter : Expr} {ifs : List Expr} {scope : Scope} {own : List (Str × Nat)} {pos : Pos} {wi : TI} {g : TG} {tt : TT} {te : TE} (hc : X.calm = true) (hN : X.N.Nodup) (hs : X.stack = X.env :: X.outer) (hf : X.env.frame = some X.env.locals)
    (tk : L2.Takes X (fun cls d _ H => E cls d H)) (hi : PI X tg iter wi) (ok : BlkOk X.N X.env.scope scope own)
    (hg : ∀ (s : Shared) (H : Hp) (C : Addr) (cl : List (Str × Addr)) (fp : List Addr), PG (X.blk s H scope (compEnvC scope cl C X.env) fp) tg g)
    (ht : ∀ (s : Shared) (H : Hp) (C : Addr) (cl : List (Str × Addr)) (fp : List Addr) (pn : List (Addr × Obj)) (xe : Value → Shared → Prop), Passes (L2.CX X.prog X.w) ((X.blk s H scope (compEnvC scope cl C X.env) fp).tr pn xe) E → PTs ((X.blk s H scope (compEnvC scope cl C X.env) fp).tr pn xe) ifs tt)
    (he : ∀ (s : Shared) (H : Hp) (C : Addr) (cl : List (Str × Addr)) (fp : List Addr) (pn : List (Addr × Obj)) (xe : Value → Shared → Prop), Passes (L2.CX X.prog X.w) ((X.blk s H scope (compEnvC scope cl C X.env) fp).tr pn xe) E →
      PE ((X.blk s H scope (compEnvC scope cl C X.env) fp).tr pn xe) elt te) (hsf : ∀ x, foldedSetIterable iter X.env x = pure x := by intro _; rfl) :
    PE X (.ListComp elt [⟨tg, iter, ifs, 0⟩] scope pos) (tLc wi g tt te (own.map (·.2))) := by
  refine ⟨fun pins s σ H Q I h => ?_⟩
  rw [eval_ListComp]
  refine lcT_core hc hN hs hf tk hi ok hg ht he hsf I h fun D C s' m H' J q hn f => ⟨m, hn, fun g1 sb => ?_⟩
  obtain ⟨k0, k1, k2, k3, k4, k5⟩ := f
  exact ⟨.ref D, H', J.turned (t' := s'.toks) (fun b o hb e => (sb.2 b hb).trans e) k0 k1 k3 k4 k5, rfl, q⟩
end
end GX

-- text K2D
set_option maxRecDepth 100000
set_option maxHeartbeats 4000000
namespace K2
open PySem PySem.Spec PyProof.Rows L2 LamX GX
section
variable {P : Program} {w : World} {K : PySem.W.Frag} {mg : Str → Option Value} {base : Heap}
/-! ### seen_from, needed -/
/-- the places, row by row -/
def rowSeen (rs : List (List Int)) (a : Tw) (y m : Nat) : List Pt := ((List.range m).filter fun x : Nat => seesB rs a ((x : Int), (y : Int), 0)).map fun x : Nat => ((x : Int), (y : Int))
def seenL (rs : List (List Int)) (a : Tw) (h : Nat) : List Pt := ((List.range h).map fun y => rowSeen rs a y (rs.headD []).length).flatten
def refsOf (L : List (Addr × Pt)) : List V := L.map fun x => V.ref x.1
def spSF (K : PySem.W.Frag) : Sp := fun vs H Q E => ∃ (l o1 : Addr) (rs : List (List Int)) (a : Tw), vs = [.ref l, .ref o1] ∧ isLand K H l rs ∧ GoodL rs ∧ 0 < (rs.headD []).length ∧ Tabs (T K) H ∧ SqT K H o1 (tupT a) ∧
  (inT rs a → ∀ H' L t, Le (T K) H H' → H t = none → H' t = some (.tup (refsOf L)) → isPts H' L → L.map (·.2) = seenL rs a rs.length → Q (.ref t) H') ∧ (¬ inT rs a → ∀ H', Le (T K) H H' → E (.ref (aTE K)) none H')
theorem rowSeen_succ (rs : List (List Int)) (a : Tw) (y m : Nat) : rowSeen rs a y (m + 1) = if seesB rs a ((m : Int), (y : Int), 0) = true then rowSeen rs a y m ++ [((m : Int), (y : Int))] else rowSeen rs a y m := by
  unfold rowSeen
  rw [List.range_succ, List.filter_append, List.map_append]
  by_cases h : seesB rs a ((m : Int), (y : Int), 0) = true
  · rw [if_pos h, List.filter_cons_of_pos (by simpa using h)]; rfl
  · rw [if_neg h, List.filter_cons_of_neg (by simpa using h)]; simp
theorem rowSeen_len (rs : List (List Int)) (a : Tw) (y m : Nat) : (rowSeen rs a y m).length ≤ m := by
  unfold rowSeen
  rw [List.length_map]
  exact Nat.le_trans (List.length_filter_le _ _) (by rw [List.length_range]; exact Nat.le_refl _)
theorem seenL_succ (rs : List (List Int)) (a : Tw) (h : Nat) : seenL rs a (h + 1) = seenL rs a h ++ rowSeen rs a h (rs.headD []).length := by
  unfold seenL
  rw [List.range_succ, List.map_append, List.flatten_append]
  simp
theorem seenL_len (rs : List (List Int)) (a : Tw) : ∀ h, (seenL rs a h).length ≤ h * (rs.headD []).length
  | 0 => Nat.zero_le _
  | h + 1 => by
    rw [seenL_succ, List.length_append, Nat.succ_mul]
    have := seenL_len rs a h
    have := rowSeen_len rs a h (rs.headD []).length
    omega
theorem land_head {L : List (Addr × List Int)} {rs : List (List Int)} (h4 : L.map (·.2) = rs) (h1 : 0 < rs.length) : ∃ a0, L[0]? = some (a0, rs.headD []) := by
  match L, h4 with
  | [], h4 =>
    rw [← h4] at h1
    exact absurd h1 (Nat.lt_irrefl 0)
  | z :: _, h4 =>
    refine ⟨z.1, ?_⟩
    have : rs.headD [] = z.2 := by rw [← h4]; rfl
    rw [this]; rfl
theorem ok_seen (C : Ctx K mg base) : MetX P w K mg base 4 (aLd K) "seen_from" ["self", "one"] (spSF K) := by
  obtain ⟨fd, F⟩ := C.d.d_Land_seen_from
  refine ⟨_, fd, ?_, F.funD.bindsN fun _ _ _ _ _ _ us hl => (match us, hl with | [_, _], _ => rfl), C.t.t_Land_seen_from, C.t.c_Land⟩
  refine F.ok sc_Land_seen_from (fun vs H Q E h => ?_) (fun A outer s H vs Q E hr h => ?_)
  · obtain ⟨l, o1, rs, a, rfl, _⟩ := h
    rfl
  · obtain ⟨l, o1, rs, a, rfl, hl, g, hw0, hT, h1, hin, hout⟩ := h
    have nn := sc_Land_seen_from.nd
    obtain ⟨fS, fdS, FS, bS, mS, cS⟩ := ok_sees (P := P) (w := w) C
    refine ⟨_, pss_cons (ps_set (i := 2) nn rfl (by first | exact Or.inl rfl | exact Or.inr rfl) (pe_lst pa_nil))
      (pss_cons (ps_for ownsA rfl (pi_range1 (by rfl) C.t.b_range (pa_cons (pe_callB call_len_seq (by rfl) C.t.b_len PySem.boot_len (pa_cons (pe_fld (pv 0) rfl) pa_nil)) pa_nil)) (pg_name (i := 3) nn rfl (by first | exact Or.inl rfl | exact Or.inr rfl))
        (pss_one (ps_aug (i := 2) nn rfl (Or.inl rfl) (pe_lcT (own := [("x", 4)]) (g := gName 4) rfl nn rfl rfl takesA (pi_range1 (by rfl) C.t.b_range (pa_cons (pe_callB call_len_seq (by rfl) C.t.b_len PySem.boot_len (pa_cons (pe_ix ix_tup (pe_fld (pv 0) rfl) pe_int (fun _ _ => rfl)) pa_nil)) pa_nil)) (blkOk_by (N := n_Land_seen_from) (sc := defScope s_Land_seen_from) (by decide +kernel))
          (fun _ _ _ _ _ => (pg_name (i := 4) nn rfl (by first | exact Or.inl rfl | exact Or.inr rfl))) (fun _ _ _ _ _ _ _ px => by exact pts_one (pt_val (pe_meth (pv 0) cS mS FS hr bS .nil px (pa_cons (pv 1) (pa_cons (pe_tup (pa_cons (pv 4) (pa_cons (pv 3) (pa_cons pe_int pa_nil)))) pa_nil)))))
          (fun _ _ _ _ _ _ _ px => by exact pe_tup (pa_cons (pv 4) (pa_cons (pv 3) pa_nil)))) iop_ext)))
      (pss_one (ps_ret (pe_callTy call_tuple_of (by rfl) C.t.b_tuple (by decide +kernel) (pa_cons (pv 2) pa_nil))))), ?_⟩
    obtain ⟨dx, t, hl1, LR, hl2, hl3, hl4⟩ := id hl
    have llr : LR.length = rs.length := by rw [← hl4, List.length_map]
    obtain ⟨a0, ha0⟩ := land_head hl4 g.h1
    refine ⟨by show 0 ≤ sizeLine; decide, fun f hf => ?_⟩
    have L1 := (Le.refl hT).new (o := .lst []) hf
    have hf1 : upd H f (.lst []) f = some (.lst (refsOf [])) := upd_same
    generalize upd H f (.lst []) = H1 at L1 hf1
    refine ⟨_, rfl, l, _, dx, _, _, rfl, L1.at hl1, C.t.c_Land, C.t.a_Land_rows, rfl, t, _, rfl, .inr (SqT.of (L1.at hl2)), _, rfl, ?_⟩
    rw [List.length_map, llr]
    have h20 := g.h2
    have w20 := g.w2
    refine ⟨by omega, by omega, ?_⟩
    refine for_range (lo := 0) (n := rs.length) (fun i σ H' => Le (T K) H H' ∧ (∃ a3, σ = [some (.ref l), some (.ref o1), some (.ref f), a3, none]) ∧ (0 < i → inT rs a) ∧ ∃ L : List (Addr × Pt), H' f = some (.lst (refsOf L)) ∧ isPts H' L ∧ L.map (·.2) = seenL rs a i)
      ⟨L1, ⟨none, rfl⟩, fun h => absurd h (Nat.lt_irrefl 0), [], hf1, (fun x hx => by cases hx), rfl⟩ (fun i σ H2 hi ⟨L2, ⟨a3, hσ⟩, hia, L, k1, k2, k3⟩ => ?_) (fun σ H2 ⟨L2, ⟨a3, hσ⟩, hia, L, k1, k2, k3⟩ => ?_)
    · subst hσ
      rw [show (0 : Int) + (i : Nat) = (i : Nat) from Int.zero_add _]
      refine ⟨_, rfl, _, rfl, l, _, dx, _, _, rfl, L2.at hl1, C.t.c_Land, C.t.a_Land_rows, rfl, t, _, _, _, rfl, rfl, SqT.of (L2.at hl2), atI_nat (j := 0) (by rw [List.getElem?_map, ha0]; rfl), a0, _, rfl, .inr (SqT.of (L2.at (hl3 _ (List.mem_of_getElem? ha0)))), _, rfl, ?_⟩
      rw [List.length_map]
      refine ⟨by show -(2 ^ 62) ≤ (((rs.headD []).length : Nat) : Int); omega, by show (((rs.headD []).length : Nat) : Int) < 2 ^ 62; omega, fun D1 hD => ?_⟩
      have hDH : H D1 = none := L2.no D1 hD
      have hfD : f ≠ D1 := ne_of_none k1 hD
      refine lc_range (lo := 0) (n := (rs.headD []).length) (fun j H' => Le (T K) H2 H' ∧ (0 < j → inT rs a) ∧ ∃ R : List (Addr × Pt), H' D1 = some (.lst (refsOf R)) ∧ isPts H' R ∧ R.map (·.2) = rowSeen rs a i j) ⟨(Le.refl L2.tab).new hD, fun h => absurd h (Nat.lt_irrefl 0), [], upd_same, (fun x hx => by cases hx), rfl⟩ (fun j H3 hj ⟨L3, hja, R, r1, r2, r3⟩ => ?_) (fun H3 ⟨L3, hja, R, r1, r2, r3⟩ => ?_)
      · rw [show (0 : Int) + (j : Nat) = (j : Nat) from Int.zero_add _]
        refine ⟨rfl, ?_⟩
        have L23 := L2.trans L3
        refine ⟨_, rfl, l, dx, _, rfl, L23.at hl1, rfl, _, rfl, _, rfl, _, rfl, by show 3 ≤ sizeLine; decide, fun u hu => ?_⟩
        have L4 := L3.new (o := .tup [.int (j : Nat), .int (i : Nat), .int 0]) hu
        have r1' : upd H3 u (.tup [.int (j : Nat), .int (i : Nat), .int 0]) D1 = some (.lst (refsOf R)) := (upd_ne (ne_of_none r1 hu)).trans r1
        have r2' : isPts (upd H3 u (.tup [.int (j : Nat), .int (i : Nat), .int 0])) R := fun x hx => (upd_ne (ne_of_none (r2 x hx) hu)).trans (r2 x hx)
        have hu4 : upd H3 u (.tup [.int (j : Nat), .int (i : Nat), .int 0]) u = some (.tup (tupT ((j : Int), (i : Int), 0))) := upd_same
        generalize upd H3 u (.tup [.int (j : Nat), .int (i : Nat), .int 0]) = H4 at L4 r1' r2' hu4
        have L24 := L2.trans L4
        have hib : inT rs ((j : Int), (i : Int), 0) := ⟨⟨by show (0 : Int) ≤ (i : Int); omega, by show (i : Int) < _; omega⟩, by show (0 : Int) ≤ (j : Int); omega, by show (j : Int) < _; omega⟩
        refine ⟨l, o1, u, rs, a, ((j : Int), (i : Int), 0), rfl, Le.land L24 hl, g, L4.tab, L24.seqT h1, SqT.of hu4, fun hia2 _ H5 L5 => ?_, fun z H5 L5 => hout (fun q => z ⟨q, hib⟩) _ (L24.trans L5)⟩
        have r15 := L5.at r1'
        have r25 : isPts H5 R := fun x hx => L5.at (r2' x hx)
        have L45 := L4.trans L5
        have hsucc := rowSeen_succ rs a i j
        refine ⟨_, rfl, ?_⟩
        cases hs : seesB rs a ((j : Int), (i : Int), 0) with
        | false =>
          rw [hs] at hsucc
          refine iteF ⟨L45, fun _ => hia2, R, r15, r25, ?_⟩
          rw [hsucc, r3]; rfl
        | true =>
          rw [hs] at hsucc
          refine iteT ⟨_, rfl, _, rfl, by show 2 ≤ sizeLine; decide, fun v hv => ?_⟩
          have r16 : upd H5 v (.tup [.int (j : Nat), .int (i : Nat)]) D1 = some (.lst (refsOf R)) := (upd_ne (ne_of_none r15 hv)).trans r15
          have L6 := L45.new (o := .tup [.int (j : Nat), .int (i : Nat)]) hv
          have lR : R.length ≤ j := by
            have := congrArg List.length r3
            rw [List.length_map] at this
            have := rowSeen_len rs a i j
            omega
          refine ⟨_, r16, ?_, L6.set hD r16, fun _ => hia2, R ++ [(v, ((j : Int), (i : Int)))], ?_, fun x hx => ?_, ?_⟩
          · unfold refsOf
            rw [List.length_map]
            exact Nat.lt_of_le_of_lt lR (Nat.lt_of_lt_of_le (show j < 64 by omega) (by decide))
          · rw [upd_same]
            unfold refsOf
            rw [List.map_append]; rfl
          · rcases List.mem_append.mp hx with hx | hx
            · have := r25 x hx
              exact (upd_ne (fun z => by rw [z, r15] at this; cases this)).trans ((upd_ne (ne_of_none this hv)).trans this)
            · rw [List.mem_singleton.mp hx]
              exact (upd_ne (Ne.symm (ne_of_none r15 hv))).trans upd_same
          · rw [List.map_append, r3, hsucc]; rfl
      · have hia3 : inT rs a := hja hw0
        have k13 := L3.at k1
        have lR : R.length ≤ 20 := by
          have := congrArg List.length r3
          rw [List.length_map] at this
          have := rowSeen_len rs a i (rs.headD []).length
          omega
        have lL : L.length ≤ 400 := by
          have := congrArg List.length k3
          rw [List.length_map] at this
          have h5 := seenL_len rs a i
          have h6 : i * (rs.headD []).length ≤ 20 * 20 := Nat.mul_le_mul (by omega) w20
          omega
        refine ⟨f, D1, _, _, rfl, rfl, k13, r1, ?_, ?_⟩
        · unfold refsOf
          rw [List.length_map, List.length_map]
          exact Nat.le_trans (show L.length + R.length ≤ 512 by omega) (by decide)
        · refine ⟨(L2.trans L3).set hf k13, ⟨_, rfl⟩, fun _ => hia3, L ++ R, ?_, fun x hx => ?_, ?_⟩
          · rw [upd_same]
            unfold refsOf
            rw [List.map_append]
          · rcases List.mem_append.mp hx with hx | hx
            · have := L3.at (k2 x hx)
              exact (upd_ne (fun z => by rw [z, k13] at this; cases this)).trans this
            · have := r2 x hx
              exact (upd_ne (fun z => by rw [z, k13] at this; cases this)).trans this
          · rw [List.map_append, k3, r3, seenL_succ]
    · subst hσ
      refine ⟨_, rfl, f, _, rfl, .inl ⟨SqL.of k1, fun t2 ht2 => ?_⟩⟩
      exact hin (hia g.h1) _ L t2 (L2.new ht2) (L2.no t2 ht2) upd_same (fun x hx => (upd_ne (ne_of_none (k2 x hx) ht2)).trans (k2 x hx)) k3
/-- the first height that sees -/
def needV (rs : List (List Int)) (x y : Int) (b : Tw) (m : Nat) : V := match (List.range m).find? fun h : Nat => seesB rs (x, y, (h : Int)) b with
  | some h => .int (h : Int)
  | none => .non
def spNeed (K : PySem.W.Frag) : Sp := fun vs H Q E => ∃ (l o2 : Addr) (rs : List (List Int)) (x y : Int) (b : Tw) (m : Nat), vs = [.ref l, .int x, .int y, .ref o2, .int (m : Int)] ∧ isLand K H l rs ∧ GoodL rs ∧ m ≤ 1000 ∧ Tabs (T K) H ∧ SqT K H o2 (tupT b) ∧
  (inL rs x y ∧ inT rs b → ∀ H', Le (T K) H H' → Q (needV rs x y b (m + 1)) H') ∧ (¬ (inL rs x y ∧ inT rs b) → ∀ H', Le (T K) H H' → E (.ref (aTE K)) none H')
theorem ok_needed (C : Ctx K mg base) : MetX P w K mg base 4 (aLd K) "needed" ["self", "x", "y", "other", "most"] (spNeed K) := by
  obtain ⟨fd, F⟩ := C.d.d_Land_needed
  refine ⟨_, fd, ?_, F.funD.bindsN fun _ _ _ _ _ _ us hl => (match us, hl with | [_, _, _, _, _], _ => rfl), C.t.t_Land_needed, C.t.c_Land⟩
  refine F.ok sc_Land_needed (fun vs H Q E h => ?_) (fun A outer s H vs Q E hr h => ?_)
  · obtain ⟨l, o2, rs, x, y, b, m, rfl, _⟩ := h
    rfl
  · obtain ⟨l, o2, rs, x, y, b, m, rfl, hl, g, hm, hT, h2, hin, hout⟩ := h
    have nn := sc_Land_needed.nd
    obtain ⟨fS, fdS, FS, bS, mS, cS⟩ := ok_sees (P := P) (w := w) C
    refine ⟨_, pss_cons (ps_for ownsA rfl (pi_range1 (by rfl) C.t.b_range (pa_cons (pe_op op_add (pv 4) pe_int) pa_nil)) (pg_name (i := 5) nn rfl (by first | exact Or.inl rfl | exact Or.inr rfl))
        (pss_one (ps_if (pt_val (pe_meth (pv 0) cS mS FS hr bS .nil passA (pa_cons (pe_tup (pa_cons (pv 1) (pa_cons (pv 2) (pa_cons (pv 5) pa_nil)))) (pa_cons (pv 3) pa_nil)))) (pss_one (ps_ret (pv 5))) pss_nil)))
      (pss_one (ps_ret pe_non)), ?_⟩
    obtain ⟨dx, t, hl1, LR, hl2, hl3, hl4⟩ := id hl
    refine ⟨_, rfl, _, _, rfl, rfl, _, rfl, by omega, by omega, ?_⟩
    rw [show ((m : Int) + 1).toNat = m + 1 by omega]
    refine for_range (lo := 0) (n := m + 1) (fun i σ H' => Le (T K) H H' ∧ (∃ a5, σ = [some (.ref l), some (.int x), some (.int y), some (.ref o2), some (.int (m : Int)), a5]) ∧ (0 < i → inL rs x y ∧ inT rs b) ∧ ∀ k, k < i → seesB rs (x, y, (k : Int)) b = false)
      ⟨Le.refl hT, ⟨none, rfl⟩, fun h => absurd h (Nat.lt_irrefl 0), fun k hk => absurd hk (Nat.not_lt_zero k)⟩ (fun i σ H1 hi ⟨L1, ⟨a5, hσ⟩, hia, hno⟩ => ?_) (fun σ H1 ⟨L1, ⟨a5, hσ⟩, hia, hno⟩ => ?_)
    · subst hσ
      rw [show (0 : Int) + (i : Nat) = (i : Nat) from Int.zero_add _]
      refine ⟨_, rfl, l, dx, _, rfl, L1.at hl1, rfl, _, rfl, _, rfl, _, rfl, by show 3 ≤ sizeLine; decide, fun u hu => ?_⟩
      have L2 := L1.new (o := .tup (tupT (x, y, (i : Int)))) hu
      have hu2 : upd H1 u (.tup (tupT (x, y, (i : Int)))) u = some (.tup (tupT (x, y, (i : Int)))) := upd_same
      refine ⟨_, rfl, l, u, o2, rs, (x, y, (i : Int)), b, rfl, Le.land L2 hl, g, L2.tab, SqT.of hu2, L2.seqT h2, fun ha hb H3 L3 => ?_, fun z H3 L3 => hout (fun q => z q) _ (L2.trans L3)⟩
      refine ⟨_, rfl, ?_⟩
      cases hs : seesB rs (x, y, (i : Int)) b with
      | true =>
        have : needV rs x y b (m + 1) = .int (i : Int) := by
          unfold needV
          have : (List.range (m + 1)).find? (fun h : Nat => seesB rs (x, y, (h : Int)) b) = some i := by
            rw [List.find?_range_eq_some]
            exact ⟨hs, List.mem_range.mpr hi, fun k hk => by rw [hno k hk]; rfl⟩
          rw [this]
        have hq := hin ⟨ha, hb⟩ _ (L2.trans L3)
        rw [this] at hq
        exact iteT ⟨_, rfl, hq⟩
      | false =>
        refine iteF ⟨L2.trans L3, ⟨_, rfl⟩, fun _ => ⟨ha, hb⟩, fun k hk => ?_⟩
        by_cases hki : k = i
        · rw [hki]; exact hs
        · exact hno k (by omega)
    · subst hσ
      have : needV rs x y b (m + 1) = .non := by
        unfold needV
        have : (List.range (m + 1)).find? (fun h : Nat => seesB rs (x, y, (h : Int)) b) = none := by
          rw [List.find?_eq_none]
          intro k hk
          rw [hno k (List.mem_range.mp hk)]
          simp
        rw [this]
      have hq := hin (hia (Nat.succ_pos m)) _ L1
      rw [this] at hq
      exact hq
end
end K2

-- text Kx
set_option maxRecDepth 100000
set_option maxHeartbeats 4000000
/-! Kx: rules with the written part named, so that they fit within comprehensions; small words. -/
namespace GX
open PySem PySem.Spec PyProof.Rows L2 LamX
section
variable {X : Cx} {K : PySem.W.Frag}
def rTupO (K : PySem.W.Frag) : List V → Hp → VK → Prop := fun xs H Q => ∃ p ys, xs = [V.ref p] ∧ ((SqL K H p ys ∧ ∀ l, H l = none → Q (.ref l) (upd H l (.tup ys))) ∨ (SqT K H p ys ∧ Q (.ref p) H))
theorem call_tupK (hK : X.K = K) : CallR X (.type "tuple") (rTupO K) := by
  subst hK
  exact call_tuple_of
def rLenO (K : PySem.W.Frag) : List V → Hp → VK → Prop := fun xs H Q => ∃ p ys, xs = [V.ref p] ∧ (SqL K H p ys ∨ SqT K H p ys) ∧ Q (.int ys.length) H
theorem call_lenK (hK : X.K = K) : CallR X (.builtin "len") (rLenO K) := by
  subst hK
  exact call_len_seq
def rLstO (K : PySem.W.Frag) : List V → Hp → VK → Prop := fun xs H Q => ∃ p ys, xs = [V.ref p] ∧ (SqL K H p ys ∨ SqT K H p ys) ∧ ∀ l, H l = none → Q (.ref l) (upd H l (.lst ys))
theorem call_lstK (hK : X.K = K) : CallR X (.type "list") (rLstO K) := by
  subst hK
  exact call_list_of
theorem pe_bmK {o e : Expr} {es : List Expr} {to : TE} {t : TA} {name : Str} {apos cpos : Pos} {T id : String} {r : V → List V → Hp → VK → Prop} (hK : X.K = K) (pa : PlainAttrs T) (slot : Slot T name id) (hty : typeOf (.builtin id) = pure (.type "method_descriptor")) (hm : MtR X id r) (ho : PE X o to) (ha : PA X (e :: es) t)
    (hbase : attributeBase o name X.env (eval o X.env) = eval o X.env := by rfl)
    (hfew : ((backTo cpos (starEach (e :: es) X.env)).all (fun x => !x.1) && (backToKw cpos (keywordEach [] X.env)).all (fun x => x.1.isSome)
      && decide ((e :: es).length + ([] : List Keyword).length + (if ([] : List Keyword).isEmpty then 0 else 1) < 30)) = true := by rfl)
    (hline : (apos.endLine == cpos.line) = true := by rfl) (hs : starEach (e :: es) X.env = (false, eval e X.env) :: starEach es X.env := by rfl) (hplain : (backTo cpos (starEach es X.env)).any (·.1) = false := by rfl) :
    PE X (.Call (.Attribute o name apos) (e :: es) [] cpos) (tBM K T r to t) := by
  subst hK
  exact pe_bm pa slot hty hm ho ha hbase hfew hline hs hplain
theorem pe_weak {e : Expr} {t t' : TE} (h : PE X e t) (m : ∀ σ H Q, t' σ H Q → t σ H Q) : PE X e t' := ⟨fun pins s σ H Q I g => h.run pins s σ H Q I (m σ H Q g)⟩
theorem pe_ex {e : Expr} {t : Nat → TE} {m : Nat} (h : ∀ n, n ≤ m → PE X e (t n)) : PE X e (fun σ H Q => ∃ n, n ≤ m ∧ t n σ H Q) := ⟨fun pins s σ H Q I ⟨n, hn, g⟩ => (h n hn).run pins s σ H Q I g⟩
theorem pss_ex {ι : Type} {sts : List Stmt} {t : ι → TS} (h : ∀ i, PSs X sts (t i)) : PSs X sts (fun D σ H => ∃ i, t i D σ H) := ⟨fun pins s σ H D I ⟨i, g⟩ => (h i).run pins s σ H D I g⟩
end
theorem blk_any {N : List Str} {sc sc' scope : Scope} {own : List (Str × Nat)} (h : BlkOk N sc scope own) (nf : ∀ y ∈ scope.names, y.2 ≠ .free) : BlkOk N sc' scope own := ⟨h.kind, h.uniq, h.ix, fun y hy e => absurd e (nf y hy), h.own⟩
theorem iteNT {c A B : Prop} [Decidable c] (hc : ¬ c) (h : A) : if (!decide c) = true then A else B := by
  rw [decide_eq_false hc]
  exact iteT h
theorem iteDF {c A B : Prop} [Decidable c] (hc : ¬ c) (h : B) : if decide c = true then A else B := by
  rw [decide_eq_false hc]
  exact iteF h
theorem iteDT {c A B : Prop} [Decidable c] (hc : c) (h : A) : if decide c = true then A else B := by
  rw [decide_eq_true hc]
  exact iteT h
theorem gmap {α β : Type} {f : α → β} {xs : List α} {i : Nat} {v : β} (h : (xs.map f)[i]? = some v) : ∃ x, xs[i]? = some x ∧ v = f x := by
  rw [List.getElem?_map] at h
  cases e : xs[i]? with
  | none => rw [e] at h; cases h
  | some x => rw [e] at h; exact ⟨x, rfl, (Option.some.inj h).symm⟩
/-- one statement, a block: from M to M' -/
def Step (X : Cx) (st : Stmt) (M M' : L2.St → Hp → Prop) : Prop := ∃ t, PS X st t ∧ ∀ (D : Ends) (σ : L2.St) (H : Hp), M σ H → (∀ σ' H', M' σ' H' → D.nx σ' H') → t D σ H
def Steps (X : Cx) (sts : List Stmt) (M M' : L2.St → Hp → Prop) : Prop := ∃ t, PSs X sts t ∧ ∀ (D : Ends) (σ : L2.St) (H : Hp), M σ H → (∀ σ' H', M' σ' H' → D.nx σ' H') → t D σ H
theorem Steps.nil {X : Cx} {M : L2.St → Hp → Prop} : Steps X [] M M := ⟨_, pss_nil, fun D σ H h k => k σ H h⟩
theorem Step.cons {X : Cx} {st : Stmt} {r : List Stmt} {M M1 M' : L2.St → Hp → Prop} (a : Step X st M M1) (b : Steps X r M1 M') : Steps X (st :: r) M M' := by
  obtain ⟨ta, ha, ha2⟩ := a
  obtain ⟨tb, hb, hb2⟩ := b
  exact ⟨_, C8.pss_cut ha hb, fun D σ H h k => ⟨M1, ha2 { D with nx := M1 } σ H h (fun _ _ z => z), fun σ' H' z => hb2 D σ' H' z k⟩⟩
def At (σ : L2.St) (i : Nat) (v : V) : Prop := σ[i]? = some (some v)
theorem ex1 {α : Type} {n : Nat} {l : List α} (h : l.length = n + 1) : ∃ a t, l = a :: t ∧ t.length = n := by
  cases l with
  | nil => cases h
  | cons a t => exact ⟨a, t, rfl, by simpa using h⟩
end GX

-- text DcU
set_option maxRecDepth 100000
set_option maxHeartbeats 4000000
/-! DcS: y = {..} as a statement; any(..) over a tuple that stands. -/
namespace GX
open PySem PySem.Spec PyProof.Rows L2 LamX
section
variable {X : Cx}
theorem sw_dict {kx vx : Expr} {gs : List Comprehension} {scope : Scope} {pos py : Pos} {y : Str} {l : Nat} {env : Env} (hk : env.scope.kind = .function) (hy : env.scope.names.lookup y = some .local) (hl : (py.line == pos.line) = true)
    (ha : (scope.names.any fun (n, k) => n == y && (k == .local || k == .cell)) = false) : swapsWith (.DictComp kx vx gs scope pos) (some (.Name y py)) l env = pure true := by
  have hb : env.blockKind = .function := by unfold Env.blockKind; rw [hk]; rfl
  have ky : env.kindOf y = some .local := hy
  unfold swapsWith
  simp only [hb, ky, ha, Expr.pos, hl]
  rfl
/-- y = {k: v for target in iter if ..}, y a local -/
theorem ps_setDc {i : Nat} {y : Str} {py spos : Pos} {kx vx tg iter : Expr} {ifs : List Expr} {scope : Scope} {own : List (Str × Nat)} {pos : Pos} {wi : TI} {g : TG} {tt : TT} {tk tv : TE} (hc : X.calm = true) (hN : X.N.Nodup) (hy : X.N[i]? = some y) (hyl : X.env.scope.names.lookup y = some .local)
    (hsw : swapsWith (.DictComp kx vx [⟨tg, iter, ifs, 0⟩] scope pos) (some (.Name y py)) spos.line X.env = pure true) (hi : PI X tg iter wi) (ok : BlkOk X.N X.env.scope scope own)
    (hg : ∀ (s : Shared) (H : Hp) (C : Addr) (cl : List (Str × Addr)) (fp : List Addr), PG (X.blk s H scope (compEnvC scope cl C X.env) fp) tg g) (ht : ∀ (s : Shared) (H : Hp) (C : Addr) (cl : List (Str × Addr)) (fp : List Addr), PTs (X.blk s H scope (compEnvC scope cl C X.env) fp) ifs tt)
    (hk : ∀ (s : Shared) (H : Hp) (C : Addr) (cl : List (Str × Addr)) (fp : List Addr), PE (X.blk s H scope (compEnvC scope cl C X.env) fp) kx tk)
    (he : ∀ (s : Shared) (H : Hp) (C : Addr) (cl : List (Str × Addr)) (fp : List Addr), PE (X.blk s H scope (compEnvC scope cl C X.env) fp) vx tv) (hs : ∀ x, foldedSetIterable iter X.env x = pure x := by intro _; rfl) :
    PS X (.Assign [.Name y py] (.DictComp kx vx [⟨tg, iter, ifs, 0⟩] scope pos) spos) (tAsg (tDc wi g tt tk tv (own.map (·.2))) (gName i)) := by
  refine ⟨fun pins s σ H D I h => ?_⟩
  rw [exec_Assign_Name_used _ _ _ _ hsw]
  refine wpAny_bind (wpAny_standAt (wpAny_bind ?_))
  show wpAny _ X.A (do let _ ← comprehension (.DictComp kx vx [⟨tg, iter, ifs, 0⟩] scope pos) scope X.env (firstIterPos [⟨tg, iter, ifs, 0⟩] pos) newDict false (eval iter X.env) (some (assign (.Name y py) X.env))) _ _ s
  refine wpAny_bind (thn (dc_core (Q := fun x H1 => gName i x σ H1 D.nx) (Qf := fun _ z => SP X pins D .next z) hc hN I hi ok hg ht hk he hs h fun L C z m H' J q hn f => ?_) fun _ _ q => wpAny_pure (wpAny_pure q))
  obtain ⟨k0, k1, k2, k3, k4, k5⟩ := f
  show wpAny _ _ (assign (.Name y py) X.env (.ref L)) _ _ _
  refine wpAny_assign_Name (store_ok2 (v := V.ref L) J hN hy (.inl hyl) rfl (fun z2 J2 ⟨a, sb, ha⟩ => ⟨m, hn.sameBut sb (ha.elim (fun e => by rw [e]; exact k1) fun e z => k4 y a e z.symm), fun g3 sb3 => ?_⟩) (.inr hyl))
  exact ⟨_, H', J2.turned (t' := z2.toks) (fun b o hb e => (sb3.2 b hb).trans e) k0 k1 k3 k4 k5, q⟩
end
section
variable {T : List (Addr × Str)} {K : PySem.W.Frag} {g : TG} {te : TE} {vs : List Nat} {σ : L2.St} {H : Hp} {Qt Qf : Hp → Prop}
theorem genAny_tup {a : Addr} {xs : List V} (pb : Nat → Bool) (hs : SqT K H a xs)
    (step : ∀ i x H', xs[i]? = some x → (∀ j, j < i → pb j = false) → Le T H H' → g x (wipe σ vs) H' fun σ2 H3 => wipe σ2 vs = wipe σ vs ∧ te σ2 H3 fun y H4 => ∃ c, y = .bl c ∧ if c = true then Qt H4 else Le T H H4 ∧ ∀ j, j < i + 1 → pb j = false)
    (fin : ∀ H', Le T H H' → (∀ j, j < xs.length → pb j = false) → Qf H') :
    ∀ H2, ExtN H H2 → Tabs T H2 → (∀ b, H2 b = none → H b = none) → ∃ (n₀ : Nat) (W : Nat → Hp → Prop), W 0 H2 ∧
      (∀ i H, i < n₀ → W i H → (Itt K a).go i H ∧ ∀ x H', (Itt K a).yld i H x H' → g x (wipe σ vs) H' fun σ2 H3 => wipe σ2 vs = wipe σ vs ∧ te σ2 H3 fun y H4 => ∃ c, y = .bl c ∧ if c = true then Qt H4 else W (i + 1) H4) ∧
      (∀ H, W n₀ H → (Itt K a).stop n₀ H ∧ Qf H) := by
  intro H2 hE hT2 hno2
  refine ⟨xs.length, fun i H' => Le T H H' ∧ ∀ j, j < i → pb j = false, ⟨⟨hE, hT2, hno2⟩, fun j h => absurd h (Nat.not_lt_zero j)⟩, fun i H3 hi ⟨L3, h3⟩ => ⟨Itt_go (L3.seqT hs) hi, fun x H4 y => ?_⟩, fun H3 ⟨L3, h3⟩ => ⟨Itt_stop (L3.seqT hs) (Nat.le_refl _), fin H3 L3 h3⟩⟩
  obtain ⟨rfl, hx⟩ := Itt_yld (L3.seqT hs) y
  exact step i x _ hx h3 L3
end
end GX

-- text K2E
set_option maxRecDepth 100000
set_option maxHeartbeats 4000000
namespace K2
open PySem PySem.Spec PyProof.Rows L2 LamX GX
section
variable {P : Program} {w : World} {K : PySem.W.Frag} {mg : Str → Option Value} {base : Heap}
def landOk (rs : List (List Int)) : Prop := GoodL rs ∧ 0 < (rs.headD []).length
def spLand (K : PySem.W.Frag) : Sp := fun vs H Q E => ∃ (b a dx : Addr) (R : List (Addr × List Int)) (H0 : Hp), vs = [.ref b, .ref a] ∧ H b = some (.ins (aLd K) dx []) ∧ H0 b = none ∧ Le (T K) H0 H ∧ SqL K H0 a (R.map fun x => V.ref x.1) ∧ (∀ x ∈ R, SqL K H0 x.1 (x.2.map V.int)) ∧ R.length ≤ 1000 ∧ (∀ x ∈ R, x.2.length ≤ 1000) ∧
  (¬ landOk (R.map (·.2)) → ∀ H', Le (T K) H0 H' → E (.ref (aTE K)) none H') ∧ (landOk (R.map (·.2)) → ∀ H', Le (T K) H0 H' → isLand K H' b (R.map (·.2)) → Q .non H')
theorem ok_land (C : Ctx K mg base) : MakX P w K mg base 3 "Land" (aLd K) ["self", "rows"] (spLand K) := by
  obtain ⟨fd, F⟩ := C.d.d_Land_init
  refine ⟨_, fd, ?_, F.funD.bindsN fun _ _ _ _ _ _ us hl => (match us, hl with | [_, _], _ => rfl), C.t.k_Land, C.t.m_Land⟩
  refine F.ok sc_Land_init (fun vs H Q E h => ?_) (fun A outer s H vs Q E hr h => ?_)
  · obtain ⟨b, a, dx, R, H0, rfl, _⟩ := h
    rfl
  · obtain ⟨b, a, dx, R, H0, rfl, hb, hb0, L0, ha, hR, lR, lr, hno, hq⟩ := h
    obtain ⟨e1, e2, e3, e4⟩ := C.t.e_TowerError
    obtain ⟨t1, i1⟩ := C.t.i_MOST_SIDE
    have nn := sc_Land_init.nd
    refine ⟨_, pss_cons (ps_fld (pv 0) (pe_genTup (T := T K) (own := [("row", 2)]) (g := gName 2) hr rfl C.t.b_tuple nn (C.b _ (tf_mem 0)) rfl (T_mem 0) (T_uniq C.u 0) (pi_list (pv 1)) (gsc_by (blkOk_by (N := n_Land_init) (sc := defScope s_Land_init) (by decide +kernel)) (by decide +kernel))
        (fun _ _ _ _ _ => (pg_name (i := 2) nn rfl (by first | exact Or.inl rfl | exact Or.inr rfl))) (fun _ _ _ _ _ _ => pe_callTy (r := rTupO K) (call_tupK rfl) (by rfl) C.t.b_tuple (by decide +kernel) (pa_cons (pv 2) pa_nil))) rfl)
      (pss_cons (ps_if (PW.pt (pw_or (pt_not (pt_chain op_lt op_le pe_int (pe_callB call_len_seq (by rfl) C.t.b_len PySem.boot_len (pa_cons (pe_fld (pv 0) rfl) pa_nil)) (pe_glob (by rfl) i1 (v := .int 20) ⟨_, rfl⟩)))
          (pw_or1 (pt_not (pt_chain op_lt op_le pe_int (pe_callB call_len_seq (by rfl) C.t.b_len PySem.boot_len (pa_cons (pe_ix ix_tup (pe_fld (pv 0) rfl) pe_int (fun _ _ => rfl)) pa_nil)) (pe_glob (by rfl) i1 (v := .int 20) ⟨_, rfl⟩)))))) (pss_one (ps_raise rfl takesA (pmk_own PySem.F.excBase_ValueError e1 C.t.m_TowerError e2 (raises_own e3 e4) (by rfl)))) pss_nil)
      (pss_one (ps_for ownsA rfl (pi_tup (pe_fld (pv 0) rfl)) (pg_name (i := 2) nn rfl (by first | exact Or.inl rfl | exact Or.inr rfl))
        (pss_one (ps_if (PW.pt (pw_or (pt_cmpR op_ne (pe_callB call_len_seq (by rfl) C.t.b_len PySem.boot_len (pa_cons (pv 2) pa_nil)) (pe_callB call_len_seq (by rfl) C.t.b_len PySem.boot_len (pa_cons (pe_ix ix_tup (pe_fld (pv 0) rfl) pe_int (fun _ _ => rfl)) pa_nil)) (nomark _))
          (pw_or1 (pt_val (pe_genAny (T := T K) (own := [("height", 3)]) (g := gName 3) hr rfl C.t.b_any nn (C.b _ (tf_mem 0)) rfl (T_mem 0) (T_uniq C.u 0) (pi_tup (pv 2)) (gsc_by (blkOk_by (N := n_Land_init) (sc := defScope s_Land_init) (by decide +kernel)) (by decide +kernel))
            (fun _ _ _ _ _ => (pg_name (i := 3) nn rfl (by first | exact Or.inl rfl | exact Or.inr rfl))) (fun _ _ _ _ _ hrk => pe_not (pe_chain op_le op_le pe_int (pv 3) pe_int))))))) (pss_one (ps_raise rfl takesA (pmk_own PySem.F.excBase_ValueError e1 C.t.m_TowerError e2 (raises_own e3 e4) (by rfl)))) pss_nil))))), ?_⟩
    refine ⟨_, rfl, a, rfl, ⟨_, L0.seqL ha⟩, L0.tab, fun H1 hE hT1 hno1 => ?_⟩
    have L1 : Le (T K) H H1 := ⟨hE, hT1, hno1⟩
    have ha1 := (L0.trans L1).seqL ha
    refine ⟨R.length, fun i ys H' => Le (T K) H1 H' ∧ ∃ L : List (Addr × List Int), ys = (L.map fun x => V.ref x.1) ∧ isRows H' L ∧ L.map (·.2) = (R.take i).map (·.2), Nat.le_trans lR (by decide), ⟨Le.refl hT1, [], rfl, (fun x hx => by cases hx), rfl⟩,
      fun i ys H2 hi ⟨L2, L, k1, k2, k3⟩ => ⟨Itl_go (L2.seqL ha1) (by rw [List.length_map]; exact hi), fun v H3 y3 => ?_⟩, fun ys H2 ⟨L2, L, k1, k2, k3⟩ => ⟨Itl_stop (L2.seqL ha1) (by rw [List.length_map]; exact Nat.le_refl _), fun t ht => ?_⟩⟩
    · obtain ⟨rfl, hx⟩ := Itl_yld (L2.seqL ha1) y3
      obtain ⟨x, hx1, rfl⟩ := GX.get_map hx
      refine ⟨rfl, ?_⟩
      refine ⟨_, rfl, x.1, _, rfl, .inl ⟨((L0.trans L1).trans L2).seqL (hR x (List.mem_of_getElem? hx1)), fun u hu => ?_⟩⟩
      refine ⟨L2.new hu, L ++ [(u, x.2)], by rw [List.map_append, k1]; rfl, fun y hy => ?_, ?_⟩
      · rcases List.mem_append.mp hy with hy | hy
        · have := k2 y hy
          exact (upd_ne (ne_of_none this hu)).trans this
        · rw [List.mem_singleton.mp hy]; exact upd_same
      · rw [List.map_append, k3, GX.take_snoc hx1, List.map_append]
        rfl
    rw [List.take_of_length_le (Nat.le_refl _)] at k3
    generalize hrs : R.map (·.2) = rs at k3 hno hq
    have hrr : rs.length ≤ 1000 := by rw [← hrs, List.length_map]; exact lR
    have hrl : ∀ r ∈ rs, r.length ≤ 1000 := fun r hr2 => by
      rw [← hrs] at hr2
      obtain ⟨x, hx, rfl⟩ := List.mem_map.mp hr2
      exact lr x hx
    have LA : Le (T K) H0 H2 := (L0.trans L1).trans L2
    have hb2 : H2 b = some (.ins (aLd K) dx []) := (L1.trans L2).at hb
    subst k1
    have L3 := LA.new (o := .tup (L.map fun x => V.ref x.1)) ht
    have hbt : b ≠ t := ne_of_none hb2 ht
    have hb3 : upd H2 t (.tup (L.map fun x => V.ref x.1)) b = _ := (upd_ne hbt).trans hb2
    have ht3 : upd H2 t (.tup (L.map fun x => V.ref x.1)) t = some (.tup (L.map fun x => V.ref x.1)) := upd_same
    have k4 : isRows (upd H2 t (.tup (L.map fun x => V.ref x.1))) L := fun x hx => (upd_ne (ne_of_none (k2 x hx) ht)).trans (k2 x hx)
    generalize upd H2 t (.tup (L.map fun x => V.ref x.1)) = H3 at L3 hb3 ht3 k4
    refine ⟨_, rfl, b, _, dx, _, rfl, hb3, C.t.c_Land, C.t.a_Land_rows, by show 0 < 1000; decide, ?_⟩
    have L4 : Le (T K) H0 (upd H3 b (.ins (aLd K) dx [("rows", .ref t)])) := L3.set hb0 hb3
    have hb4 : upd H3 b (.ins (aLd K) dx [("rows", .ref t)]) b = some (.ins (aLd K) dx [("rows", .ref t)]) := upd_same
    have ht4 : upd H3 b (.ins (aLd K) dx [("rows", .ref t)]) t = some (.tup (L.map fun x => V.ref x.1)) := (upd_ne (Ne.symm hbt)).trans ht3
    have k5 : isRows (upd H3 b (.ins (aLd K) dx [("rows", .ref t)])) L := fun x hx => (upd_ne (fun z => by
      have := k4 x hx
      rw [z, hb3] at this
      cases this)).trans (k4 x hx)
    show tSeq _ _ _ _ (upd H3 b (.ins (aLd K) dx [("rows", .ref t)]))
    generalize upd H3 b (.ins (aLd K) dx [("rows", .ref t)]) = H4 at L4 hb4 ht4 k5
    have ll : L.length = rs.length := by rw [← k3, List.length_map]
    have bad : ¬ landOk rs → ∀ H', Le (T K) H4 H' → E (.ref (aTE K)) none H' := fun z H' L' => hno z _ (L4.trans L')
    have fld : ∀ {H' : Hp}, Le (T K) H4 H' → H' b = some (.ins (aLd K) dx [("rows", .ref t)]) ∧ H' t = some (.tup (L.map fun x => V.ref x.1)) ∧ isRows H' L := fun L' => ⟨L'.at hb4, L'.at ht4, fun x hx => L'.at (k5 x hx)⟩
    have good : landOk rs → ∀ H', Le (T K) H4 H' → Q .non H' := fun z H' L' => hq z _ (L4.trans L') (by
      obtain ⟨f1, f2, f3⟩ := fld L'
      exact ⟨dx, t, f1, L, f2, f3, k3⟩)
    clear hno hq
    have F0 := fld (Le.refl L4.tab)
    refine ⟨_, rfl, b, _, dx, _, _, rfl, hb4, C.t.c_Land, C.t.a_Land_rows, rfl, t, _, rfl, .inr (SqT.of ht4), _, _, rfl, rfl, _, rfl, ?_⟩
    rw [List.length_map, ll]
    by_cases h0 : 0 < rs.length
    case neg =>
      rw [decide_eq_false (show ¬ (0 : Int) < ((rs.length : Nat) : Int) by omega)]
      exact iteF ⟨_, rfl, iteT (iteT (bad (fun z => h0 z.1.h1) _ (Le.refl L4.tab)))⟩
    rw [decide_eq_true (show (0 : Int) < ((rs.length : Nat) : Int) by omega)]
    refine iteT ⟨_, _, rfl, rfl, _, rfl, ?_⟩
    by_cases h20 : rs.length ≤ 20
    case neg =>
      rw [decide_eq_false (show ¬ ((rs.length : Nat) : Int) ≤ 20 by omega)]
      exact iteT (iteT (bad (fun z => h20 z.1.h2) _ (Le.refl L4.tab)))
    rw [decide_eq_true (show ((rs.length : Nat) : Int) ≤ 20 by omega)]
    obtain ⟨a0, ha0⟩ := land_head k3 h0
    refine iteF ⟨_, rfl, b, _, dx, _, _, rfl, hb4, C.t.c_Land, C.t.a_Land_rows, rfl, t, _, _, _, rfl, rfl, SqT.of ht4, atI_nat (j := 0) (by rw [List.getElem?_map, ha0]; rfl), a0, _, rfl, .inr (SqT.of (k5 _ (List.mem_of_getElem? ha0))), _, _, rfl, rfl, _, rfl, ?_⟩
    rw [List.length_map]
    by_cases w0 : 0 < (rs.headD []).length
    case neg =>
      rw [decide_eq_false (show ¬ (0 : Int) < (((rs.headD []).length : Nat) : Int) by omega)]
      exact iteF ⟨_, rfl, iteT (bad (fun z => w0 z.2) _ (Le.refl L4.tab))⟩
    rw [decide_eq_true (show (0 : Int) < (((rs.headD []).length : Nat) : Int) by omega)]
    refine iteT ⟨_, _, rfl, rfl, _, rfl, ?_⟩
    by_cases w20 : (rs.headD []).length ≤ 20
    case neg =>
      rw [decide_eq_false (show ¬ (((rs.headD []).length : Nat) : Int) ≤ 20 by omega)]
      exact iteT (bad (fun z => w20 z.1.w2) _ (Le.refl L4.tab))
    rw [decide_eq_true (show (((rs.headD []).length : Nat) : Int) ≤ 20 by omega)]
    refine iteF ?_
    refine ⟨_, rfl, b, _, dx, _, _, rfl, hb4, C.t.c_Land, C.t.a_Land_rows, rfl, t, rfl, ⟨_, SqT.of ht4⟩, ?_⟩
    refine for_tup (xs := L.map fun x => V.ref x.1) (fun i σ H' => Le (T K) H4 H' ∧ (∃ a2, σ = [some (.ref b), some (.ref a), a2, none]) ∧ ∀ r ∈ rs.take i, r.length = (rs.headD []).length ∧ ∀ z ∈ r, 0 ≤ z ∧ z ≤ 999)
      ⟨Le.refl L4.tab, ⟨none, rfl⟩, fun r hr => by cases hr⟩ (fun i σ H' _ hP => SqT.of (fld hP.1).2.1) (fun i v σ H5 hv ⟨L5, ⟨a2, hσ⟩, hok⟩ => ?_) (fun σ H5 ⟨L5, ⟨a2, hσ⟩, hok⟩ => ?_)
    · subst hσ
      obtain ⟨x, hx, rfl⟩ := GX.get_map hv
      have hxm := List.mem_of_getElem? hx
      obtain ⟨f1, f2, f3⟩ := fld L5
      have hxr : rs[i]? = some x.2 := by rw [← k3, List.getElem?_map, hx]; rfl
      have hxrm := List.mem_of_getElem? hxr
      have ne0 : x.2.length ≤ 1000 := hrl _ hxrm
      refine ⟨_, rfl, x.1, _, rfl, .inr (SqT.of (f3 x hxm)), _, rfl, b, _, dx, _, _, rfl, f1, C.t.c_Land, C.t.a_Land_rows, rfl, t, _, _, _, rfl, rfl, SqT.of f2, atI_nat (j := 0) (by rw [List.getElem?_map, ha0]; rfl), a0, _, rfl, .inr (SqT.of (f3 _ (List.mem_of_getElem? ha0))), rfl, _, rfl, ?_⟩
      rw [List.length_map, List.length_map]
      by_cases hlen : x.2.length = (rs.headD []).length
      case neg =>
        exact iteNT (show ¬ V.int ((x.2.length : Nat) : Int) = V.int (((rs.headD []).length : Nat) : Int) from fun z => hlen (by have := V.int.inj z; omega)) (iteT (bad (fun z => hlen (z.1.row _ hxrm)) _ L5))
      refine iteNS (show V.int ((x.2.length : Nat) : Int) = V.int (((rs.headD []).length : Nat) : Int) by rw [hlen]) ?_
      refine ⟨_, rfl, x.1, rfl, ⟨_, SqT.of (f3 x hxm)⟩, L5.tab, ?_⟩
      refine genAny_tup (pb := fun j => !decide (0 ≤ x.2.getD j 0 ∧ x.2.getD j 0 ≤ 999)) (xs := x.2.map V.int) (SqT.of (f3 x hxm)) (fun j v H6 hv6 h06 L6 => ?_) (fun H6 L6 hnone => ?_)
      · obtain ⟨z, hz, rfl⟩ := GX.get_map hv6
        have hzd : x.2.getD j 0 = z := getD_of hz
        refine ⟨rfl, ?_⟩
        have LL := L5.trans L6
        have ht : (!decide (0 ≤ x.2.getD j 0 ∧ x.2.getD j 0 ≤ 999)) = true → E (.ref (aTE K)) none H6 := fun q => bad (fun g => by
          rw [hzd] at q
          have := g.1.val _ hxrm z (List.mem_of_getElem? hz)
          rw [decide_eq_true this] at q
          cases q) _ LL
        refine ⟨_, rfl, _, _, rfl, rfl, _, rfl, ?_⟩
        by_cases z0 : 0 ≤ z
        · rw [decide_eq_true z0]
          refine iteT ⟨_, _, rfl, rfl, _, rfl, _, rfl, any_close ?_ h06 L6 fun q => ⟨_, rfl, iteT (ht q)⟩⟩
          show (!decide (z ≤ 999)) = !decide (0 ≤ x.2.getD j 0 ∧ x.2.getD j 0 ≤ 999)
          rw [hzd]
          simp [z0]
        · rw [decide_eq_false z0]
          refine iteF ⟨_, rfl, _, rfl, any_close ?_ h06 L6 fun q => ⟨_, rfl, iteT (ht q)⟩⟩
          show (!false) = !decide (0 ≤ x.2.getD j 0 ∧ x.2.getD j 0 ≤ 999)
          rw [hzd]
          simp [z0]
      · refine ⟨_, rfl, iteF ⟨L5.trans L6, ⟨_, rfl⟩, fun r hr2 => ?_⟩⟩
        rw [GX.take_snoc hxr] at hr2
        rcases List.mem_append.mp hr2 with hr2 | hr2
        · exact hok r hr2
        · rw [List.mem_singleton.mp hr2]
          refine ⟨hlen, fun z hz => ?_⟩
          obtain ⟨j, hj, ej⟩ := List.mem_iff_getElem.mp hz
          have := hnone j (by rw [List.length_map]; exact hj)
          have hzd : x.2.getD j 0 = z := by rw [List.getD_eq_getElem?_getD, List.getElem?_eq_getElem hj, ej]; rfl
          have this : (!decide (0 ≤ x.2.getD j 0 ∧ x.2.getD j 0 ≤ 999)) = false := this
          rw [hzd] at this
          simpa using this
    · subst hσ
      rw [List.length_map, ll, List.take_of_length_le (Nat.le_refl _)] at hok
      exact good ⟨⟨h0, h20, w20, fun r hr2 => (hok r hr2).1, fun r hr2 => (hok r hr2).2⟩, w0⟩ _ L5
end
end K2

-- text KeyS
set_option maxRecDepth 100000
set_option maxHeartbeats 4000000
/-! KeyS: sorted(xs, key=f), f a def of the text that gives the first two of a tuple. -/
namespace GX
open PySem PySem.Spec PyProof.Rows L2 LamX
section
variable {P : Program} {w : World} {A : Around} {E : Value → Shared → Prop} {s : Shared}
theorem item_exact {env : Env} {x : Str} {m : Str → Option Value} {t : Addr} {items : Array Value} {i j : Nat} {y : Value} {p1 p2 p3 : Pos} {Q : Value → Shared → Prop} (hk : env.scope.kind = .function) (hl : env.kindOf x = some .local) (hn : s.heap.Ns env.locals m) (hm : m x = some (.ref t))
    (ht : IsTup s.heap t items) (hy : items[i]? = some y) (hi : i < 100) (hd : (x == ("__debug__" : Str)) = false) (hq : Q y { s with toks := s.toks + 1 }) : wpAny (model P w) A (eval (.Subscript (.Name x p1) (.Constant (.int (i : Int)) j p2) p3) env) Q E s := by
  refine Subscript_ (wpAny_Name (wpAny_loadName_local hk hl hn hm ?_) hd)
  refine wpAny_Constant_int ?_
  have hlt : i < items.size := (Array.getElem?_eq_some_iff.mp hy).1
  refine subscriptTail_builtinR (x := y) (IsTup.typeIs ht) slot_tuple_getitem.lookup (getItem_tuple (j := i) (Q := fun r s' => r = y ∧ Q r s') ht (by omega) (by omega) ?_ hy ⟨rfl, hq⟩) rfl
  rw [seqIndex_of (by omega) (by omega)]
  rfl
/-- f is a def whose key of a tuple is a tuple of its first two -/
structure Key2 (K : PySem.W.Frag) (f : Addr) (q x : Str) (sc : Scope) (bd : List Stmt) : Prop where
  ex : ∃ (pa : Arguments) (oc : Value) (od : Option Addr) (dV kV doc pm cdv ct : Value) (an : Option Addr) (osl : Array (Option Value)),
    K.lookup f = some ⟨oc, od, .func (PySem.W.fnOf q q pa bd sc dV kV doc pm an cdv ct), osl⟩ ∧ PySem.W.codeIn K cdv q = true ∧ L2.Binds K (PySem.W.fnOf q q pa bd sc dV kV doc pm an cdv ct) [x] []
  s : FnScope [x] [x] sc
  l : sc.names.lookup x = some .local
  d : (x == ("__debug__" : Str)) = false
  b : ∃ p1 p2 p3 p4 p5 p6 p7 p8 j1 j2 k, bd = [.Return (some (.Tuple [.Subscript (.Name x p1) (.Constant (.int 0) j1 p2) p3, .Subscript (.Name x p4) (.Constant (.int 1) j2 p5) p6] k p7)) p8]
theorem key_call {K : PySem.W.Frag} {f : Addr} {q x : Str} {sc : Scope} {bd : List Stmt} {t : Addr} {items : Array Value} {a b : Int} {ta tb : Tok} (G : Key2 K f q x sc bd) (hr : Room 1 A) (hK : K.In s.heap) (lim : s.heap.NoLimit) (ht : IsTup s.heap t items) (h0 : items[0]? = some (.int a ta)) (h1 : items[1]? = some (.int b tb)) :
    wpAny (model P w) A (call (.ref f) [.ref t]) (PySem.W.KeyPure (.tuple [.int a, .int b]) s) E s := by
  obtain ⟨pa, oc, od, dV, kV, doc, pm, cdv, ct, an, osl, lk, hcd, hb⟩ := G.ex
  obtain ⟨p1, p2, p3, p4, p5, p6, p7, p8, j1, j2, k, rfl⟩ := G.b
  have hkind : ∀ y ∈ [x].zip [Value.ref t], sc.names.lookup y.1 = some .local ∨ (sc.names.lookup y.1 = some .cell ∧ ((cellsFrom (s.heap.objs.size + 1) sc.names []).lookup y.1).isSome = true) := fun y hy => by
    rw [List.mem_singleton.mp (show y ∈ [(x, Value.ref t)] from hy)]
    exact .inl G.l
  have rc : codeAny (model P w) A (.call (.ref f) ⟨[.ref t], []⟩) (fun r s' => ∃ v, r = .ok (.ret v) ∧ PySem.W.KeyPure (.tuple [.int a, .int b]) s v s') s := by
    refine codeAny_call_function hr.depth (hK _ _ lk) rfl G.s.co G.s.gen rfl (PySem.W.codeRec_of hK hcd) (hb s [.ref t] hK rfl _ _ _ _ ?_)
    refine wpAny_newFunctionEnv_cells G.s.kind hkind fun env he s1 z => ?_
    subst he
    refine ⟨lim.keeps z.toInCall.keep, codeAny_func ?_⟩
    obtain ⟨h', tk, rfl, kp⟩ := z.done
    have hn := z.toInCall.ns
    have hmx : bindL (envOfC q sc s.heap.objs.size f cdv).kindOf ([x].zip [Value.ref t]) (fun _ => none) x = some (Value.ref t) := by
      have hk : (envOfC q sc s.heap.objs.size f cdv).kindOf x = some .local := G.l
      show bindL _ [(x, Value.ref t)] _ x = _
      simp [bindL, hk]
    refine wpAny_execs_cons ?_
    refine wpAny_Return_some (wpAny_Tuple_spliced ?_)
    show wpAny _ _ (spliced ((false, eval _ _) :: backTo p7 [(false, eval _ _)])) _ _ _
    refine Calls.spliced_cons (item_exact (i := 0) (m := _) G.s.kind G.l hn hmx (ht.keeps kp) h0 (by decide) G.d ?_)
    refine Calls.spliced_cons (item_exact (i := 1) (m := _) G.s.kind G.l hn hmx (ht.keeps kp) h1 (by decide) G.d ?_)
    refine Calls.spliced_nil ⟨by show 2 ≤ sizeLine; decide, ?_⟩
    refine ⟨_, rfl, _, _, rfl, fun b o e => Heap.get?_push_of_some _ (kp b o e), ?_⟩
    exact .tuple (Heap.get?_push_size _ rfl) rfl rfl (.cons (.int _ _) (.cons (.int _ _) .nil))
  refine wpAny_call (codeAny_mono rc fun r s' hq => ?_)
  obtain ⟨v, rfl, hq⟩ := hq
  exact hq
end
/-- by the first, then by the second -/
abbrev le2 (p q : Addr × Int × Int) : Bool := decide (p.2.1 < q.2.1 ∨ (p.2.1 = q.2.1 ∧ p.2.2 ≤ q.2.2))
def rSort2 (K : PySem.W.Frag) (f : Addr) : List V → List V → Hp → VK → Prop := fun vs zs H Q => ∃ (a : Addr) (xs : List (Addr × Int × Int)), vs = [V.ref a] ∧ zs = [.ref f] ∧ SqL K H a (xs.map fun x => V.ref x.1) ∧ (∀ x ∈ xs, ∃ rest, H x.1 = some (.tup (V.int x.2.1 :: V.int x.2.2 :: rest))) ∧
  ∀ p, H p = none → Q (.ref p) (upd H p (.lst ((xs.mergeSort le2).map fun x => V.ref x.1)))
theorem vals_refs : ∀ {xs : List (Addr × Int × Int)} {us : List Value}, Vals (xs.map fun x => V.ref x.1) us → PySem.W.EachIs (fun (v : Value) (x : Addr × Int × Int) => v = .ref x.1) us xs
  | [], _, .nil => .nil
  | x :: r, _, .cons h t => .cons h (vals_refs t)
theorem refs_vals : ∀ {xs : List (Addr × Int × Int)} {us : List Value}, PySem.W.EachIs (fun (v : Value) (x : Addr × Int × Int) => v = .ref x.1) us xs → Vals (xs.map fun x => V.ref x.1) us
  | [], _, .nil => .nil
  | x :: r, _, .cons h t => .cons h (refs_vals t)
theorem dataLe_fn {out : List Value} {xs : List (Addr × Int × Int)} (e : PySem.W.EachIs (fun (v : Value) (x : Addr × Int × Int) => v = .ref x.1) out (xs.mergeSort (PySem.W.dataLe false fun x : Addr × Int × Int => PyData.tuple [.int x.2.1, .int x.2.2]))) :
    PySem.W.EachIs (fun (v : Value) (x : Addr × Int × Int) => v = .ref x.1) out (xs.mergeSort le2) := by
  rw [PySem.W.dataLe_ii (β := Addr × Int × Int) (fun p => p.2.1) (fun p => p.2.2)] at e
  exact e
theorem cr_sort2 {X : Cx} {f : Addr} {q x : Str} {sc : Scope} {bd : List Stmt} (G : Key2 X.K f q x sc bd) (hr : Room 3 X.A) : CallRK X (.builtin "sorted") [Str.ofString "key"] (rSort2 X.K f) := by
  intro pins s σ H vs zs us ws Q I r rz h
  obtain ⟨a, xs, rfl, rfl, hs, ht, hq⟩ := h
  obtain rfl := Vals.ref1 r
  obtain rfl := Vals.ref1 rz
  obtain ⟨its, rv, hl, hz⟩ := I.list hs
  rw [List.length_map] at hz
  have hu := hr.units
  have e := vals_refs rv
  refine PySem.W.sorted_key_data (b := false) (fun x : Addr × Int × Int => PyData.tuple [.int x.2.1, .int x.2.2]) hl.isList e (PySem.W.AllAlike.of fun _ _ => by simp [PySem.W.alike, PySem.W.alikeAll]) (PySem.W.Sortable.tuples fun _ => ⟨_, _, rfl⟩) hz (fun x _ => ?_) (PyProof.Rows.ksk_s1 _ _) (fun _ => PyProof.Rows.ksk_l1 _ _) (fun _ => PyProof.Rows.ksk_t1 _ _)
    (fun v x hv hx h tk kp => ?_) fun out c h' tk kp _ hD _ eo => ?_
  · have hd : (PyData.tuple [.int x.2.1, .int x.2.2]).depth = 1 := by simp [PyData.depth, PyData.depthAll]
    rw [hd]
    omega
  · have hv : v = .ref x.1 := hv
    subst hv
    obtain ⟨rest, hx1⟩ := ht x hx
    obtain ⟨_, vs, rvs, it⟩ := I.hok x.1 _ hx1
    cases rvs with
    | cons r1 rvs =>
      cases rvs with
      | cons r2 rvs =>
        obtain ⟨t1, rfl⟩ := r1
        obtain ⟨t2, rfl⟩ := r2
        exact key_call (s := { s with heap := h, toks := tk }) G hr.in1.in1 (I.kIn.keeps kp) (I.nolimit.keeps kp) (it.keeps kp) rfl rfl
  · have e2 := dataLe_fn eo
    have hlen : ((xs.mergeSort le2).map fun x => V.ref x.1).length ≤ sizeLine := by rw [List.length_map, List.length_mergeSort]; exact hz
    exact ⟨.ref _, upd H (s.heap.objs.size + 1) (.lst ((xs.mergeSort le2).map fun x => V.ref x.1)), I.laid (t' := tk) kp (Nat.le_succ _) ⟨hlen, _, c, refs_vals e2, hD⟩, rfl, hq _ (I.hok.fresh (Nat.le_succ _))⟩
end GX

-- text RemS
set_option maxRecDepth 100000
set_option maxHeartbeats 4000000
/-! RemS: xs.remove(y) of texts; an attribute with the written part named; a walk over a list or a tuple. -/
namespace GX
open PySem PySem.Spec PyProof.Rows L2 LamX
def eqs (k : Str) (v : Value) : Bool := match v with
  | .str n _ => decide (n = k)
  | _ => false
theorem eqs_gives {k : Str} {t : Tok} : ∀ {us : List Value} {ns : List Str}, StrsAre us ns → ∀ y ∈ us, MeetsSeq.EqGives y (.str k t) (eqs k y)
  | _, _, .nil => fun y hy => by cases hy
  | _, _, .cons n t' h => fun y hy => by
    rcases List.mem_cons.mp hy with e | e
    · rw [e]
      exact fun _ _ _ _ _ _ h => wpAny_eqBool_str h
    · exact eqs_gives h y e
theorem erase_mapS : ∀ (l : List Str) (j : Nat), (l.map V.str).eraseIdx j = (l.eraseIdx j).map V.str
  | [], j => by simp
  | a :: r, 0 => by simp
  | a :: r, j + 1 => by
    have ih := erase_mapS r j
    simp [ih]
section
variable {X : Cx}
def rRemS : V → List V → Hp → VK → Prop := fun x xs H Q => ∃ (l : Addr) (ns : List Str) (k : Str) (j : Nat), x = .ref l ∧ xs = [.str k] ∧ H l = some (.lst (ns.map V.str)) ∧ ns[j]? = some k ∧ (∀ m : Nat, m < j → ns[m]? ≠ some k) ∧ Q .non (upd H l (.lst ((ns.eraseIdx j).map V.str)))
theorem mt_removeS : MtM X "list.remove" rRemS := by
  intro pins s σ H x xs v us Q I rx rxs h
  obtain ⟨l, ns, k, j, rfl, rfl, hH, hj, hno, q⟩ := h
  cases rx
  obtain ⟨u, rfl, ru⟩ := rxs.one
  obtain ⟨t, rfl⟩ := ru
  obtain ⟨z, its, n, r, hl, e⟩ := I.lstM hH
  have hi := strs_of_vals r
  rw [List.length_map] at hl z
  have hjn : j < ns.length := (List.getElem?_eq_some_iff.mp hj).1
  have hjl : j < its.toArray.size := by rw [List.size_toArray]; omega
  refine call_meets PySem.F.slot_list_remove ⟨_, e, rfl⟩ PySem.F.entry_list_remove (PySem.F.args_list_remove_2 _ _)
    (MeetsSeq.list_remove l its.toArray n (.str k t) (eqs k) (fun y hy => eqs_gives hi y (by simpa using hy)) j hjl ?_ ?_ (by rw [List.size_toArray]; omega)) ⟨e, ?_⟩
  · obtain ⟨tj, hjt⟩ := hi.get j k hj
    obtain ⟨h1, h2⟩ := List.getElem?_eq_some_iff.mp hjt
    have e1 : its.toArray[j] = .str k tj := by simpa using h2
    rw [e1]
    exact decide_eq_true rfl
  · intro m hm hmj
    have hmn : m < ns.length := by omega
    obtain ⟨tm, hmt⟩ := hi.get m _ (List.getElem?_eq_getElem hmn)
    obtain ⟨h1, h2⟩ := List.getElem?_eq_some_iff.mp hmt
    have e1 : its.toArray[m] = .str ns[m] tm := by simpa using h2
    rw [e1]
    refine decide_eq_false fun e2 => hno m hmj ?_
    rw [List.getElem?_eq_getElem hmn, e2]
  · have rr := r.eraseIdx j
    rw [erase_mapS] at rr
    refine ⟨.non, _, I.lset (its' := its.eraseIdx j) (t' := s.toks) hH e ?_ rr ?_, rfl, q⟩
    · show its.toArray.eraseIdxIfInBounds j = (its.eraseIdx j).toArray
      rw [List.eraseIdxIfInBounds_toArray]
    · have z2 := len_erase ns j
      rw [List.length_map]
      omega
theorem pe_fldK {K : PySem.W.Frag} {e : Expr} {f : Str} {pos : Pos} {ta : TE} (hK : X.K = K) (he : PE X e ta) (hb : attributeBase e f X.env (eval e X.env) = eval e X.env) : PE X (.Attribute e f pos) (tFld K ta f) := by
  subst hK
  exact pe_fld he hb
/-- one walk or another -/
theorem pi_or {tg e : Expr} {w1 w2 : TI} (h1 : PI X tg e w1) (h2 : PI X tg e w2) : PI X tg e (fun σ H R => w1 σ H R ∨ w2 σ H R) :=
  ⟨fun pins s σ H R I h => h.elim (h1.run pins s σ H R I) (h2.run pins s σ H R I)⟩
end
end GX

-- text SortT
set_option maxRecDepth 100000
set_option maxHeartbeats 4000000
/-! SortT: sorted of a list or a tuple of data, and by a key that gives data. -/
namespace GX
open PySem PySem.W PySem.Spec PySem.Calls PyProof.Rows L2 LamX
/-- a list or a tuple -/
def IsSeq (h : Heap) (l : Addr) (vs : List Value) : Prop := ∃ o T, h.get? l = some o ∧ o.cls = .type T ∧ (T = "list" ∨ T = "tuple") ∧ ∃ n, o.data = .seq vs.toArray n
section
variable {prog : Program} {w : World} {A : Around} {E : Value → Shared → Prop} {s : Shared}
theorem collect_seq {l : Addr} {vs : List Value} {Q : List Value → Shared → Prop} (hl : IsSeq s.heap l vs)
    (h : Q vs { s with heap := (s.heap.push (seqObj "list" #[] 0)).update s.heap.objs.size (Obj.mapSeq (· ++ vs.toArray)) }) (hsz : vs.length ≤ sizeLine) :
    wpAny (model prog w) A (collect (.ref l)) Q E s := by
  obtain ⟨o, T, ho, hc, hT, n, hd⟩ := id hl
  unfold collect
  refine wpAny_bind (wpAny_runValue (codeAny_builtin entry_proto_collect' ?_))
  show wpAny _ _ (do again (.builtin "list.__iadd__" ⟨[← newList [], .ref l], []⟩)) _ _ s
  refine wpAny_bind (wpAny_newList (wpAny_pure ⟨Code.quiet_builtin _ (by decide +kernel), codeAny_builtin entry_list_iadd' ?_⟩))
  show wpAny _ _ (Builtin.List.listExtendWith (.ref s.heap.objs.size) (.ref l) (.ref s.heap.objs.size)) _ _ { s with heap := s.heap.push (seqObj "list" #[] 0) }
  unfold Builtin.List.listExtendWith
  have ho' : (s.heap.push (seqObj "list" #[] 0)).get? l = some o := Heap.get?_push_of_some _ ho
  refine wpAny_bind (wpAny_typeOf (T := T) ⟨o, ho', hc⟩ ?_)
  have ht : ((Value.type T == Value.type "list") || (Value.type T == Value.type "tuple")) = true := by rcases hT with rfl | rfl <;> rfl
  rw [if_pos (by rw [Bool.or_assoc, ht, Bool.or_true])]
  refine wpAny_bind (listItems_at ho' hd ?_)
  refine wpAny_bind (listItems_at (xs := #[]) (n := 0) (Heap.get?_push_size _ rfl) rfl ?_)
  rw [if_neg (by simp)]
  refine wpAny_bind (listUpdate_at (xs := #[]) (n := 0) (Heap.get?_push_size _ rfl) rfl ?_ (Nat.zero_le _) (by show (#[] ++ vs.toArray).size ≤ sizeLine + 1; simp only [Array.size_append, List.size_toArray, List.length_nil]; omega))
  refine wpAny_pure ?_
  show wpAny (model prog w) A (do
      let o ← load s.heap.objs.size
      match o.data with
      | .seq xs _ => pure xs.toList
      | _ => unsupported "internal:collect") Q E { s with heap := (s.heap.push (seqObj "list" #[] 0)).update s.heap.objs.size (Obj.mapSeq (· ++ vs.toArray)) }
  refine wpAny_bind (wpAny_load (get?_update_seq (Heap.get?_push_size _ rfl) _) ?_)
  show wpAny _ _ (pure ((#[] : Array Value) ++ vs.toArray).toList) Q E _
  rw [show ((#[] : Array Value) ++ vs.toArray).toList = vs by simp]
  exact wpAny_pure h
theorem sorted_of_sortT {l : Addr} {vs : List Value} {kw : List (Str × Value)} {Q : Value → Shared → Prop} (hl : IsSeq s.heap l vs) (hL : vs.length ≤ sizeLine) (ha1 : argsOk "sorted" ⟨[.ref l], kw⟩) (ha2 : ∀ x, argsOk "list.sort" ⟨[.ref x], kw⟩)
    (body : ∀ E' : Value → Shared → Prop, wpAny (model prog w) A.in1.in1 (Builtin.«list.sort» ⟨[.ref (s.heap.objs.size + 1)], kw⟩) (fun f s' => f = .done (.ret .none) ∧ Q (.ref (s.heap.objs.size + 1)) s') E' { s with heap := copyHeap s.heap vs }) :
    wpAny (model prog w) A (call (.builtin "sorted") [.ref l] kw) Q E s := by
  refine call_function_entry_kw kind_sorted plain_sorted entry_sorted ha1 ?_
  unfold Builtin.«sorted»
  refine wpAny_bind (m := checkCount "sorted" 1 1 _) (wpAny_pure ?_)
  refine wpAny_bind (collect_seq hl ?_ hL)
  refine wpAny_bind (wpAny_newList ?_ hL)
  have hsz : ((s.heap.push (seqObj "list" #[] 0)).update s.heap.objs.size (Obj.mapSeq (· ++ vs.toArray))).objs.size = s.heap.objs.size + 1 := by
    rw [Heap.size_update, size_push']
  show wpAny _ _ _ _ _ { s with heap := copyHeap s.heap vs }
  rw [hsz]
  refine wpAny_bind (wpAny_holding (wpAny_call_entry_kw slot_list_sort ⟨_, copyHeap_at s.heap vs, rfl⟩ entry_list_sort ?body (ha2 _)))
  case body =>
    show wpAny (model prog w) A.in1.in1 (Builtin.«list.sort» ⟨[.ref (s.heap.objs.size + 1)], kw⟩) _ _ _
    refine wpAny_mono (body _) (fun f s' hf => ?_) fun _ _ e => e
    obtain ⟨rfl, hq⟩ := hf
    exact ⟨_, rfl, wpAny_pure ⟨_, rfl, hq⟩⟩
end
section
variable {X : Cx} {K : PySem.W.Frag}
theorem inv_seq {pins : List (Addr × Obj)} {σ : L2.St} {H : Hp} {s : Shared} {a : Addr} {xs : List V} (I : Inv X pins σ H s) (h : SqL X.K H a xs ∨ SqT X.K H a xs) : ∃ its, Vals xs its ∧ IsSeq s.heap a its ∧ xs.length ≤ sizeLine := by
  rcases h with h | h
  · obtain ⟨its, rv, ⟨o, n, ho, hc, hdn, hd⟩, hz⟩ := I.list h
    exact ⟨its, rv, ⟨o, "list", ho, hc, .inl rfl, n, hd⟩, hz⟩
  · obtain ⟨its, rv, ⟨o, ho, hc, n, hd⟩, hz⟩ := I.tuple h
    exact ⟨its, rv, ⟨o, "tuple", ho, hc, .inr rfl, n, hd⟩, hz⟩
theorem vals_refsD {α : Type} : ∀ {xs : List (Addr × α)} {us : List Value}, Vals (xs.map fun x => V.ref x.1) us → EachIs (fun (v : Value) (x : Addr × α) => v = .ref x.1) us xs
  | [], _, .nil => .nil
  | x :: r, _, .cons h t => .cons h (vals_refsD t)
theorem refs_valsD {α : Type} : ∀ {xs : List (Addr × α)} {us : List Value}, EachIs (fun (v : Value) (x : Addr × α) => v = .ref x.1) us xs → Vals (xs.map fun x => V.ref x.1) us
  | [], _, .nil => .nil
  | x :: r, _, .cons h t => .cons h (refs_valsD t)
/-- sorted(xs), xs a list or a tuple of objects that read as data -/
def rSortDat (K : PySem.W.Frag) : List V → Hp → VK → Prop := fun vs H Q => ∃ (a : Addr) (xs : List (Addr × PyData)), vs = [V.ref a] ∧ (SqL K H a (xs.map fun x => V.ref x.1) ∨ SqT K H a (xs.map fun x => V.ref x.1)) ∧ (∀ x ∈ xs, Dp K H (.ref x.1) x.2) ∧
  AllAlike (xs.map (·.2)) ∧ Sortable (xs.map (·.2)) ∧ (∀ x ∈ xs, x.2.depth ≤ 8) ∧ ∀ p, H p = none → Q (.ref p) (upd H p (.lst ((xs.mergeSort (dataLe false fun x : Addr × PyData => x.2)).map fun x => V.ref x.1)))
theorem each_mem' {α β : Type} {R : α → β → Prop} {S : α → β → Prop} : ∀ {as : List α} {bs : List β}, EachIs R as bs → (∀ a b, b ∈ bs → R a b → S a b) → EachIs S as bs
  | [], [], _, _ => .nil
  | _ :: _, _ :: _, .cons h t, k => .cons (k _ _ List.mem_cons_self h) (each_mem' t fun a b hb => k a b (List.mem_cons_of_mem _ hb))
theorem cr_sortDat (hr : Room 3 X.A) : CallR X (.builtin "sorted") (rSortDat X.K) := by
  intro pins s σ H vs us Q I r h
  obtain ⟨a, xs, rfl, hs, hd, hal, hk, hdep, hq⟩ := h
  obtain rfl := Vals.ref1 r
  obtain ⟨its, rv, hl, hz⟩ := inv_seq I hs
  rw [List.length_map] at hz
  have hu := hr.units
  have e := vals_refsD rv
  have er : EachIs (fun (v : Value) (x : Addr × PyData) => ∃ as, Reads s.heap v x.2 as) its xs := each_mem' e fun v x hx hv => Dp.reads I x.2 (.ref x.1) v (hd x hx) hv
  have er' : EachIs (fun (v : Value) (x : Addr × PyData) => ∃ as, Reads (sortingHeap (copyHeap s.heap its) (s.heap.objs.size + 1) its) v x.2 as) its xs := er.mono fun _ _ ⟨as, r⟩ => ⟨as, PyProof.Rows.Reads.keeps (fun _ _ => sorting_copy_old) r⟩
  refine sorted_of_sortT hl (by rw [e.length]; exact hz) (args_sorted1 _) (fun _ => args_list_sort _) fun _ => list_sort_vals (s := { s with heap := copyHeap s.heap its }) (copyHeap_at s.heap its)
    (SortsAt.data (s := { s with heap := sortingHeap (copyHeap s.heap its) (s.heap.objs.size + 1) its }) (each_map (R := fun v d => ∃ as, Reads (sortingHeap (copyHeap s.heap its) (s.heap.objs.size + 1) its) v d as) (fun x : Addr × PyData => x.2) er') hal hk (bound_map fun x hx => ?_)) (by rw [e.length]; exact hz) ⟨rfl, ?_⟩
  · have := hdep x hx
    show X.A.units + 2 + x.2.depth < cLine
    omega
  · have eo := sortVals_data false e er' hal
    obtain ⟨ep, he'⟩ := PyProof.Rows.sortedAll_at s.heap its (sortVals (dataKind (sortingHeap (copyHeap s.heap its) (s.heap.objs.size + 1) its) (xs.map fun x : Addr × PyData => x.2)) false its its).toArray
    have hlen : ((xs.mergeSort (dataLe false fun x : Addr × PyData => x.2)).map fun x => V.ref x.1).length ≤ sizeLine := by rw [List.length_map, List.length_mergeSort]; exact hz
    exact ⟨.ref _, upd H (s.heap.objs.size + 1) (.lst ((xs.mergeSort (dataLe false fun x : Addr × PyData => x.2)).map fun x => V.ref x.1)), I.laid (t' := s.toks) (fun _ _ => PyProof.Rows.sortedAll_old) (Nat.le_succ _) ⟨hlen, _, ep, refs_valsD eo, he'⟩, rfl, hq _ (I.hok.fresh (Nat.le_succ _))⟩
end
/-- f is a def whose key of (a, b, n) is (n, a, b) -/
structure Key3 (K : PySem.W.Frag) (f : Addr) (q x : Str) (sc : Scope) (bd : List Stmt) : Prop where
  ex : ∃ (pa : Arguments) (oc : Value) (od : Option Addr) (dV kV doc pm cdv ct : Value) (an : Option Addr) (osl : Array (Option Value)),
    K.lookup f = some ⟨oc, od, .func (PySem.W.fnOf q q pa bd sc dV kV doc pm an cdv ct), osl⟩ ∧ PySem.W.codeIn K cdv q = true ∧ L2.Binds K (PySem.W.fnOf q q pa bd sc dV kV doc pm an cdv ct) [x] []
  s : FnScope [x] [x] sc
  l : sc.names.lookup x = some .local
  d : (x == ("__debug__" : Str)) = false
  b : ∃ p1 p2 p3 p4 p5 p6 p7 p8 p9 p10 p11 j1 j2 j3 k, bd = [.Return (some (.Tuple [.Subscript (.Name x p1) (.Constant (.int 2) j1 p2) p3, .Subscript (.Name x p4) (.Constant (.int 0) j2 p5) p6, .Subscript (.Name x p9) (.Constant (.int 1) j3 p10) p11] k p7)) p8]
section
variable {P : Program} {w : World} {A : Around} {E : Value → Shared → Prop} {s : Shared}
theorem key_call3 {K : PySem.W.Frag} {f : Addr} {q x : Str} {sc : Scope} {bd : List Stmt} {t : Addr} {items : Array Value} {a b : Str} {n : Int} {ta tb tn : Tok} (G : Key3 K f q x sc bd) (hr : Room 1 A) (hK : K.In s.heap) (lim : s.heap.NoLimit) (ht : IsTup s.heap t items) (h0 : items[0]? = some (.str a ta)) (h1 : items[1]? = some (.str b tb)) (h2 : items[2]? = some (.int n tn)) :
    wpAny (model P w) A (call (.ref f) [.ref t]) (PySem.W.KeyPure (.tuple [.int n, .str a, .str b]) s) E s := by
  obtain ⟨pa, oc, od, dV, kV, doc, pm, cdv, ct, an, osl, lk, hcd, hb⟩ := G.ex
  obtain ⟨p1, p2, p3, p4, p5, p6, p7, p8, p9, p10, p11, j1, j2, j3, k, rfl⟩ := G.b
  have hkind : ∀ y ∈ [x].zip [Value.ref t], sc.names.lookup y.1 = some .local ∨ (sc.names.lookup y.1 = some .cell ∧ ((cellsFrom (s.heap.objs.size + 1) sc.names []).lookup y.1).isSome = true) := fun y hy => by
    rw [List.mem_singleton.mp (show y ∈ [(x, Value.ref t)] from hy)]
    exact .inl G.l
  have rc : codeAny (model P w) A (.call (.ref f) ⟨[.ref t], []⟩) (fun r s' => ∃ v, r = .ok (.ret v) ∧ PySem.W.KeyPure (.tuple [.int n, .str a, .str b]) s v s') s := by
    refine codeAny_call_function hr.depth (hK _ _ lk) rfl G.s.co G.s.gen rfl (PySem.W.codeRec_of hK hcd) (hb s [.ref t] hK rfl _ _ _ _ ?_)
    refine wpAny_newFunctionEnv_cells G.s.kind hkind fun env he s1 z => ?_
    subst he
    refine ⟨lim.keeps z.toInCall.keep, codeAny_func ?_⟩
    obtain ⟨h', tk, rfl, kp⟩ := z.done
    have hn := z.toInCall.ns
    have hmx : bindL (envOfC q sc s.heap.objs.size f cdv).kindOf ([x].zip [Value.ref t]) (fun _ => none) x = some (Value.ref t) := by
      have hk : (envOfC q sc s.heap.objs.size f cdv).kindOf x = some .local := G.l
      show bindL _ [(x, Value.ref t)] _ x = _
      simp [bindL, hk]
    refine wpAny_execs_cons ?_
    refine wpAny_Return_some (wpAny_Tuple_spliced ?_)
    show wpAny _ _ (spliced ((false, eval _ _) :: backTo p7 [(false, eval _ _), (false, eval _ _)])) _ _ _
    refine Calls.spliced_cons (item_exact (i := 2) (m := _) G.s.kind G.l hn hmx (ht.keeps kp) h2 (by decide) G.d ?_)
    refine Calls.spliced_cons (item_exact (i := 0) (m := _) G.s.kind G.l hn hmx (ht.keeps kp) h0 (by decide) G.d ?_)
    refine Calls.spliced_cons (item_exact (i := 1) (m := _) G.s.kind G.l hn hmx (ht.keeps kp) h1 (by decide) G.d ?_)
    refine Calls.spliced_nil ⟨by show 3 ≤ sizeLine; decide, ?_⟩
    refine ⟨_, rfl, _, _, rfl, fun b o e => Heap.get?_push_of_some _ (kp b o e), ?_⟩
    exact .tuple (Heap.get?_push_size _ rfl) rfl rfl (.cons (.int _ _) (.cons (.str _ _) (.cons (.str _ _) .nil)))
  refine wpAny_call (codeAny_mono rc fun r s' hq => ?_)
  obtain ⟨v, rfl, hq⟩ := hq
  exact hq
/-- sorted(xs, key=f[, reverse=b]), xs a list or a tuple -/
theorem sorted_key_dataT {β : Type} {vs : List Value} {bs : List β} {R : Value → β → Prop} {l : Addr} {f : Value} {kw : List (Str × Value)} {b : Bool} {Q : Value → Shared → Prop} (k : β → PyData) (hl : IsSeq s.heap l vs) (e : EachIs R vs bs) (hal : AllAlike (bs.map k)) (hk : Sortable (bs.map k)) (hL : bs.length ≤ sizeLine)
    (hu : ∀ x, x ∈ bs → A.units + 2 + (k x).depth < cLine) (ha1 : argsOk "sorted" ⟨[.ref l], kw⟩) (ha2 : ∀ x, argsOk "list.sort" ⟨[.ref x], kw⟩) (ht : ∀ x, Builtin.«list.sort» ⟨[.ref x], kw⟩ = ksk_tree x f b)
    (turn : ∀ (v : Value) (x : β), R v x → x ∈ bs → ∀ (h : Heap) (tk : Nat), (∀ b o, s.heap.get? b = some o → h.get? b = some o) →
      wpAny (model P w) A.in1.in1 (call f [v]) (KeyPure (k x) { s with heap := h, toks := tk }) (fun _ _ => False) { s with heap := h, toks := tk })
    (h : ∀ out c h' tk, (∀ b o, s.heap.get? b = some o → h'.get? b = some o) → s.heap.get? (s.heap.objs.size + 1) = none → h'.get? (s.heap.objs.size + 1) = some (seqObj "list" (List.toArray out) c) → out.length = bs.length → EachIs R out (bs.mergeSort (dataLe b k)) →
      Q (.ref (s.heap.objs.size + 1)) { s with heap := h', toks := tk }) :
    wpAny (model P w) A (call (.builtin "sorted") [.ref l] kw) Q E s := by
  have fresh : s.heap.get? (s.heap.objs.size + 1) = none := Heap.get?_none_of_le (Nat.le_succ _)
  have up : ∀ {g : Heap}, KeepsBut (s.heap.objs.size + 1) (copyHeap s.heap vs) g → ∀ b o, s.heap.get? b = some o → g.get? b = some o := fun {g} kp b o q =>
    kp b o (Nat.ne_of_lt (Nat.lt_succ_of_lt (Heap.lt_size q))) (copyHeap_old q)
  refine sorted_of_sortT hl (by rw [e.length]; exact hL) ha1 ha2 fun E' => ?_
  rw [ht]
  refine keyH_tree (kz := bs.map k) (s := { s with heap := copyHeap s.heap vs }) (copyHeap_at s.heap vs) (by rw [List.length_map]; exact e.length.symm) (by rw [e.length]; exact hL) hal hk (bound_map (A := A.in1.in1) hu)
    (keyH_turns (s := { s with heap := copyHeap s.heap vs }) e fun v x hR hx h tk kp => turn v x hR hx h tk (up kp)) fun h' tk out c kp hD ko => ⟨rfl, ?_⟩
  exact h out c h' tk (up kp) fresh hD ((ko.length (by rw [List.length_map]; exact e.length.symm)).trans e.length) (keyedOut_each k ko e)
end
abbrev Lk3 := Str × Str × Int
/-- what links are put in order by -/
def lkKey (l : Lk3) : PyData := .tuple [.int l.2.2, .str l.1, .str l.2.1]
def rSort3 (K : PySem.W.Frag) (f : Addr) : List V → List V → Hp → VK → Prop := fun vs zs H Q => ∃ (a : Addr) (xs : List (Addr × Lk3)), vs = [V.ref a] ∧ zs = [.ref f] ∧ (SqL K H a (xs.map fun x => V.ref x.1) ∨ SqT K H a (xs.map fun x => V.ref x.1)) ∧ (∀ x ∈ xs, H x.1 = some (.tup [.str x.2.1, .str x.2.2.1, .int x.2.2.2])) ∧
  ∀ p, H p = none → Q (.ref p) (upd H p (.lst ((xs.mergeSort (dataLe false fun x : Addr × Lk3 => lkKey x.2)).map fun x => V.ref x.1)))
theorem cr_sort3 {X : Cx} {f : Addr} {q x : Str} {sc : Scope} {bd : List Stmt} (G : Key3 X.K f q x sc bd) (hr : Room 3 X.A) : CallRK X (.builtin "sorted") [Str.ofString "key"] (rSort3 X.K f) := by
  intro pins s σ H vs zs us ws Q I r rz h
  obtain ⟨a, xs, rfl, rfl, hs, ht, hq⟩ := h
  obtain rfl := Vals.ref1 r
  obtain rfl := Vals.ref1 rz
  obtain ⟨its, rv, hl, hz⟩ := inv_seq I hs
  rw [List.length_map] at hz
  have hu := hr.units
  have e := vals_refsD rv
  refine sorted_key_dataT (b := false) (fun x : Addr × Lk3 => lkKey x.2) hl e (AllAlike.of fun _ _ => by simp [lkKey, PySem.W.alike, PySem.W.alikeAll]) (Sortable.tuples fun _ => ⟨_, _, rfl⟩) hz (fun x _ => ?_) (PyProof.Rows.ksk_s1 _ _) (fun _ => PyProof.Rows.ksk_l1 _ _) (fun _ => PyProof.Rows.ksk_t1 _ _)
    (fun v x hv hx h tk kp => ?_) fun out c h' tk kp _ hD _ eo => ?_
  · have hd : (lkKey x.2).depth = 1 := by simp [lkKey, PyData.depth, PyData.depthAll]
    rw [hd]
    omega
  · have hv : v = .ref x.1 := hv
    subst hv
    have hx1 := ht x hx
    obtain ⟨_, vs, rvs, it⟩ := I.hok x.1 _ hx1
    cases rvs with
    | cons r1 rvs =>
      cases rvs with
      | cons r2 rvs =>
        cases rvs with
        | cons r3 rvs =>
          obtain ⟨t1, rfl⟩ := r1
          obtain ⟨t2, rfl⟩ := r2
          obtain ⟨t3, rfl⟩ := r3
          exact key_call3 (s := { s with heap := h, toks := tk }) G hr.in1.in1 (I.kIn.keeps kp) (I.nolimit.keeps kp) (it.keeps kp) rfl rfl rfl
  · have hlen : ((xs.mergeSort (dataLe false fun x : Addr × Lk3 => lkKey x.2)).map fun x => V.ref x.1).length ≤ sizeLine := by rw [List.length_map, List.length_mergeSort]; exact hz
    exact ⟨.ref _, upd H (s.heap.objs.size + 1) (.lst ((xs.mergeSort (dataLe false fun x : Addr × Lk3 => lkKey x.2)).map fun x => V.ref x.1)), I.laid (t' := tk) kp (Nat.le_succ _) ⟨hlen, _, c, refs_valsD eo, hD⟩, rfl, hq _ (I.hok.fresh (Nat.le_succ _))⟩
end GX

-- text K2F
set_option maxRecDepth 100000
set_option maxHeartbeats 4000000
namespace K2
open PySem PySem.Spec PyProof.Rows L2 LamX GX
section
variable {P : Program} {w : World} {K : PySem.W.Frag} {mg : Str → Option Value} {base : Heap}
/-! ### Net -/
abbrev TSt := SD (Addr × Tw)
def tV (x : Addr × Tw) : V := .ref x.1
abbrev dT (TS : TSt) : HO := .dK (ents tV TS)
def netF (l d : Addr) : List (Str × V) := [("land", .ref l), ("towers", .ref d)]
def isNet (K : PySem.W.Frag) (H : Hp) (n l d : Addr) (TS : TSt) : Prop := (∃ dx, H n = some (.ins (aNt K) dx (netF l d))) ∧ H d = some (dT TS) ∧ ∀ p ∈ TS, H p.2.1 = some (.tup (tupT p.2.2))
theorem Le.net {T : List (Addr × Str)} {H H' : Hp} {n l d : Addr} {TS : TSt} (x : Le T H H') (h : isNet K H n l d TS) : isNet K H' n l d TS := by
  obtain ⟨⟨dx, h1⟩, h2, h3⟩ := h
  exact ⟨⟨dx, x.at h1⟩, x.at h2, fun p hp => x.at (h3 p hp)⟩
def spNetI (K : PySem.W.Frag) : Sp := fun vs H Q E => ∃ (n l dx : Addr) (H0 : Hp), vs = [.ref n, .ref l] ∧ H n = some (.ins (aNt K) dx []) ∧ H0 n = none ∧ Le (T K) H0 H ∧
  ∀ H' d, Le (T K) H0 H' → H0 d = none → isNet K H' n l d [] → Q .non H'
theorem ok_netI (C : Ctx K mg base) : MakX P w K mg base 1 "Net" (aNt K) ["self", "land"] (spNetI K) := by
  obtain ⟨fd, F⟩ := C.d.d_Net_init
  refine ⟨_, fd, ?_, F.funD.bindsN fun _ _ _ _ _ _ us hl => (match us, hl with | [_, _], _ => rfl), C.t.k_Net, C.t.m_Net⟩
  refine F.ok sc_Net_init (fun vs H Q E h => ?_) (fun A outer s H vs Q E hr h => ?_)
  · obtain ⟨n, l, dx, H0, rfl, _⟩ := h
    rfl
  · obtain ⟨n, l, dx, H0, rfl, hn, hn0, L0, hq⟩ := h
    refine ⟨_, pss_cons (ps_fld (pv 0) (pv 1) rfl) (pss_one (ps_fld (pv 0) pe_dnewK rfl)), ?_⟩
    refine ⟨_, rfl, _, rfl, n, _, dx, _, rfl, hn, C.t.c_Net, C.t.a_Net_land, by show 0 < 1000; decide, ?_⟩
    have L1 : Le (T K) H0 (upd H n (.ins (aNt K) dx (putF "land" (.ref l) []))) := L0.set hn0 hn
    have hn1 : upd H n (.ins (aNt K) dx (putF "land" (.ref l) [])) n = some (.ins (aNt K) dx [("land", .ref l)]) := upd_same
    generalize upd H n (.ins (aNt K) dx (putF "land" (.ref l) [])) = H1 at L1 hn1
    intro d hd
    have L2 := L1.new (o := .dK []) hd
    have hn2 : upd H1 d (.dK []) n = some (.ins (aNt K) dx [("land", .ref l)]) := (upd_ne (ne_of_none hn1 hd)).trans hn1
    refine ⟨_, rfl, n, _, dx, _, rfl, hn2, C.t.c_Net, C.t.a_Net_towers, by show 1 < 1000; decide, ?_⟩
    exact hq _ d (L2.set hn0 hn2) (L1.no d hd) ⟨⟨dx, upd_same⟩, (upd_ne (Ne.symm (ne_of_none hn1 hd))).trans upd_same, fun p hp => by cases hp⟩
def spTower (K : PySem.W.Frag) : Sp := fun vs H Q E => ∃ (n l d : Addr) (TS : TSt) (x : Str), vs = [.ref n, .str x] ∧ isNet K H n l d TS ∧ Tabs (T K) H ∧
  (∀ p, look TS x = some p → Q (.ref p.1) H) ∧ (look TS x = none → ∀ H', Le (T K) H H' → E (.ref (aTE K)) none H')
theorem ok_tower (C : Ctx K mg base) : MetX P w K mg base 1 (aNt K) "tower" ["self", "name"] (spTower K) := by
  obtain ⟨fd, F⟩ := C.d.d_Net_tower
  refine ⟨_, fd, ?_, F.funD.bindsN fun _ _ _ _ _ _ us hl => (match us, hl with | [_, _], _ => rfl), C.t.t_Net_tower, C.t.c_Net⟩
  refine F.ok sc_Net_tower (fun vs H Q E h => ?_) (fun A outer s H vs Q E hr h => ?_)
  · obtain ⟨n, l, d, TS, x, rfl, _⟩ := h
    rfl
  · obtain ⟨n, l, d, TS, x, rfl, ⟨⟨dx, hn⟩, hd, hts⟩, hT, hq, hno⟩ := h
    obtain ⟨e1, e2, e3, e4⟩ := C.t.e_TowerError
    refine ⟨_, pss_cons (ps_if (pt_cmp (pc_dnotin (hu_of hr) (pv 1) (pe_fld (pv 0) rfl))) (pss_one (ps_raise rfl takesA (pmk_own PySem.F.excBase_ValueError e1 C.t.m_TowerError e2 (raises_own e3 e4) (by rfl)))) pss_nil) (pss_one (ps_ret (pe_dget (hu_of hr) (pe_fld (pv 0) rfl) (pv 1) (fun _ _ => rfl)))), ?_⟩
    refine ⟨_, rfl, _, rfl, n, _, dx, _, _, rfl, hn, C.t.c_Net, C.t.a_Net_towers, rfl, d, _, rfl, DGet.k (k := Sum.inr x) hd, _, rfl, ?_⟩
    rw [valV_ents]
    cases hx : look TS x with
    | none =>
      exact iteT (hno hx _ (Le.refl hT))
    | some p =>
      refine iteF ⟨_, rfl, n, _, dx, _, _, rfl, hn, C.t.c_Net, C.t.a_Net_towers, rfl, _, rfl, d, _, rfl, dget_of hd hx, hq p hx⟩
/-- what cannot be built -/
def noBuild (rs : List (List Int)) (TS : TSt) (name : Str) (x y h : Int) : Prop := ¬ inL rs x y ∨ name ∈ TS.map (·.1) ∨ name = "" ∨ ¬ (0 ≤ h ∧ h ≤ 200) ∨ 30 ≤ TS.length ∨ ∃ p ∈ TS, p.2.2.1 = x ∧ p.2.2.2.1 = y
def spBuild (K : PySem.W.Frag) : Sp := fun vs H Q E => ∃ (n l d : Addr) (rs : List (List Int)) (TS : TSt) (name : Str) (x y h : Int) (H0 : Hp), vs = [.ref n, .str name, .int x, .int y, .int h] ∧ isNet K H n l d TS ∧ isLand K H l rs ∧ GoodL rs ∧ (TS.map (·.1)).Nodup ∧ Tabs (T K) H ∧ TS.length < 64 ∧
  H0 d = none ∧ Le (T K) H0 H ∧ (noBuild rs TS name x y h → ∀ H', Le (T K) H H' → E (.ref (aTE K)) none H') ∧
  (¬ noBuild rs TS name x y h → ∀ H' u, Le (T K) H0 H' → H u = none → isNet K H' n l d (TS ++ [(name, u, (x, y, h))]) → Q .non H')
theorem eqv_pt (x y a b : Int) : PyData.eqv (.tuple [.int x, .int y]) (.tuple [.int a, .int b]) = decide (x = a ∧ y = b) := by
  have := eqv_ints [x, y] [a, b]
  have e : PyData.eqv (.tuple [.int x, .int y]) (.tuple [.int a, .int b]) = PyData.eqvAll ([x, y].map PyData.int) ([a, b].map PyData.int) := rfl
  rw [e, this]
  exact decide_eq_decide.mpr ⟨fun z => by simpa using z, fun z => by rw [z.1, z.2]⟩
theorem ok_build (C : Ctx K mg base) : MetX P w K mg base 3 (aNt K) "build" ["self", "name", "x", "y", "height"] (spBuild K) := by
  obtain ⟨fd, F⟩ := C.d.d_Net_build
  refine ⟨_, fd, ?_, F.funD.bindsN fun _ _ _ _ _ _ us hl => (match us, hl with | [_, _, _, _, _], _ => rfl), C.t.t_Net_build, C.t.c_Net⟩
  refine F.ok sc_Net_build (fun vs H Q E h => ?_) (fun A outer s H vs Q E hr h => ?_)
  · obtain ⟨n, l, d, rs, TS, name, x, y, h, H0, rfl, _⟩ := h
    rfl
  · obtain ⟨n, l, d, rs, TS, name, x, y, h, H0, rfl, hnet, hl, g, nd, hT, l64, hd0, L0, hno, hq⟩ := h
    obtain ⟨⟨dx, hn⟩, hd, hts⟩ := id hnet
    obtain ⟨e1, e2, e3, e4⟩ := C.t.e_TowerError
    obtain ⟨t30, i30⟩ := C.t.i_MOST_TOWERS
    obtain ⟨fH, fdH, FH, bH, mH, cH⟩ := ok_height (P := P) (w := w) C
    have nn := sc_Net_build.nd
    refine ⟨_, pss_cons (ps_expr (pe_meth (pe_fld (pv 0) rfl) cH mH FH (hr.mono (by decide)) bH .nil passA (pa_cons (pv 2) (pa_cons (pv 3) pa_nil))))
      (pss_cons (ps_if (PW.pt (pw_or (pt_cmp (pc_din (hu_of hr) (pv 1) (pe_fld (pv 0) rfl))) (pw_or (pt_cmpR op_eq (pv 1) pe_str (nomark _)) (pw_or (pt_not (pt_chain op_le op_le pe_int (pv 4) pe_int))
          (pw_or1 (pt_cmpR op_ge (pe_callB call_lenD (by rfl) C.t.b_len PySem.boot_len (pa_cons (pe_fld (pv 0) rfl) pa_nil)) (pe_glob (by rfl) i30 (v := .int 30) ⟨_, rfl⟩) (nomark _))))))) (pss_one (ps_raise rfl takesA (pmk_own PySem.F.excBase_ValueError e1 C.t.m_TowerError e2 (raises_own e3 e4) (by rfl)))) pss_nil)
      (pss_cons (ps_if (pt_val (pe_lock (pe_genAny (T := T K) (own := [("one", 5)]) (g := gName 5) hr rfl C.t.b_any nn (C.b _ (tf_mem 2)) rfl (T_mem 2) (T_uniq C.u 2) (pi_keys (pe_fld (pv 0) rfl)) (gsc_by (blkOk_by (N := n_Net_build) (sc := defScope s_Net_build) (by decide +kernel)) (by decide +kernel))
          (fun _ _ _ _ _ => (pg_name (i := 5) nn rfl (by first | exact Or.inl rfl | exact Or.inr rfl))) (fun _ _ _ _ _ hrk => pe_cmpR (r := rEqD K) (op_eqD hrk.units) (pe_slice (r := rSlT K) sl_tup (pe_dget (hu_of hrk) (pe_fldK (K := K) rfl (pv 0) rfl) (pv 5) (fun _ _ => rfl)) po_none (po_some pe_int)) (pe_tup (pa_cons (pv 2) (pa_cons (pv 3) pa_nil))) (nomark _))))) (pss_one (ps_raise rfl takesA (pmk_own PySem.F.excBase_ValueError e1 C.t.m_TowerError e2 (raises_own e3 e4) (by rfl)))) pss_nil)
      (pss_one (ps_dput (hu_of hr) (pe_fld (pv 0) rfl) (pv 1) (pe_tup (pa_cons (pv 2) (pa_cons (pv 3) (pa_cons (pv 4) pa_nil)))) rfl)))), ?_⟩
    obtain ⟨dxl, tl, hl1, hl2⟩ := id hl
    refine ⟨_, rfl, n, _, dx, _, _, rfl, hn, C.t.c_Net, C.t.a_Net_land, rfl, l, dxl, _, rfl, hl1, rfl, _, rfl, _, rfl, l, x, y, rs, rfl, hl, g, hT, fun hi => ?_, fun z H' L' => hno (.inl z) H' L'⟩
    refine ⟨_, rfl, _, rfl, n, _, dx, _, _, rfl, hn, C.t.c_Net, C.t.a_Net_towers, rfl, d, _, rfl, DGet.k (k := Sum.inr name) hd, _, rfl, ?_⟩
    rw [valV_ents]
    cases hx : look TS name with
    | some p =>
      refine iteT (iteT (hno (.inr (.inl ?_)) _ (Le.refl hT)))
      by_cases hm : name ∈ TS.map (·.1)
      · exact hm
      · rw [look_none hm] at hx; cases hx
    | none =>
    refine iteF ?_
    have hnm : name ∉ TS.map (·.1) := fun hm => by
      obtain ⟨v, hv, _⟩ := look_mem hm
      rw [hv] at hx; cases hx
    refine ⟨_, rfl, rfl, _, rfl, ?_⟩
    by_cases he : name = ""
    · exact iteDT (show V.str name = V.str "" by rw [he]) (iteT (hno (.inr (.inr (.inl he))) _ (Le.refl hT)))
    refine iteDF (show ¬ V.str name = V.str "" from fun z => he (V.str.inj z)) ?_
    refine ⟨_, rfl, _, _, rfl, rfl, _, rfl, ?_⟩
    by_cases h0 : 0 ≤ h
    case neg =>
      rw [decide_eq_false h0]
      exact iteF ⟨_, rfl, iteT (iteT (hno (.inr (.inr (.inr (.inl fun z => h0 z.1)))) _ (Le.refl hT)))⟩
    rw [decide_eq_true h0]
    refine iteT ⟨_, _, rfl, rfl, _, rfl, ?_⟩
    by_cases h200 : h ≤ 200
    case neg =>
      rw [decide_eq_false h200]
      exact iteT (iteT (hno (.inr (.inr (.inr (.inl fun z => h200 z.2)))) _ (Le.refl hT)))
    rw [decide_eq_true h200]
    refine iteF ⟨_, rfl, n, _, dx, _, _, rfl, hn, C.t.c_Net, C.t.a_Net_towers, rfl, d, _, rfl, hd, _, _, rfl, rfl, _, rfl, ?_⟩
    rw [ents_len]
    by_cases h30 : 30 ≤ TS.length
    · rw [decide_eq_true (show (30 : Int) ≤ ((TS.length : Nat) : Int) by omega)]
      exact iteT (hno (.inr (.inr (.inr (.inr (.inl h30))))) _ (Le.refl hT))
    rw [decide_eq_false (show ¬ (30 : Int) ≤ ((TS.length : Nat) : Int) by omega)]
    refine iteF ⟨d, _, hd, trivial, fun od => ?_⟩
    have hnd : n ≠ d := fun z => by rw [z, hd] at hn; cases hn
    have TL := tabs_lock (o := od) hT hd trivial
    have hn1 := at_lock (o := od) (u := dT TS) hn hnd
    refine ⟨_, rfl, n, _, dx, _, _, rfl, hn1, C.t.c_Net, C.t.a_Net_towers, rfl, d, od, rfl, .inl ⟨_, upd_same, ?_⟩⟩
    refine ⟨TL, fun H2 hE hT2 hno2 => ?_⟩
    have un : ∀ {H3 : Hp}, Le (T K) (upd H d (.frz od (dT TS))) H3 → Le (T K) H (upd H3 d (dT TS)) := fun L3 => Le.unlock hd trivial L3
    refine ⟨TS.length, fun i H' => Le (T K) (upd H d (.frz od (dT TS))) H' ∧ ∀ p ∈ TS.take i, ¬ (p.2.2.1 = x ∧ p.2.2.2.1 = y), ⟨⟨hE, hT2, hno2⟩, fun p hp => by cases hp⟩, fun i H3 hi ⟨L3, h3⟩ => ⟨⟨L3.at upd_same, by rw [ents_len]; exact hi⟩, ?_⟩, fun H3 ⟨L3, h3⟩ => ⟨⟨L3.at upd_same, by rw [ents_len]; exact Nat.le_refl _⟩, L3.at upd_same, ?_⟩⟩
    · rintro v H4 ⟨rfl, k, v2, hk, rfl⟩
      unfold ents at hk
      rw [List.getElem?_map] at hk
      obtain ⟨p1, hp1, e⟩ := Option.map_eq_some_iff.mp hk
      cases e
      have hm := List.mem_of_getElem? hp1
      have htu : H4 p1.2.1 = some (.tup (tupT p1.2.2)) := L3.at (at_lock (hts p1 hm) fun z => by
        have := hts p1 hm
        rw [z, hd] at this
        cases this)
      refine ⟨rfl, ?_⟩
      refine ⟨_, rfl, n, _, dx, _, _, rfl, L3.at hn1, C.t.c_Net, C.t.a_Net_towers, rfl, _, rfl, d, _, rfl, dget_rd (.inr ⟨od, L3.at upd_same⟩) (look_of nd hm), _, rfl, p1.2.1, _, rfl, SqT.of htu, (fun z => absurd z.2 (by show ¬ (2 : Nat) = 3; decide)), fun q hqn => ?_⟩
      have L4 := L3.new (o := .tup (cutV (tupT p1.2.2) none (some 2))) hqn
      have ecut : cutV (tupT p1.2.2) none (some 2) = [V.int p1.2.2.1, V.int p1.2.2.2.1] := rfl
      refine ⟨_, rfl, _, rfl, by show 2 ≤ sizeLine; decide, fun r hrn => ?_⟩
      have L5 := L4.new (o := .tup [.int x, .int y]) hrn
      have hqr : q ≠ r := ne_of_none upd_same hrn
      refine ⟨.tuple [.int p1.2.2.1, .int p1.2.2.2.1], .tuple [.int x, .int y], .tup (SqT.of ((upd_ne hqr).trans (upd_same.trans (by rw [ecut])))) (.cons (.int _) (.cons (.int _) .nil)), .tup (SqT.of upd_same) (.cons (.int _) (.cons (.int _) .nil)), shaped_tuple (ds := [.int p1.2.2.1, .int p1.2.2.2.1]) (fun z hz => by
        simp only [List.mem_cons, List.not_mem_nil, or_false] at hz
        rcases hz with rfl | rfl <;> rfl), shaped_tuple (ds := [.int x, .int y]) (fun z hz => by
        simp only [List.mem_cons, List.not_mem_nil, or_false] at hz
        rcases hz with rfl | rfl <;> rfl), ?_⟩
      rw [eqv_pt]
      by_cases hxy : p1.2.2.1 = x ∧ p1.2.2.2.1 = y
      · rw [decide_eq_true hxy]
        refine ⟨_, rfl, iteT ⟨L5.at upd_same, _, rfl, iteT (hno (.inr (.inr (.inr (.inr (.inr ⟨p1, hm, hxy⟩))))) _ (un L5))⟩⟩
      · rw [decide_eq_false hxy]
        refine ⟨_, rfl, iteF ⟨L5, fun p hp => ?_⟩⟩
        rw [GX.take_snoc hp1] at hp
        rcases List.mem_append.mp hp with hp | hp
        · exact h3 p hp
        · rw [List.mem_singleton.mp hp]; exact hxy
    · rw [List.take_of_length_le (Nat.le_refl _)] at h3
      refine ⟨_, rfl, iteF ?_⟩
      have good : ¬ noBuild rs TS name x y h := by
        rintro (z | z | z | z | z | ⟨p, hp, z⟩)
        · exact z hi
        · exact hnm z
        · exact he z
        · exact z ⟨h0, h200⟩
        · exact h30 z
        · exact h3 p hp z
      have L4 := un L3
      have hd4 : upd H3 d (dT TS) d = some (dT TS) := upd_same
      generalize upd H3 d (dT TS) = H4 at L4 hd4
      have hn4 := L4.at hn
      refine ⟨_, rfl, _, rfl, _, rfl, by show 3 ≤ sizeLine; decide, fun u hu => ?_⟩
      have L5 := L4.new (o := .tup (tupT (x, y, h))) hu
      have hn5 := L5.at hn
      have hd5 : upd H4 u (.tup (tupT (x, y, h))) d = some (dT TS) := (upd_ne (ne_of_none hd4 hu)).trans hd4
      refine ⟨_, rfl, n, _, dx, _, _, rfl, hn5, C.t.c_Net, C.t.a_Net_towers, rfl, _, rfl, d, _, rfl, DPut.k (k := Sum.inr name) hd5 (by rw [ents_len]; exact Nat.lt_of_lt_of_le (show TS.length < 64 by omega) (by decide)), ?_⟩
      have ep : putK (ents tV TS) (Sum.inr name) (V.ref u) = ents tV (TS ++ [(name, u, (x, y, h))]) := by
        rw [putK_new _ (by rw [valV_ents, hx]; rfl)]
        unfold ents
        rw [List.map_append]
        rfl
      rw [ep]
      refine hq good _ u ((L0.trans L5).set hd0 hd5) (L4.no u hu) ⟨⟨dx, (upd_ne hnd).trans hn5⟩, upd_same, fun p hp => ?_⟩
      rcases List.mem_append.mp hp with hp | hp
      · have := L5.at (hts p hp)
        exact (upd_ne (fun z => by rw [z, hd5] at this; cases this)).trans this
      · rw [List.mem_singleton.mp hp]
        exact (upd_ne (Ne.symm (ne_of_none hd4 hu))).trans upd_same
end
end K2

-- text K2G
set_option maxRecDepth 100000
set_option maxHeartbeats 4000000
namespace K2
open PySem PySem.Spec PyProof.Rows L2 LamX GX
section
variable {P : Program} {w : World} {K : PySem.W.Frag} {mg : Str → Option Value} {base : Heap}
/-! ### joined_rows -/
def okT (x : Str) : Prop := (PyData.str x).canLay0 = true
theorem shaped_names {xs : List Str} (h : ∀ x ∈ xs, okT x) : SeqAt.shaped (.list (xs.map PyData.str)) = true := shaped_list fun d hd => by
  obtain ⟨x, hx, rfl⟩ := List.mem_map.mp hd
  exact h x hx
/-- who is linked with h, by the links that name it first, then second -/
def nb1 (ls : List Lk3) (h : Str) : List Str := (ls.filter fun l => decide (l.1 = h)).map fun l => l.2.1
def nb2 (ls : List Lk3) (h : Str) : List Str := (ls.filter fun l => decide (l.2.1 = h)).map fun l => l.1
theorem nb1_len (ls : List Lk3) (h : Str) : (nb1 ls h).length ≤ ls.length := by
  unfold nb1; rw [List.length_map]; exact List.length_filter_le _ _
theorem nb2_len (ls : List Lk3) (h : Str) : (nb2 ls h).length ≤ ls.length := by
  unfold nb2; rw [List.length_map]; exact List.length_filter_le _ _
/-- what is left, and the row, behind all that is on the edge -/
def dfs (ls : List Lk3) (left row edge : List Str) : List Str × List Str :=
  match h : edge.getLast? with
  | none => (left, row)
  | some x => if x ∈ left then dfs ls (left.erase x) (row ++ [x]) (edge.dropLast ++ nb1 ls x ++ nb2 ls x) else dfs ls left row edge.dropLast
termination_by left.length * (2 * ls.length + 1) + edge.length
decreasing_by
  · rename_i hx
    have h1 := nb1_len ls x
    have h2 := nb2_len ls x
    have h3 : (left.erase x).length = left.length - 1 := List.length_erase_of_mem hx
    have h4 : 0 < left.length := List.length_pos_of_mem hx
    have h5 : edge ≠ [] := fun z => by rw [z] at h; cases h
    have h6 : 0 < edge.length := List.length_pos_iff.mpr h5
    simp only [List.length_append, List.length_dropLast, h3]
    have h7 : left.length * (2 * ls.length + 1) = (left.length - 1) * (2 * ls.length + 1) + (2 * ls.length + 1) := by
      rw [← Nat.succ_mul]
      congr 1
      omega
    omega
  · have h5 : edge ≠ [] := fun z => by rw [z] at h; cases h
    have h6 : 0 < edge.length := List.length_pos_iff.mpr h5
    simp only [List.length_dropLast]
    omega
theorem dfs_nil (ls : List Lk3) (left row : List Str) : dfs ls left row [] = (left, row) := by
  rw [dfs]
  rfl
theorem dfs_snoc (ls : List Lk3) (left row edge : List Str) (x : Str) : dfs ls left row (edge ++ [x]) = if x ∈ left then dfs ls (left.erase x) (row ++ [x]) (edge ++ nb1 ls x ++ nb2 ls x) else dfs ls left row edge := by
  rw [dfs]
  have e1 : (edge ++ [x]).getLast? = some x := by simp
  have e2 : (edge ++ [x]).dropLast = edge := by simp
  split
  · rename_i h
    rw [e1] at h; cases h
  · rename_i y h
    rw [e1] at h
    cases h
    rw [e2]
def leS (a b : Str) : Bool := !decide (b.cps.toList < a.cps.toList)
def sortS (l : List Str) : List Str := l.mergeSort leS
theorem sortS_perm (l : List Str) : (sortS l).Perm l := List.mergeSort_perm _ _
theorem pair_rising : ∀ {l : List Str} {p : Str}, (p :: l).Pairwise (fun a b => ¬ b.cps.toList < a.cps.toList) → risingS p l = true
  | [], _, _ => rfl
  | x :: r, p, h => by
    have h1 := List.pairwise_cons.mp h
    show (!ltCps x.cps.toList p.cps.toList && risingS x r) = true
    rw [pair_rising h1.2, Bool.and_true, ltCps_eq]
    have := h1.1 x List.mem_cons_self
    simpa using this
theorem pair_sorted {l : List Str} (h : l.Pairwise (fun a b => ¬ b.cps.toList < a.cps.toList)) : sortedS l = true := by
  cases l with
  | nil => rfl
  | cons x r => exact pair_rising h
theorem sortS_sorted (l : List Str) : sortedS (sortS l) = true := by
  refine pair_sorted ?_
  have := List.pairwise_mergeSort (le := leS) (fun a b c h1 h2 => by
    simp only [leS, Bool.not_eq_true', decide_eq_false_iff_not] at h1 h2 ⊢
    exact fun z => h1 (List.lt_of_le_of_lt (List.not_lt.mp h2) z)) (fun a b => by
    simp only [leS, Bool.or_eq_true, Bool.not_eq_true', decide_eq_false_iff_not]
    rcases List.le_total a.cps.toList b.cps.toList with z | z
    · exact .inl (List.not_lt.mpr z)
    · exact .inr (List.not_lt.mpr z)) l
  exact this.imp fun h => by simpa [leS] using h
theorem sortS_is {l m : List Str} (p : m.Perm l) (h : sortedS m = true) : m = sortS l := sorted_uniq h (sortS_sorted l) (p.trans (sortS_perm l).symm)
/-- rows, one after another -/
def rowsOf (ls : List Lk3) : Nat → List Str → List (List Str)
  | 0, _ => []
  | _ + 1, [] => []
  | n + 1, x :: r => sortS (dfs ls (x :: r) [] [x]).2 :: rowsOf ls n (dfs ls (x :: r) [] [x]).1
def joinedL (ns : List Str) (ls : List Lk3) : List (List Str) := rowsOf ls ns.length (sortS ns)
/-! what stands in the store -/
def isLinks (H : Hp) (L : List (Addr × Lk3)) : Prop := ∀ x ∈ L, H x.1 = some (.tup [.str x.2.1, .str x.2.2.1, .int x.2.2.2])
def isRowsS (H : Hp) (R : List (Addr × List Str)) : Prop := ∀ x ∈ R, H x.1 = some (.tup (x.2.map V.str))
def okL (ls : List Lk3) : Prop := ∀ l ∈ ls, okT l.1 ∧ okT l.2.1
/-- a walk over links that stand -/
structure Walks (K : PySem.W.Frag) (H1 : Hp) (L : List (Addr × Lk3)) (J : It) : Prop where
  go : ∀ i H', Le (T K) H1 H' → i < L.length → J.go i H'
  stop : ∀ H', Le (T K) H1 H' → J.stop L.length H'
  yld : ∀ i H' x H'', Le (T K) H1 H' → J.yld i H' x H'' → H'' = H' ∧ ∃ y, L[i]? = some y ∧ x = .ref y.1
theorem walksL {H1 : Hp} {L : List (Addr × Lk3)} {k : Addr} (h : SqL K H1 k (L.map fun x => V.ref x.1)) : Walks K H1 L (Itl K k) where
  go i H' l hi := Itl_go (l.seqL h) (by rw [List.length_map]; exact hi)
  stop H' l := Itl_stop (l.seqL h) (by rw [List.length_map]; exact Nat.le_refl _)
  yld i H' x H'' l y := by
    obtain ⟨e, hx⟩ := Itl_yld (l.seqL h) y
    obtain ⟨z, hz, e2⟩ := gmap hx
    exact ⟨e, z, hz, e2⟩
theorem walksT {H1 : Hp} {L : List (Addr × Lk3)} {k : Addr} (h : SqT K H1 k (L.map fun x => V.ref x.1)) : Walks K H1 L (Itt K k) where
  go i H' l hi := Itt_go (l.seqT h) (by rw [List.length_map]; exact hi)
  stop H' l := Itt_stop (l.seqT h) (by rw [List.length_map]; exact Nat.le_refl _)
  yld i H' x H'' l y := by
    obtain ⟨e, hx⟩ := Itt_yld (l.seqT h) y
    obtain ⟨z, hz, e2⟩ := gmap hx
    exact ⟨e, z, hz, e2⟩
/-- [b for a, b, n in links if a == h], or the other way round: slots i (tested) and j (kept) -/
theorem lc_nb {J : It} {H1 : Hp} {L : List (Addr × Lk3)} {D1 : Addr} {h : Str} {Qd : Hp → Prop} {s0 s1 s2 s3 s4 s5 s7 s8 s9 : Option V} {i j : Nat} (f1 f2 : Lk3 → Str) (hw : Walks K H1 L J) (hL : isLinks H1 L) (hT : Tabs (T K) H1) (hD : H1 D1 = none) (h500 : L.length ≤ 1000)
    (hi : ∀ l : Lk3, [s0, s1, s2, s3, s4, s5, some (.str h), some (.str l.1), some (.str l.2.1), some (.int l.2.2)][i]? = some (some (.str (f1 l)))) (hj : ∀ l : Lk3, [s0, s1, s2, s3, s4, s5, some (.str h), some (.str l.1), some (.str l.2.1), some (.int l.2.2)][j]? = some (some (.str (f2 l))))
    (hq : ∀ H', Le (T K) H1 H' → H' D1 = some (.lst ((((L.map (·.2)).filter fun l => decide (f1 l = h)).map f2).map V.str)) → Qd H') :
    ∃ W : Nat → Nat → Hp → Prop, (∃ m, W 0 m (upd H1 D1 (.lst []))) ∧ ∀ i' m H, W i' m H →
      (J.stop i' H ∧ Qd H) ∨ (J.go i' H ∧ ∃ Nx : Hp → Prop, (∀ H', Nx H' → ∃ m', m' < m ∧ W (i' + 1) m' H') ∧ ∀ x H', J.yld i' H x H' → gTup K 3 (gCons (gName 7) (gCons (gName 8) (gCons (gName 9) gNil))) x (wipe [s0, s1, s2, s3, s4, s5, some (.str h), s7, s8, s9] [7, 8, 9]) H' fun σ2 H2 => wipe σ2 [7, 8, 9] = wipe [s0, s1, s2, s3, s4, s5, some (.str h), s7, s8, s9] [7, 8, 9] ∧ tTest (tOp rEq (tVar i) (tVar 6)) σ2 H2 fun b H3 =>
        if b = true then tVar j σ2 H3 fun y H4 => ∃ acc, H4 D1 = some (.lst acc) ∧ acc.length < sizeLine ∧ Nx (upd H4 D1 (.lst (acc ++ [y]))) else Nx H3) := by
  refine lc_n L.length (fun m H' => Le (T K) H1 H' ∧ H' D1 = some (.lst (((((L.map (·.2)).take m).filter fun l => decide (f1 l = h)).map f2).map V.str))) ⟨(Le.refl hT).new hD, upd_same⟩ (fun m H' hm ⟨L1, h1⟩ => ⟨hw.go m H' L1 hm, ?_⟩) (fun H' ⟨L1, h1⟩ => ⟨hw.stop H' L1, ?_⟩)
  · intro x H2 hy
    obtain ⟨rfl, y, hym, rfl⟩ := hw.yld m H' x H2 L1 hy
    have hyy := List.mem_of_getElem? hym
    have htk : (L.map (·.2)).take (m + 1) = (L.map (·.2)).take m ++ [y.2] := GX.take_snoc (by rw [List.getElem?_map, hym]; rfl)
    refine ⟨y.1, _, rfl, SqT.of (L1.at (hL y hyy)), rfl, _, _, rfl, _, _, rfl, _, _, rfl, rfl, rfl, ?_⟩
    refine ⟨_, hi y.2, _, rfl, rfl, _, rfl, ?_⟩
    rw [htk, List.filter_append]
    by_cases e : f1 y.2 = h
    · rw [decide_eq_true (show V.str (f1 y.2) = V.str h by rw [e])]
      refine iteT ⟨_, hj y.2, _, h1, ?_, L1.set hD h1, ?_⟩
      · rw [List.length_map, List.length_map]
        exact Nat.lt_of_le_of_lt (Nat.le_trans (List.length_filter_le _ _) (by rw [List.length_take]; exact Nat.le_trans (Nat.min_le_left _ _) (show m ≤ 1000 by omega))) (by decide)
      · rw [upd_same, List.filter_cons_of_pos (by simpa using e), List.map_append, List.map_append]
        rfl
    · rw [decide_eq_false (show ¬ V.str (f1 y.2) = V.str h from fun z => e (V.str.inj z))]
      refine iteF ⟨L1, ?_⟩
      rw [List.filter_cons_of_neg (by simpa using e), h1]
      simp
  · rw [List.take_of_length_le (by rw [List.length_map]; exact Nat.le_refl _)] at h1
    exact hq H' L1 h1
end
end K2

-- text Hid
set_option maxRecDepth 100000
set_option maxHeartbeats 4000000
/-! Hid: the store without some addresses. -/
namespace GX
open PySem PySem.Spec PyProof.Rows L2 LamX
section
variable {H H1 : Hp} {T : List (Addr × Str)}
/-- the store without the addresses ds -/
def hid (H : Hp) (ds : List Addr) : Hp := fun b => if b ∈ ds then none else H b
theorem hid_at {ds : List Addr} {a : Addr} {v : HO} (h : H a = some v) (n : a ∉ ds) : hid H ds a = some v := by unfold hid; rw [if_neg n]; exact h
theorem hid_no {ds : List Addr} {a : Addr} (n : a ∈ ds) : hid H ds a = none := by unfold hid; rw [if_pos n]
theorem hid_sub {ds : List Addr} {b : Addr} {v : HO} (h : hid H ds b = some v) : H b = some v ∧ b ∉ ds := by
  unfold hid at h
  by_cases hb : b ∈ ds
  · rw [if_pos hb] at h; cases h
  · rw [if_neg hb] at h; exact ⟨h, hb⟩
theorem hid_le {ds : List Addr} (t : Tabs T H) : Le T (hid H ds) H := ⟨fun q u e _ => (hid_sub e).1, t, fun q e => by
  unfold hid
  by_cases hq : q ∈ ds
  · rw [if_pos hq]
  · rw [if_neg hq]; exact e⟩
/-- tables do not lie at a list, a dict, an instance .. -/
theorem tabs_hid {ds : List Addr} (t : Tabs T H) (hm : ∀ d ∈ ds, ∀ u, H d = some u → PlainO u) : Tabs T (hid H ds) := fun q hq => by
  obtain ⟨ps, h1, h2, h3⟩ := t q hq
  have n1 : q.1 ∉ ds := fun z => by
    have := hm _ z _ h1
    exact this
  refine ⟨ps, hid_at h1 n1, h2, fun pos cv hc => ?_⟩
  obtain ⟨c, e1, e2⟩ := h3 pos cv hc
  have n2 : c ∉ ds := fun z => by
    have := hm _ z _ e2
    exact this
  exact ⟨c, e1, hid_at e2 n2⟩
/-- what B held, H without ds holds, if B held none of ds -/
theorem Le.hid {B : Hp} {ds : List Addr} (x : Le T B H) (hB : ∀ d ∈ ds, B d = none) (hm : ∀ d ∈ ds, ∀ u, H d = some u → PlainO u) : Le T B (hid H ds) :=
  ⟨fun q u e n => hid_at (x.ext q u e n) fun z => (by rw [hB q z] at e; cases e), tabs_hid x.tab hm, fun q e => by
    by_cases hq : q ∈ ds
    · exact hB q hq
    · unfold GX.hid at e
      rw [if_neg hq] at e
      exact x.no q e⟩
end
end GX

-- text K2H
set_option maxRecDepth 100000
set_option maxHeartbeats 4000000
namespace K2
open PySem PySem.Spec PyProof.Rows L2 LamX GX
section
variable {P : Program} {w : World} {K : PySem.W.Frag} {mg : Str → Option Value} {base : Heap}
def lenH (H : Hp) (σ : L2.St) (i : Nat) : Nat := match σ[i]? with
  | some (some (V.ref a)) => (match H a with
    | some (.lst xs) => xs.length
    | _ => 0)
  | _ => 0
theorem lenH_at {H : Hp} {σ : L2.St} {i : Nat} {a : Addr} {xs : List V} (h : σ[i]? = some (some (.ref a))) (ha : H a = some (.lst xs)) : lenH H σ i = xs.length := by
  unfold lenH
  rw [h]
  show (match H a with
    | some (.lst xs) => xs.length
    | _ => 0) = _
  rw [ha]
def spJoin (K : PySem.W.Frag) : Sp := fun vs H Q E => ∃ (a k : Addr) (ns : List Str) (L : List (Addr × Lk3)), vs = [.ref a, .ref k] ∧ SqL K H a (ns.map V.str) ∧ (SqL K H k (L.map fun x => V.ref x.1) ∨ SqT K H k (L.map fun x => V.ref x.1)) ∧ isLinks H L ∧ Tabs (T K) H ∧ ns.length < 64 ∧ L.length ≤ 1000 ∧ (∀ n ∈ ns, okT n) ∧ okL (L.map (·.2)) ∧
  ∀ H' t R, Le (T K) H H' → H t = none → H' t = some (.tup (R.map fun x : Addr × List Str => V.ref x.1)) → isRowsS H' R → R.map (·.2) = joinedL ns (L.map (·.2)) → Q (.ref t) H'
theorem idx_of {ns : List Str} {x : Str} (h : x ∈ ns) : ns[ns.idxOf x]? = some x ∧ (∀ m : Nat, m < ns.idxOf x → ns[m]? ≠ some x) ∧ ns.eraseIdx (ns.idxOf x) = ns.erase x := by
  have hl := List.idxOf_lt_length_of_mem h
  refine ⟨by rw [List.getElem?_eq_getElem hl, List.getElem_idxOf hl], fun m hm z => ?_, by rw [List.erase_eq_eraseIdx_of_idxOf rfl]⟩
  have := List.not_of_lt_findIdx (p := fun y => y == x) (xs := ns) (i := m) hm
  obtain ⟨h1, h2⟩ := List.getElem?_eq_some_iff.mp z
  simp [h2] at this
theorem iteDN {c A B : Prop} [Decidable c] (hc : ¬ c) (h : A) : if (!decide c) = true then A else B := iteNT hc h
theorem inV_strs (x : Str) : ∀ ws : List Str, inV (.str x) (ws.map V.str) = decide (x ∈ ws)
  | [] => by simp [inV]
  | y :: r => by
    have ih := inV_strs x r
    unfold inV at ih ⊢
    rw [List.map_cons, List.any_cons, ih]
    have e : eqV (.str y) (.str x) = decide (x = y) := by
      show ((y : Str) == x) = _
      by_cases h : x = y
      · rw [h, decide_eq_true rfl]; exact beq_self_eq_true _
      · rw [decide_eq_false h]
        exact beq_false_of_ne fun z => h z.symm
    rw [e]
    by_cases h : x = y <;> simp [h]
theorem flat_strs (ws : List Str) : (ws.map V.str).all flatV = true := by
  rw [List.all_map]
  exact List.all_eq_true.mpr fun _ _ => rfl
theorem ok_joined (C : Ctx K mg base) : CalX P w K mg base 1 "joined_rows" ["names", "links"] (spJoin K) := by
  obtain ⟨fd, F⟩ := C.d.d_joined_rows
  refine ⟨_, fd, ?_, F.funD.bindsN fun _ _ _ _ _ _ us hl => (match us, hl with | [_, _], _ => rfl), F.kp, C.t.m_joined_rows⟩
  refine F.ok sc_joined_rows (fun vs H Q E h => ?_) (fun A outer s H vs Q E hr h => ?_)
  · obtain ⟨a, k, ns, L, rfl, _⟩ := h
    rfl
  · obtain ⟨a, k, ns, L, rfl, ha, hk, hL, hT, l64, l1000, okn, okl, hq⟩ := h
    have nn := sc_joined_rows.nd
    refine ⟨_, pss_cons (ps_par (i := 2) (j := 3) (by rfl) nn rfl rfl (by decide) rfl rfl (pa_cons (pe_callB cr_sortedS (by rfl) C.t.b_sorted (by decide +kernel) (pa_cons (pv 0) pa_nil)) (pa_cons (pe_lst pa_nil) pa_nil)) (by rfl))
      (pss_cons (ps_while ownsA (pt_cmpR (op_neD hr.units) (pv 2) (pe_lst pa_nil) (nomark _))
        (pss_cons (ps_par (i := 4) (j := 5) (by rfl) nn rfl rfl (by decide) rfl rfl (pa_cons (pe_lst pa_nil) (pa_cons (pe_lst (pa_cons (pe_ix ix_list (pv 2) pe_int (fun _ _ => rfl)) pa_nil)) pa_nil)) (by rfl))
        (pss_cons (ps_while ownsA (pt_cmpR (op_neD hr.units) (pv 5) (pe_lst pa_nil) (nomark _))
          (pss_cons (ps_set (i := 6) nn rfl (by first | exact Or.inl rfl | exact Or.inr rfl) (pe_bm0 PySem.F.plainAttrs_list PySem.F.slot_list_pop PySem.F.type_list_pop mt_pop (pv 5)))
          (pss_one (ps_if (pt_cmpR op_in_seq (pv 6) (pv 2) rfl)
            (pss_cons (ps_expr (pe_bm PySem.F.plainAttrs_list PySem.F.slot_list_remove PySem.F.type_list_remove mt_removeS (pv 2) (pa_cons (pv 6) pa_nil)))
            (pss_cons (ps_expr (pe_bm PySem.F.plainAttrs_list PySem.F.slot_list_append PySem.F.type_list_append mt_append (pv 4) (pa_cons (pv 6) pa_nil)))
            (pss_cons (ps_aug (i := 5) nn rfl (Or.inl rfl) (pe_lc (own := [("one", 7), ("other", 8), ("far", 9)]) (g := gTup K 3 (gCons (gName 7) (gCons (gName 8) (gCons (gName 9) gNil)))) rfl nn (pi_or (pi_list (pv 1)) (pi_tup (pv 1))) (blkOk_by (N := n_joined_rows) (sc := defScope s_joined_rows) (by decide +kernel))
                (fun _ _ _ _ _ => by exact pg_tup rfl (pgs_cons (pg_name (i := 7) nn rfl (by first | exact Or.inl rfl | exact Or.inr rfl)) (pgs_cons (pg_name (i := 8) nn rfl (by first | exact Or.inl rfl | exact Or.inr rfl)) (pgs_cons (pg_name (i := 9) nn rfl (by first | exact Or.inl rfl | exact Or.inr rfl)) pgs_nil)))) (fun _ _ _ _ _ => pts_one (pt_cmpR op_eq (pv 7) (pv 6) (nomark _))) (fun _ _ _ _ _ => pv 8)) iop_ext)
            (pss_one (ps_aug (i := 5) nn rfl (Or.inl rfl) (pe_lc (own := [("one", 7), ("other", 8), ("far", 9)]) (g := gTup K 3 (gCons (gName 7) (gCons (gName 8) (gCons (gName 9) gNil)))) rfl nn (pi_or (pi_list (pv 1)) (pi_tup (pv 1))) (blkOk_by (N := n_joined_rows) (sc := defScope s_joined_rows) (by decide +kernel))
                (fun _ _ _ _ _ => by exact pg_tup rfl (pgs_cons (pg_name (i := 7) nn rfl (by first | exact Or.inl rfl | exact Or.inr rfl)) (pgs_cons (pg_name (i := 8) nn rfl (by first | exact Or.inl rfl | exact Or.inr rfl)) (pgs_cons (pg_name (i := 9) nn rfl (by first | exact Or.inl rfl | exact Or.inr rfl)) pgs_nil)))) (fun _ _ _ _ _ => pts_one (pt_cmpR op_eq (pv 8) (pv 6) (nomark _))) (fun _ _ _ _ _ => pv 7)) iop_ext))))) pss_nil))))
        (pss_one (ps_expr (pe_bm PySem.F.plainAttrs_list PySem.F.slot_list_append PySem.F.type_list_append mt_append (pv 3) (pa_cons (pe_callTy call_tuple_of (by rfl) C.t.b_tuple (by decide +kernel) (pa_cons (pe_callB cr_sortedS (by rfl) C.t.b_sorted (by decide +kernel) (pa_cons (pv 4) pa_nil)) pa_nil)) pa_nil)))))))
      (pss_one (ps_ret (pe_callTy call_tuple_of (by rfl) C.t.b_tuple (by decide +kernel) (pa_cons (pv 3) pa_nil))))), ?_⟩
    generalize hls : L.map (·.2) = ls at okl hq
    have lls : ls.length ≤ 1000 := by rw [← hls, List.length_map]; exact l1000
    have monoW : ∀ (i : Nat) (σ : L2.St) (H : Hp) (Q Q' : Bool → Hp → Prop), (∀ b H1, Q b H1 → Q' b H1) → tTest (tOp (rNeD K) (tVar i) (tLst tNil)) σ H Q → tTest (tOp (rNeD K) (tVar i) (tLst tNil)) σ H Q' := fun i σ H Q Q' m ⟨v, e1, hz, h⟩ => ⟨v, e1, hz, fun e he => by
      obtain ⟨d1, d2, g1, g2, g3, g4, b, g5, g6⟩ := h e he
      exact ⟨d1, d2, g1, g2, g3, g4, b, g5, m _ _ g6⟩⟩
    have testW : ∀ {i : Nat} {σ : L2.St} {H1 : Hp} {q : Addr} {xs : List Str} {Q : Bool → Hp → Prop}, σ[i]? = some (some (.ref q)) → H1 q = some (.lst (xs.map V.str)) → (∀ x ∈ xs, okT x) → (∀ e, H1 e = none → Q (!decide (xs = [])) (upd H1 e (.lst []))) → tTest (tOp (rNeD K) (tVar i) (tLst tNil)) σ H1 Q := fun {i σ H1 q xs Q} h1 h2 h3 h4 => ⟨_, h1, by show 0 ≤ sizeLine; decide, fun e he => by
      have hqe : q ≠ e := ne_of_none h2 he
      refine ⟨.list (xs.map PyData.str), .list (([] : List Str).map PyData.str), .lst (SqL.of ((upd_ne hqe).trans h2)) (DpAll.strs _), .lst (SqL.of upd_same) .nil, shaped_names h3, shaped_names (fun x hx => by cases hx), _, rfl, ?_⟩
      have ev : PyData.eqv (.list (xs.map PyData.str)) (.list (([] : List Str).map PyData.str)) = decide (xs = []) := eqv_strs xs []
      rw [ev]
      exact h4 e he⟩
    refine ⟨_, rfl, a, ns, rfl, ha, l64, fun ys p hp hs hpn => ?_⟩
    have eys := sortS_is hp hs
    subst eys
    have L1 := (Le.refl hT).new (o := .lst ((sortS ns).map V.str)) hpn
    have hp1 : upd H p (.lst ((sortS ns).map V.str)) p = some (.lst ((sortS ns).map V.str)) := upd_same
    generalize upd H p (.lst ((sortS ns).map V.str)) = H1 at L1 hp1
    refine ⟨by show 0 ≤ sizeLine; decide, fun f hf => ?_⟩
    have L2' := L1.new (o := .lst []) hf
    have hp2 : upd H1 f (.lst []) p = some (.lst ((sortS ns).map V.str)) := (upd_ne (ne_of_none hp1 hf)).trans hp1
    have hf2 : upd H1 f (.lst []) f = some (.lst []) := upd_same
    have hpf : p ≠ f := ne_of_none hp1 hf
    have hfn : H f = none := L1.no f hf
    generalize upd H1 f (.lst []) = H2 at L2' hp2 hf2
    refine ⟨_, _, rfl, ?_⟩
    have lsn : (sortS ns).length = ns.length := (sortS_perm ns).length_eq
    refine while_by (fun σ H' => ∃ (n : Nat) (left : List Str) (R : List (Addr × List Str)) (a4 a5 a6 : Option V), σ = [some (.ref a), some (.ref k), some (.ref p), some (.ref f), a4, a5, a6, none, none, none] ∧ Le (T K) H H' ∧ H' p = some (.lst (left.map V.str)) ∧ H' f = some (.lst (R.map fun x => V.ref x.1)) ∧ isRowsS H' R ∧
        joinedL ns ls = R.map (·.2) ++ rowsOf ls n left ∧ left.length ≤ n ∧ (∀ x ∈ left, okT x) ∧ R.length + left.length ≤ ns.length)
      (fun σ H' => lenH H' σ 2) ?_ (fun σ H3 hP => ?_) (monoW 2)
    · exact ⟨ns.length, sortS ns, [], none, none, none, rfl, L2', hp2, hf2, (fun x hx => by cases hx), rfl, by omega, fun x hx => okn x ((sortS_perm ns).mem_iff.mp hx), by rw [lsn]; show 0 + _ ≤ _; omega⟩
    · obtain ⟨n, left, R, a4, a5, a6, rfl, L3, hp3, hf3, hR3, hj, hln, hok, hsz⟩ := hP
      refine testW rfl hp3 hok fun e he => ?_
      have L4 := L3.new (o := .lst []) he
      have hp4 : upd H3 e (.lst []) p = some (.lst (left.map V.str)) := (upd_ne (ne_of_none hp3 he)).trans hp3
      have hf4 : upd H3 e (.lst []) f = some (.lst (R.map fun x => V.ref x.1)) := (upd_ne (ne_of_none hf3 he)).trans hf3
      have hR4 : isRowsS (upd H3 e (.lst [])) R := fun x hx => (upd_ne (ne_of_none (hR3 x hx) he)).trans (hR3 x hx)
      have hmu : lenH H3 [some (.ref a), some (.ref k), some (.ref p), some (.ref f), a4, a5, a6, none, none, none] 2 = left.length := (lenH_at rfl hp3).trans (List.length_map _)
      rw [hmu]
      clear hmu hp3 hf3 hR3 L3
      generalize upd H3 e (.lst []) = H4 at L4 hp4 hf4 hR4
      match left, hln, hok, hsz, hj, hp4 with
      | [], hln, hok, hsz, hj, hp4 =>
        refine iteF ⟨_, rfl, f, _, rfl, .inl ⟨SqL.of hf4, fun t ht => ?_⟩⟩
        have er : rowsOf ls n [] = [] := by cases n <;> rfl
        rw [er, List.append_nil] at hj
        exact hq _ t R (L4.new ht) (L4.no t ht) upd_same (fun x hx => (upd_ne (ne_of_none (hR4 x hx) ht)).trans (hR4 x hx)) hj.symm
      | x :: r, hln, hok, hsz, hj, hp4 =>
        obtain ⟨n, rfl⟩ : ∃ m, n = m + 1 := ⟨n - 1, by rw [List.length_cons] at hln; omega⟩
        refine iteT ⟨by show 0 ≤ sizeLine; decide, fun rw' hrw => ?_⟩
        have L5 := L4.new (o := .lst []) hrw
        have hp5 : upd H4 rw' (.lst []) p = some (.lst ((x :: r).map V.str)) := (upd_ne (ne_of_none hp4 hrw)).trans hp4
        have hf5 : upd H4 rw' (.lst []) f = some (.lst (R.map fun x => V.ref x.1)) := (upd_ne (ne_of_none hf4 hrw)).trans hf4
        have hR5 : isRowsS (upd H4 rw' (.lst [])) R := fun x hx => (upd_ne (ne_of_none (hR4 x hx) hrw)).trans (hR4 x hx)
        have hrw5 : upd H4 rw' (.lst []) rw' = some (.lst []) := upd_same
        have hprw : p ≠ rw' := ne_of_none hp4 hrw
        have hfrw : f ≠ rw' := ne_of_none hf4 hrw
        have hrwH : H rw' = none := L4.no _ hrw
        clear hp4 hf4 hR4 L4
        generalize upd H4 rw' (.lst []) = H5 at L5 hp5 hf5 hR5 hrw5
        refine ⟨_, rfl, p, _, _, _, rfl, rfl, SqL.of hp5, atI_nat (j := 0) rfl, by show 1 ≤ sizeLine; decide, fun ed hed => ?_⟩
        have L6 := L5.new (o := .lst [.str x]) hed
        have hp6 : upd H5 ed (.lst [.str x]) p = some (.lst ((x :: r).map V.str)) := (upd_ne (ne_of_none hp5 hed)).trans hp5
        have hf6 : upd H5 ed (.lst [.str x]) f = some (.lst (R.map fun x => V.ref x.1)) := (upd_ne (ne_of_none hf5 hed)).trans hf5
        have hR6 : isRowsS (upd H5 ed (.lst [.str x])) R := fun x hx => (upd_ne (ne_of_none (hR5 x hx) hed)).trans (hR5 x hx)
        have hrw6 : upd H5 ed (.lst [.str x]) rw' = some (.lst []) := (upd_ne (ne_of_none hrw5 hed)).trans hrw5
        have hed6 : upd H5 ed (.lst [.str x]) ed = some (.lst ([x].map V.str)) := upd_same
        have hped : p ≠ ed := ne_of_none hp5 hed
        have hfed : f ≠ ed := ne_of_none hf5 hed
        have hrwed : rw' ≠ ed := ne_of_none hrw5 hed
        have hedH : H ed = none := L5.no _ hed
        clear hp5 hf5 hR5 L5 hrw5 hed
        generalize upd H5 ed (.lst [.str x]) = H6 at L6 hp6 hf6 hR6 hrw6 hed6
        refine ⟨_, _, rfl, ?_⟩
        -- the ground of the inner loop: all but left, row, edge
        have LB : Le (T K) (hid H6 [p, rw', ed]) H6 := hid_le L6.tab
        have Bp : hid H6 [p, rw', ed] p = none := hid_no (by simp)
        have Brw : hid H6 [p, rw', ed] rw' = none := hid_no (by simp)
        have Bed : hid H6 [p, rw', ed] ed = none := hid_no (by simp)
        have Bf : hid H6 [p, rw', ed] f = some (.lst (R.map fun x => V.ref x.1)) := hid_at hf6 (by simp only [List.mem_cons, List.not_mem_nil, or_false]; rintro (z | z | z) <;> first | exact hpf z.symm | exact hfrw z | exact hfed z)
        have BR : isRowsS (hid H6 [p, rw', ed]) R := fun y hy => hid_at (hR6 y hy) (by
          have := hR6 y hy
          simp only [List.mem_cons, List.not_mem_nil, or_false]
          rintro (z | z | z)
          · rw [z, hp6] at this; cases this
          · rw [z, hrw6] at this; cases this
          · rw [z, hed6] at this; cases this)
        have LHB : Le (T K) H (hid H6 [p, rw', ed]) := L6.hid (fun d hd => by
          simp only [List.mem_cons, List.not_mem_nil, or_false] at hd
          rcases hd with rfl | rfl | rfl <;> assumption) (fun d hd u hu => by
          simp only [List.mem_cons, List.not_mem_nil, or_false] at hd
          rcases hd with rfl | rfl | rfl
          · rw [hp6] at hu; cases hu; trivial
          · rw [hrw6] at hu; cases hu; trivial
          · rw [hed6] at hu; cases hu; trivial)
        generalize hid H6 [p, rw', ed] = B at LB Bp Brw Bed Bf BR LHB
        clear L6 hf6 hR6
        refine while_by (fun σ H' => ∃ (left row edge : List Str) (a6 : Option V), σ = [some (.ref a), some (.ref k), some (.ref p), some (.ref f), some (.ref rw'), some (.ref ed), a6, none, none, none] ∧ Le (T K) B H' ∧ H' p = some (.lst (left.map V.str)) ∧ H' rw' = some (.lst (row.map V.str)) ∧ H' ed = some (.lst (edge.map V.str)) ∧
            dfs ls left row edge = dfs ls (x :: r) [] [x] ∧ (∀ y ∈ left, okT y) ∧ (∀ y ∈ edge, okT y) ∧ row.length + left.length = r.length + 1 ∧ edge.length + left.length * (2 * ls.length) ≤ 1 + (r.length + 1) * (2 * ls.length) ∧ (row = [] → left = x :: r ∧ edge = [x]))
          (fun σ H' => lenH H' σ 2 * (2 * ls.length + 1) + lenH H' σ 5) ?_ (fun σ H7 hP => ?_) (monoW 5)
        · exact ⟨x :: r, [], [x], a6, rfl, LB, hp6, hrw6, hed6, rfl, hok, fun y hy => by rw [List.mem_singleton.mp hy]; exact hok x List.mem_cons_self, by simp, by simp, fun _ => ⟨rfl, rfl⟩⟩
        · obtain ⟨left, row, edge, a6, rfl, L7, hp7, hrw7, hed7, hdfs, hokl, hoke, hcnt, hbnd, hfst⟩ := hP
          refine testW rfl hed7 hoke fun e he => ?_
          have hmu : lenH H7 [some (.ref a), some (.ref k), some (.ref p), some (.ref f), some (.ref rw'), some (.ref ed), a6, none, none, none] 2 * (2 * ls.length + 1) + lenH H7 [some (.ref a), some (.ref k), some (.ref p), some (.ref f), some (.ref rw'), some (.ref ed), a6, none, none, none] 5 = left.length * (2 * ls.length + 1) + edge.length := by
            rw [lenH_at rfl hp7, lenH_at rfl hed7, List.length_map, List.length_map]
          rw [hmu]
          have L8 := L7.new (o := .lst []) he
          have hp8 : upd H7 e (.lst []) p = some (.lst (left.map V.str)) := (upd_ne (ne_of_none hp7 he)).trans hp7
          have hrw8 : upd H7 e (.lst []) rw' = some (.lst (row.map V.str)) := (upd_ne (ne_of_none hrw7 he)).trans hrw7
          have hed8 : upd H7 e (.lst []) ed = some (.lst (edge.map V.str)) := (upd_ne (ne_of_none hed7 he)).trans hed7
          clear hmu hp7 hrw7 hed7 L7
          generalize upd H7 e (.lst []) = H8 at L8 hp8 hrw8 hed8
          have hlx : (x :: r).length ≤ 63 := by rw [List.length_cons] at hsz ⊢; omega
          have hbig : edge.length ≤ 200000 := by
            have h1 : (r.length + 1) * (2 * ls.length) ≤ 64 * 2000 := Nat.mul_le_mul (by rw [List.length_cons] at hlx; omega) (by omega)
            omega
          rcases List.eq_nil_or_concat edge with hemp | ⟨edge', hh, hemp⟩
          · subst hemp
            rw [dfs_nil] at hdfs
            refine iteF ?_
            have hf8 := L8.at Bf
            have hR8 : isRowsS H8 R := fun y hy => L8.at (BR y hy)
            have hrl : row.length < 64 := by rw [List.length_cons] at hlx; omega
            refine ⟨_, rfl, .inl ⟨rfl, _, SqL.of hf8⟩, _, rfl, rw', row, rfl, SqL.of hrw8, by omega, fun zs q hz hzs hqn => ?_⟩
            have ezs := sortS_is hz hzs
            subst ezs
            refine ⟨q, _, rfl, .inl ⟨SqL.of upd_same, fun t ht => ?_⟩⟩
            have L9 := (L8.new (o := .lst ((sortS row).map V.str)) hqn).new (o := .tup ((sortS row).map V.str)) ht
            have hf9 : upd (upd H8 q (.lst ((sortS row).map V.str))) t (.tup ((sortS row).map V.str)) f = some (.lst (R.map fun x => V.ref x.1)) := (upd_ne (ne_of_none ((upd_ne (ne_of_none hf8 hqn)).trans hf8) ht)).trans ((upd_ne (ne_of_none hf8 hqn)).trans hf8)
            have hp9 : upd (upd H8 q (.lst ((sortS row).map V.str))) t (.tup ((sortS row).map V.str)) p = some (.lst (left.map V.str)) := (upd_ne (ne_of_none ((upd_ne (ne_of_none hp8 hqn)).trans hp8) ht)).trans ((upd_ne (ne_of_none hp8 hqn)).trans hp8)
            have hR9 : isRowsS (upd (upd H8 q (.lst ((sortS row).map V.str))) t (.tup ((sortS row).map V.str))) R := fun y hy => (upd_ne (ne_of_none ((upd_ne (ne_of_none (hR8 y hy) hqn)).trans (hR8 y hy)) ht)).trans ((upd_ne (ne_of_none (hR8 y hy) hqn)).trans (hR8 y hy))
            have ht9 : upd (upd H8 q (.lst ((sortS row).map V.str))) t (.tup ((sortS row).map V.str)) t = some (.tup ((sortS row).map V.str)) := upd_same
            have hft : f ≠ t := ne_of_none ((upd_ne (ne_of_none hf8 hqn)).trans hf8) ht
            generalize upd (upd H8 q (.lst ((sortS row).map V.str))) t (.tup ((sortS row).map V.str)) = H9 at L9 hf9 hp9 hR9 ht9
            have hne : row ≠ [] := fun z => by
              obtain ⟨_, z2⟩ := hfst z
              cases z2
            have hrp : 0 < row.length := List.length_pos_iff.mpr hne
            refine ⟨f, _, _, rfl, rfl, hf9, by rw [List.length_map]; exact Nat.lt_of_lt_of_le (show R.length < 64 by omega) (by decide), ?_, ?_⟩
            · refine ⟨n, left, R ++ [(t, sortS row)], _, _, _, rfl, (LHB.trans L9).set hfn hf9, (upd_ne hpf).trans hp9, ?_, fun y hy => ?_, ?_, ?_, hokl, ?_⟩
              · rw [upd_same, List.map_append]; rfl
              · rcases List.mem_append.mp hy with hy | hy
                · have := hR9 y hy
                  exact (upd_ne (fun z => by rw [z, hf9] at this; cases this)).trans this
                · rw [List.mem_singleton.mp hy]
                  exact (upd_ne (Ne.symm hft)).trans ht9
              · rw [hj]
                show R.map (·.2) ++ (sortS (dfs ls (x :: r) [] [x]).2 :: rowsOf ls n (dfs ls (x :: r) [] [x]).1) = _
                rw [← hdfs, List.map_append, List.append_assoc]
                rfl
              · rw [List.length_cons] at hln; omega
              · rw [List.length_append, List.length_singleton]
                rw [List.length_cons] at hsz
                omega
            · rw [lenH_at rfl ((upd_ne hpf).trans hp9), List.length_map, List.length_cons]
              omega
          · rw [List.concat_eq_append] at hemp
            subst hemp
            rw [dfs_snoc] at hdfs
            refine iteDN (by simp) ?_
            have hlast : ((edge' ++ [hh]).map V.str)[((edge' ++ [hh]).map V.str).length - 1]? = some (V.str hh) := by
              rw [List.getElem?_map, List.length_map, List.length_append, List.length_singleton]
              simp
            have hdl : ((edge' ++ [hh]).map V.str).dropLast = edge'.map V.str := by rw [List.map_append]; simp
            have hoh : okT hh := hoke hh (List.mem_append_right _ List.mem_cons_self)
            have hoke' : ∀ y ∈ edge', okT y := fun y hy => hoke y (List.mem_append_left _ hy)
            rw [List.length_append, List.length_singleton] at hbnd hbig
            refine ⟨_, rfl, .inl ⟨rfl, _, SqL.of hed8⟩, ed, _, _, rfl, rfl, hed8, hlast, ?_⟩
            rw [hdl]
            have L9 := L8.set (o := .lst (edge'.map V.str)) Bed hed8
            have hp9 : upd H8 ed (.lst (edge'.map V.str)) p = some (.lst (left.map V.str)) := (upd_ne hped).trans hp8
            have hrw9 : upd H8 ed (.lst (edge'.map V.str)) rw' = some (.lst (row.map V.str)) := (upd_ne hrwed).trans hrw8
            have hed9 : upd H8 ed (.lst (edge'.map V.str)) ed = some (.lst (edge'.map V.str)) := upd_same
            clear L8 hp8 hrw8 hed8 hlast hdl
            generalize upd H8 ed (.lst (edge'.map V.str)) = H9 at L9 hp9 hrw9 hed9
            refine ⟨_, rfl, _, rfl, p, _, rfl, .inl (SqL.of hp9), rfl, flat_strs left, _, rfl, ?_⟩
            show (if inV (V.str hh) (left.map V.str) = true then _ else _)
            rw [inV_strs]
            by_cases hmem : hh ∈ left
            · rw [if_pos hmem] at hdfs
              rw [decide_eq_true hmem]
              obtain ⟨i1, i2, i3⟩ := idx_of hmem
              have hlen1 : (left.erase hh).length = left.length - 1 := List.length_erase_of_mem hmem
              have hlen0 : 0 < left.length := List.length_pos_of_mem hmem
              refine iteT ⟨_, rfl, .inl ⟨rfl, _, SqL.of hp9⟩, _, rfl, p, left, hh, left.idxOf hh, rfl, rfl, hp9, i1, i2, ?_⟩
              rw [i3]
              have L10 := L9.set (o := .lst ((left.erase hh).map V.str)) Bp hp9
              have hp10 : upd H9 p (.lst ((left.erase hh).map V.str)) p = some (.lst ((left.erase hh).map V.str)) := upd_same
              have hrw10 : upd H9 p (.lst ((left.erase hh).map V.str)) rw' = some (.lst (row.map V.str)) := (upd_ne (Ne.symm hprw)).trans hrw9
              have hed10 : upd H9 p (.lst ((left.erase hh).map V.str)) ed = some (.lst (edge'.map V.str)) := (upd_ne (Ne.symm hped)).trans hed9
              clear L9 hp9 hrw9 hed9
              generalize upd H9 p (.lst ((left.erase hh).map V.str)) = H10 at L10 hp10 hrw10 hed10
              refine ⟨_, rfl, .inl ⟨rfl, _, SqL.of hrw10⟩, _, rfl, rw', _, _, rfl, rfl, hrw10, by rw [List.length_map]; exact Nat.lt_of_lt_of_le (show row.length < 64 by rw [List.length_cons] at hlx; omega) (by decide), ?_⟩
              have L11 := L10.set (o := .lst (row.map V.str ++ [V.str hh])) Brw hrw10
              have hp11 : upd H10 rw' (.lst (row.map V.str ++ [V.str hh])) p = some (.lst ((left.erase hh).map V.str)) := (upd_ne hprw).trans hp10
              have hrw11 : upd H10 rw' (.lst (row.map V.str ++ [V.str hh])) rw' = some (.lst ((row ++ [hh]).map V.str)) := by rw [upd_same, List.map_append]; rfl
              have hed11 : upd H10 rw' (.lst (row.map V.str ++ [V.str hh])) ed = some (.lst (edge'.map V.str)) := (upd_ne (Ne.symm hrwed)).trans hed10
              clear L10 hp10 hrw10 hed10
              generalize upd H10 rw' (.lst (row.map V.str ++ [V.str hh])) = H11 at L11 hp11 hrw11 hed11
              have n1 := nb1_len ls hh
              have n2 := nb2_len ls hh
              have hLB : ∀ {H' : Hp}, Le (T K) B H' → isLinks H' L := fun l y hy => (LHB.trans l).at (hL y hy)
              have hwk : ∀ {H' : Hp}, Le (T K) B H' → SqL K H' k (L.map fun x => V.ref x.1) ∨ SqT K H' k (L.map fun x => V.ref x.1) := fun l => hk.imp (fun z => (LHB.trans l).seqL z) (fun z => (LHB.trans l).seqT z)
              have edge1 : ∀ (H' : Hp) (D1 : Addr), Le (T K) B H' → H' p = some (.lst ((left.erase hh).map V.str)) → H' rw' = some (.lst ((row ++ [hh]).map V.str)) → H' ed = some (.lst (edge'.map V.str)) → H' D1 = some (.lst ((nb1 ls hh).map V.str)) →
                  ∃ l b xs zs, V.ref ed = V.ref l ∧ V.ref D1 = V.ref b ∧ H' l = some (.lst xs) ∧ H' b = some (.lst zs) ∧ xs.length + zs.length ≤ sizeLine ∧ (l = ed ∧ xs ++ zs = (edge' ++ nb1 ls hh).map V.str) := fun H' D1 l h1 h2 h3 h4 =>
                ⟨ed, D1, _, _, rfl, rfl, h3, h4, by rw [List.length_map, List.length_map]; exact Nat.le_trans (show edge'.length + (nb1 ls hh).length ≤ 300000 by omega) (by decide), rfl, by rw [List.map_append]⟩
              clear edge1
              have fin : ∀ (H' : Hp) (D2 : Addr), Le (T K) B H' → H' p = some (.lst ((left.erase hh).map V.str)) → H' rw' = some (.lst ((row ++ [hh]).map V.str)) → H' ed = some (.lst ((edge' ++ nb1 ls hh).map V.str)) → H' D2 = some (.lst ((nb2 ls hh).map V.str)) →
                  rExt2 (.ref ed) (.ref D2) H' fun v H3 => v = .ref ed ∧ (∃ (left row edge : List Str) (a6 : Option V), [some (.ref a), some (.ref k), some (.ref p), some (.ref f), some (.ref rw'), some (.ref ed), some (.str hh), none, none, none] = [some (.ref a), some (.ref k), some (.ref p), some (.ref f), some (.ref rw'), some (.ref ed), a6, none, none, none] ∧ Le (T K) B H3 ∧ H3 p = some (.lst (left.map V.str)) ∧ H3 rw' = some (.lst (row.map V.str)) ∧ H3 ed = some (.lst (edge.map V.str)) ∧
                    dfs ls left row edge = dfs ls (x :: r) [] [x] ∧ (∀ y ∈ left, okT y) ∧ (∀ y ∈ edge, okT y) ∧ row.length + left.length = r.length + 1 ∧ edge.length + left.length * (2 * ls.length) ≤ 1 + (r.length + 1) * (2 * ls.length) ∧ (row = [] → left = x :: r ∧ edge = [x])) ∧
                    lenH H3 [some (.ref a), some (.ref k), some (.ref p), some (.ref f), some (.ref rw'), some (.ref ed), some (.str hh), none, none, none] 2 * (2 * ls.length + 1) + lenH H3 [some (.ref a), some (.ref k), some (.ref p), some (.ref f), some (.ref rw'), some (.ref ed), some (.str hh), none, none, none] 5 < left.length * (2 * ls.length + 1) + (edge' ++ [hh]).length := fun H' D2 l h1 h2 h3 h4 => by
                have hmul : left.length * (2 * ls.length) = (left.length - 1) * (2 * ls.length) + 2 * ls.length := by
                  rw [← Nat.succ_mul]; congr 1; omega
                have hmul2 : left.length * (2 * ls.length + 1) = (left.length - 1) * (2 * ls.length + 1) + (2 * ls.length + 1) := by
                  rw [← Nat.succ_mul]; congr 1; omega
                have h5 : upd H' ed (.lst ((edge' ++ nb1 ls hh).map V.str ++ (nb2 ls hh).map V.str)) p = some (.lst ((left.erase hh).map V.str)) := (upd_ne hped).trans h1
                have h6 : upd H' ed (.lst ((edge' ++ nb1 ls hh).map V.str ++ (nb2 ls hh).map V.str)) ed = some (.lst ((edge' ++ nb1 ls hh ++ nb2 ls hh).map V.str)) := by rw [upd_same, List.map_append (l₂ := nb2 ls hh)]
                refine ⟨ed, D2, _, _, rfl, rfl, h3, h4, ?_, rfl, ⟨left.erase hh, row ++ [hh], edge' ++ nb1 ls hh ++ nb2 ls hh, _, rfl, l.set Bed h3, h5, (upd_ne hrwed).trans h2, h6, hdfs, fun y hy => hokl y (List.mem_of_mem_erase hy), fun y hy => ?_, ?_, ?_, fun z => ?_⟩, ?_⟩
                · rw [List.length_map, List.length_map, List.length_append]
                  exact Nat.le_trans (show edge'.length + (nb1 ls hh).length + (nb2 ls hh).length ≤ 300000 by omega) (by decide)
                · rcases List.mem_append.mp hy with hy | hy
                  · rcases List.mem_append.mp hy with hy | hy
                    · exact hoke' y hy
                    · unfold nb1 at hy
                      obtain ⟨z, hz, rfl⟩ := List.mem_map.mp hy
                      exact (okl z (List.mem_filter.mp hz |>.1)).2
                  · unfold nb2 at hy
                    obtain ⟨z, hz, rfl⟩ := List.mem_map.mp hy
                    exact (okl z (List.mem_filter.mp hz |>.1)).1
                · rw [List.length_append, List.length_singleton, hlen1]; omega
                · rw [List.length_append, List.length_append, hlen1]; omega
                · cases row <;> cases z
                · rw [lenH_at rfl h5, lenH_at rfl h6, List.length_map, List.length_map, List.length_append, List.length_append, List.length_append, List.length_singleton, hlen1]
                  omega
              have c1 : ∀ (H' : Hp) (D1 : Addr), Le (T K) B H' → H' p = some (.lst ((left.erase hh).map V.str)) → H' rw' = some (.lst ((row ++ [hh]).map V.str)) → H' ed = some (.lst (edge'.map V.str)) → H' D1 = some (.lst ((nb1 ls hh).map V.str)) →
                  rExt2 (.ref ed) (.ref D1) H' fun v H3 => v = .ref ed ∧ Le (T K) B H3 ∧ H3 p = some (.lst ((left.erase hh).map V.str)) ∧ H3 rw' = some (.lst ((row ++ [hh]).map V.str)) ∧ H3 ed = some (.lst ((edge' ++ nb1 ls hh).map V.str)) := fun H' D1 l h1 h2 h3 h4 =>
                ⟨ed, D1, _, _, rfl, rfl, h3, h4, by rw [List.length_map, List.length_map]; exact Nat.le_trans (show edge'.length + (nb1 ls hh).length ≤ 300000 by omega) (by decide), rfl, l.set Bed h3, (upd_ne hped).trans h1, (upd_ne hrwed).trans h2, by rw [upd_same, List.map_append]⟩
              have keep : ∀ {H' : Hp}, Le (T K) H11 H' → Le (T K) B H' ∧ H' p = some (.lst ((left.erase hh).map V.str)) ∧ H' rw' = some (.lst ((row ++ [hh]).map V.str)) ∧ H' ed = some (.lst (edge'.map V.str)) := fun l => ⟨L11.trans l, l.at hp11, l.at hrw11, l.at hed11⟩
              rcases hk with hk | hk
              · refine ⟨_, rfl, .inl ⟨_, rfl, k, rfl, ⟨_, (LHB.trans L11).seqL hk⟩, fun D1 hD1 => ?_⟩⟩
                refine lc_nb (i := 7) (j := 8) (h := hh) (fun l => l.1) (fun l => l.2.1) (walksL ((LHB.trans L11).seqL hk)) (hLB L11) L11.tab hD1 l1000 (fun _ => rfl) (fun _ => rfl) fun H12 L12 h12 => ?_
                rw [hls] at h12
                obtain ⟨k1, k2, k3, k4⟩ := keep L12
                obtain ⟨l1, b1, xs1, zs1, g1, g2, g3, g4, g5, g6, g7, g8, g9, g10⟩ := c1 H12 D1 k1 k2 k3 k4 h12
                refine ⟨l1, b1, xs1, zs1, g1, g2, g3, g4, g5, ?_⟩
                rw [g6]
                generalize upd H12 l1 (.lst (xs1 ++ zs1)) = H13 at g7 g8 g9 g10
                refine ⟨_, rfl, .inl ⟨_, rfl, k, rfl, ⟨_, (LHB.trans g7).seqL hk⟩, fun D2 hD2 => ?_⟩⟩
                refine lc_nb (i := 8) (j := 7) (h := hh) (fun l => l.2.1) (fun l => l.1) (walksL ((LHB.trans g7).seqL hk)) (hLB g7) g7.tab hD2 l1000 (fun _ => rfl) (fun _ => rfl) fun H14 L14 h14 => ?_
                rw [hls] at h14
                obtain ⟨l2, b2, xs2, zs2, q1, q2, q3, q4, q5, q6, q7, q8⟩ := fin H14 D2 (g7.trans L14) (L14.at g8) (L14.at g9) (L14.at g10) h14
                refine ⟨l2, b2, xs2, zs2, q1, q2, q3, q4, q5, ?_⟩
                rw [q6]
                exact ⟨q7, q8⟩
              · refine ⟨_, rfl, .inr ⟨_, rfl, k, rfl, ⟨_, (LHB.trans L11).seqT hk⟩, fun D1 hD1 => ?_⟩⟩
                refine lc_nb (i := 7) (j := 8) (h := hh) (fun l => l.1) (fun l => l.2.1) (walksT ((LHB.trans L11).seqT hk)) (hLB L11) L11.tab hD1 l1000 (fun _ => rfl) (fun _ => rfl) fun H12 L12 h12 => ?_
                rw [hls] at h12
                obtain ⟨k1, k2, k3, k4⟩ := keep L12
                obtain ⟨l1, b1, xs1, zs1, g1, g2, g3, g4, g5, g6, g7, g8, g9, g10⟩ := c1 H12 D1 k1 k2 k3 k4 h12
                refine ⟨l1, b1, xs1, zs1, g1, g2, g3, g4, g5, ?_⟩
                rw [g6]
                generalize upd H12 l1 (.lst (xs1 ++ zs1)) = H13 at g7 g8 g9 g10
                refine ⟨_, rfl, .inr ⟨_, rfl, k, rfl, ⟨_, (LHB.trans g7).seqT hk⟩, fun D2 hD2 => ?_⟩⟩
                refine lc_nb (i := 8) (j := 7) (h := hh) (fun l => l.2.1) (fun l => l.1) (walksT ((LHB.trans g7).seqT hk)) (hLB g7) g7.tab hD2 l1000 (fun _ => rfl) (fun _ => rfl) fun H14 L14 h14 => ?_
                rw [hls] at h14
                obtain ⟨l2, b2, xs2, zs2, q1, q2, q3, q4, q5, q6, q7, q8⟩ := fin H14 D2 (g7.trans L14) (L14.at g8) (L14.at g9) (L14.at g10) h14
                refine ⟨l2, b2, xs2, zs2, q1, q2, q3, q4, q5, ?_⟩
                rw [q6]
                exact ⟨q7, q8⟩
            · rw [if_neg hmem] at hdfs
              rw [decide_eq_false hmem]
              refine iteF ⟨⟨left, row, edge', some (.str hh), rfl, L9, hp9, hrw9, hed9, hdfs, hokl, hoke', hcnt, by omega, fun z => ?_⟩, ?_⟩
              · obtain ⟨z1, z2⟩ := hfst z
                exfalso
                have : hh = x := by
                  have := congrArg List.getLast? z2
                  simpa using this
                rw [this, z1] at hmem
                exact hmem List.mem_cons_self
              · rw [lenH_at rfl hp9, lenH_at rfl hed9, List.length_map, List.length_map, List.length_append, List.length_singleton]
                omega
end
end K2

-- text K2I
set_option maxRecDepth 100000
set_option maxHeartbeats 4000000
namespace K2
open PySem PySem.Spec PyProof.Rows L2 LamX GX
section
variable {P : Program} {w : World} {K : PySem.W.Frag} {mg : Str → Option Value} {base : Heap}
/-! ### all_links, groups -/
def twOf (TS : TSt) (n : Str) : Tw := ((look TS n).map (·.2)).getD (0, 0, 0)
def farOf (a b : Tw) : Int := (a.1 - b.1) * (a.1 - b.1) + (a.2.1 - b.2.1) * (a.2.1 - b.2.1)
/-- the links of x with those behind it -/
def rowLk (rs : List (List Int)) (TS : TSt) (x : Str) (r : List Str) : List Lk3 := (r.filter fun y => seesB rs (twOf TS x) (twOf TS y)).map fun y => (x, y, farOf (twOf TS x) (twOf TS y))
def linksT (rs : List (List Int)) (TS : TSt) (ns : List Str) (i : Nat) : List Lk3 := ((List.range i).map fun k => rowLk rs TS (ns.getD k (S [])) (ns.drop (k + 1))).flatten
def linksL (rs : List (List Int)) (TS : TSt) (ns : List Str) : List Lk3 := linksT rs TS ns ns.length
theorem linksT_succ (rs : List (List Int)) (TS : TSt) (ns : List Str) (i : Nat) : linksT rs TS ns (i + 1) = linksT rs TS ns i ++ rowLk rs TS (ns.getD i (S [])) (ns.drop (i + 1)) := by
  unfold linksT
  rw [List.range_succ, List.map_append, List.flatten_append]
  simp
theorem rowLk_len (rs : List (List Int)) (TS : TSt) (x : Str) (r : List Str) : (rowLk rs TS x r).length ≤ r.length := by
  unfold rowLk; rw [List.length_map]; exact List.length_filter_le _ _
theorem linksT_len (rs : List (List Int)) (TS : TSt) (ns : List Str) : ∀ i, (linksT rs TS ns i).length ≤ i * ns.length
  | 0 => Nat.zero_le _
  | i + 1 => by
    rw [linksT_succ, List.length_append, Nat.succ_mul]
    have := linksT_len rs TS ns i
    have h := rowLk_len rs TS (ns.getD i (S [])) (ns.drop (i + 1))
    rw [List.length_drop] at h
    omega
def refsL (L : List (Addr × Lk3)) : List V := L.map fun x => V.ref x.1
/-- a net on its land, its towers apart -/
structure GoodT (rs : List (List Int)) (TS : TSt) : Prop where
  nd : (TS.map (·.1)).Nodup
  l : TS.length ≤ 30
  inn : ∀ p ∈ TS, inT rs p.2.2
  ok : ∀ p ∈ TS, okT p.1
theorem GoodT.at {rs : List (List Int)} {TS : TSt} (g : GoodT rs TS) {n : Str} (h : n ∈ TS.map (·.1)) : ∃ u, look TS n = some (u, twOf TS n) ∧ inT rs (twOf TS n) ∧ okT n ∧ (n, u, twOf TS n) ∈ TS := by
  obtain ⟨v, h1, h2⟩ := look_mem h
  have e : twOf TS n = v.2 := by unfold twOf; rw [h1]; rfl
  rw [e]
  exact ⟨v.1, h1, g.inn _ h2, g.ok _ h2, h2⟩
def nsT (TS : TSt) : List Str := sortS (TS.map (·.1))
theorem nsT_mem {TS : TSt} {n : Str} : n ∈ nsT TS ↔ n ∈ TS.map (·.1) := (sortS_perm _).mem_iff
theorem nsT_len {TS : TSt} : (nsT TS).length = TS.length := by unfold nsT; rw [(sortS_perm _).length_eq, List.length_map]
def spLinks (K : PySem.W.Frag) : Sp := fun vs H Q E => ∃ (n l d : Addr) (rs : List (List Int)) (TS : TSt), vs = [.ref n] ∧ isNet K H n l d TS ∧ isLand K H l rs ∧ GoodL rs ∧ GoodT rs TS ∧ Tabs (T K) H ∧
  ∀ H' t L, Le (T K) H H' → H t = none → H' t = some (.tup (refsL L)) → isLinks H' L → L.map (·.2) = linksL rs TS (nsT TS) → Q (.ref t) H'
theorem sorted_towers {H : Hp} {d : Addr} {TS : TSt} (hd : H d = some (dT TS)) : Rd H d (.dK (ents tV TS)) := .inl hd
theorem ok_links (C : Ctx K mg base) : MetX P w K mg base 4 (aNt K) "all_links" ["self"] (spLinks K) := by
  obtain ⟨fd, F⟩ := C.d.d_Net_all_links
  refine ⟨_, fd, ?_, F.funD.bindsN fun _ _ _ _ _ _ us hl => (match us, hl with | [_], _ => rfl), C.t.t_Net_all_links, C.t.c_Net⟩
  refine F.ok sc_Net_all_links (fun vs H Q E h => ?_) (fun A outer s H vs Q E hr h => ?_)
  · obtain ⟨n, l, d, rs, TS, rfl, _⟩ := h
    rfl
  · obtain ⟨n, l, d, rs, TS, rfl, hnet, hl, g, gt, hT, hq⟩ := h
    obtain ⟨⟨dx, hn⟩, hd, hts⟩ := id hnet
    have nn := sc_Net_all_links.nd
    obtain ⟨fS, fdS, FS, bS, mS, cS⟩ := ok_sees (P := P) (w := w) C
    refine ⟨_, pss_cons (ps_par (i := 1) (j := 2) (by rfl) nn rfl rfl (by decide) rfl rfl (pa_cons (pe_callB (call_sortedD rfl) (by rfl) C.t.b_sorted (by decide +kernel) (pa_cons (pe_fld (pv 0) rfl) pa_nil)) (pa_cons (pe_lst pa_nil) pa_nil)) (by rfl))
      (pss_cons (ps_for ownsA rfl (pi_enum (by rfl) C.t.b_enumerate (pa_cons (pv 1) pa_nil)) (pg_tup rfl (pgs_cons (pg_name (i := 3) nn rfl (by first | exact Or.inl rfl | exact Or.inr rfl)) (pgs_cons (pg_name (i := 4) nn rfl (by first | exact Or.inl rfl | exact Or.inr rfl)) pgs_nil)))
        (pss_one (ps_for ownsA rfl (pi_list (pe_slice sl_list (pv 1) (po_some (pe_op op_add (pv 3) pe_int)) po_none)) (pg_name (i := 5) nn rfl (by first | exact Or.inl rfl | exact Or.inr rfl))
          (pss_one (ps_if (pt_val (pe_meth (pe_fld (pv 0) rfl) cS mS FS hr bS .nil passA (pa_cons (pe_dget (hu_of hr) (pe_fld (pv 0) rfl) (pv 4) (fun _ _ => rfl)) (pa_cons (pe_dget (hu_of hr) (pe_fld (pv 0) rfl) (pv 5) (fun _ _ => rfl)) pa_nil))))
            (pss_cons (ps_asg (pe_tup (pa_cons (pe_dget (hu_of hr) (pe_fld (pv 0) rfl) (pv 4) (fun _ _ => rfl)) (pa_cons (pe_dget (hu_of hr) (pe_fld (pv 0) rfl) (pv 5) (fun _ _ => rfl)) pa_nil)))
                (pg_tup rfl (pgs_cons (pg_tup rfl (pgs_cons (pg_name (i := 6) nn rfl (by first | exact Or.inl rfl | exact Or.inr rfl)) (pgs_cons (pg_name (i := 7) nn rfl (by first | exact Or.inl rfl | exact Or.inr rfl)) (pgs_cons (pg_name (i := 8) nn rfl (by first | exact Or.inl rfl | exact Or.inr rfl)) pgs_nil)))) (pgs_cons (pg_tup rfl (pgs_cons (pg_name (i := 9) nn rfl (by first | exact Or.inl rfl | exact Or.inr rfl)) (pgs_cons (pg_name (i := 10) nn rfl (by first | exact Or.inl rfl | exact Or.inr rfl)) (pgs_cons (pg_name (i := 11) nn rfl (by first | exact Or.inl rfl | exact Or.inr rfl)) pgs_nil)))) pgs_nil))))
            (pss_one (ps_expr (pe_bm PySem.F.plainAttrs_list PySem.F.slot_list_append PySem.F.type_list_append mt_append (pv 2) (pa_cons (pe_tup (pa_cons (pv 4) (pa_cons (pv 5) (pa_cons
              (pe_op op_add (pe_op op_mul (pe_op op_sub (pv 6) (pv 9)) (pe_op op_sub (pv 6) (pv 9))) (pe_op op_mul (pe_op op_sub (pv 7) (pv 10)) (pe_op op_sub (pv 7) (pv 10)))) pa_nil)))) pa_nil))))) pss_nil)))))
      (pss_one (ps_ret (pe_callTy call_tuple_of (by rfl) C.t.b_tuple (by decide +kernel) (pa_cons (pv 2) pa_nil))))), ?_⟩
    refine ⟨_, rfl, n, _, dx, _, _, rfl, hn, C.t.c_Net, C.t.a_Net_towers, rfl, d, _, TS.map (·.1), rfl, sorted_towers hd, ents_keys _ _, by rw [List.length_map]; have := gt.l; omega, fun ys p hp hs hpn => ?_⟩
    have eys := sortS_is hp hs
    subst eys
    have hns : sortS (TS.map (·.1)) = nsT TS := rfl
    rw [hns]
    have L1 := (Le.refl hT).new (o := .lst ((nsT TS).map V.str)) hpn
    have hp1 : upd H p (.lst ((nsT TS).map V.str)) p = some (.lst ((nsT TS).map V.str)) := upd_same
    generalize upd H p (.lst ((nsT TS).map V.str)) = H1 at L1 hp1
    refine ⟨by show 0 ≤ sizeLine; decide, fun f hf => ?_⟩
    have L2' := L1.new (o := .lst []) hf
    have hp2 : upd H1 f (.lst []) p = some (.lst ((nsT TS).map V.str)) := (upd_ne (ne_of_none hp1 hf)).trans hp1
    have hf2 : upd H1 f (.lst []) f = some (.lst (refsL [])) := upd_same
    have hpf : p ≠ f := ne_of_none hp1 hf
    have hfn : H f = none := L1.no f hf
    have hf1 : H1 f = none := hf
    have LB := (Le.refl L1.tab).new (o := .lst []) hf
    generalize upd H1 f (.lst []) = H2 at L2' hp2 hf2 LB
    refine ⟨_, _, rfl, ?_⟩
    have nl := nsT_len (TS := TS)
    have g64 := gt.l
    have mem : ∀ {i : Nat} {x : Str}, (nsT TS)[i]? = some x → x ∈ TS.map (·.1) := fun h => nsT_mem.mp (List.mem_of_getElem? h)
    refine ⟨_, rfl, p, _, rfl, SqL.of hp2, ?_⟩
    refine for_n (nsT TS).length (fun i σ H' => (∃ a3 a4 a5 a6 a7 a8 a9 a10 a11, σ = [some (.ref n), some (.ref p), some (.ref f), a3, a4, a5, a6, a7, a8, a9, a10, a11]) ∧ Le (T K) H1 H' ∧ ∃ L, H' f = some (.lst (refsL L)) ∧ isLinks H' L ∧ L.map (·.2) = linksT rs TS (nsT TS) i)
      ⟨⟨_, _, _, _, _, _, _, _, _, rfl⟩, LB, [], hf2, (fun x hx => by cases hx), rfl⟩ (fun i σ H3 hi ⟨⟨a3, a4, a5, a6, a7, a8, a9, a10, a11, hσ⟩, L3, L, k1, k2, k3⟩ => ⟨⟨_, V.str (nsT TS)[i], SqL.of (L3.at hp1), by rw [List.getElem?_map, List.getElem?_eq_getElem hi]; rfl⟩, ?_⟩)
      (fun σ H3 ⟨⟨a3, a4, a5, a6, a7, a8, a9, a10, a11, hσ⟩, L3, L, k1, k2, k3⟩ => ⟨⟨_, SqL.of (L3.at hp1), by rw [List.length_map]; exact Nat.le_refl _⟩, ?_⟩)
    · subst hσ
      rintro v H4 ⟨t, y, rfl, ht, rfl, hy⟩
      obtain ⟨x, hx, rfl⟩ := GX.get_map (hy _ (SqL.of (L3.at hp1)))
      obtain ⟨u, hu1, hu2, hu3, hu4⟩ := gt.at (mem hx)
      refine ⟨t, _, rfl, SqT.of upd_same, rfl, _, _, rfl, _, _, rfl, rfl, ?_⟩
      have k1' : upd H3 t (.tup [.int (i : Nat), .str x]) f = some (.lst (refsL L)) := (upd_ne (ne_of_none k1 ht)).trans k1
      have k2' : isLinks (upd H3 t (.tup [.int (i : Nat), .str x])) L := fun z hz => (upd_ne (ne_of_none (k2 z hz) ht)).trans (k2 z hz)
      have L4 := L3.new (o := .tup [.int (i : Nat), .str x]) ht
      generalize upd H3 t (.tup [.int (i : Nat), .str x]) = H4 at L4 k1' k2'
      refine ⟨_, rfl, _, rfl, _, _, rfl, rfl, _, rfl, p, _, rfl, SqL.of (L4.at hp1), fun q hqn => ?_⟩
      rw [show ((i : Nat) : Int) + 1 = ((i + 1 : Nat) : Int) by omega, cutV_drop, ← List.map_drop]
      have hq5 : upd H4 q (.lst (((nsT TS).drop (i + 1)).map V.str)) q = some (.lst (((nsT TS).drop (i + 1)).map V.str)) := upd_same
      have k15 : upd H4 q (.lst (((nsT TS).drop (i + 1)).map V.str)) f = some (.lst (refsL L)) := (upd_ne (ne_of_none k1' hqn)).trans k1'
      have k25 : isLinks (upd H4 q (.lst (((nsT TS).drop (i + 1)).map V.str))) L := fun z hz => (upd_ne (ne_of_none (k2' z hz) hqn)).trans (k2' z hz)
      have L5 := L4.new (o := .lst (((nsT TS).drop (i + 1)).map V.str)) hqn
      have hqf : q ≠ f := fun z => by rw [z, k1'] at hqn; cases hqn
      have hq1 : H1 q = none := L4.no q hqn
      generalize upd H4 q (.lst (((nsT TS).drop (i + 1)).map V.str)) = H5 at L5 hq5 k15 k25
      refine ⟨q, rfl, ⟨_, SqL.of hq5⟩, ?_⟩
      -- the ground: all but found
      have LG : Le (T K) (hid H5 [f]) H5 := hid_le L5.tab
      have Gf : hid H5 [f] f = none := hid_no (by simp)
      have Gq : hid H5 [f] q = some (.lst (((nsT TS).drop (i + 1)).map V.str)) := hid_at hq5 (by simpa using hqf)
      have L1G : Le (T K) H1 (hid H5 [f]) := L5.hid (fun z hz => by rw [List.mem_singleton.mp hz]; exact hf1) (fun z hz o ho => by rw [List.mem_singleton.mp hz, k15] at ho; cases ho; trivial)
      generalize hid H5 [f] = G at LG Gf Gq L1G
      refine for_list (xs := ((nsT TS).drop (i + 1)).map V.str) (fun j σ H' => (∃ a5 a6 a7 a8 a9 a10 a11, σ = [some (.ref n), some (.ref p), some (.ref f), some (.int (i : Nat)), some (.str x), a5, a6, a7, a8, a9, a10, a11]) ∧ Le (T K) G H' ∧ ∃ L, H' f = some (.lst (refsL L)) ∧ isLinks H' L ∧ L.map (·.2) = linksT rs TS (nsT TS) i ++ rowLk rs TS x (((nsT TS).drop (i + 1)).take j))
        ⟨⟨_, _, _, _, _, _, _, rfl⟩, LG, L, k15, k25, by rw [k3]; exact (List.append_nil _).symm⟩ (fun j σ H' _ hP => SqL.of (hP.2.1.at Gq)) (fun j v σ H6 hv ⟨⟨a5, a6, a7, a8, a9, a10, a11, hσ⟩, L6, LL, m1, m2, m3⟩ => ?_) (fun σ H6 ⟨⟨a5, a6, a7, a8, a9, a10, a11, hσ⟩, L6, LL, m1, m2, m3⟩ => ?_)
      · subst hσ
        obtain ⟨y, hy6, rfl⟩ := GX.get_map hv
        have hyn : y ∈ nsT TS := List.mem_of_mem_drop (List.mem_of_getElem? hy6)
        obtain ⟨u2, hv1, hv2, hv3, hv4⟩ := gt.at (nsT_mem.mp hyn)
        have LA := (L1.trans L1G).trans L6
        have tow : ∀ {z : Str} {uu : Addr}, look TS z = some (uu, twOf TS z) → (z, uu, twOf TS z) ∈ TS → ∀ {H' : Hp}, Le (T K) G H' → DGet H' d (.str z) (some (.ref uu)) ∧ H' uu = some (.tup (tupT (twOf TS z))) := fun {z uu} h1 h2 {H'} l => ⟨dget_of (f := tV) (v := (uu, twOf TS z)) (((L1.trans L1G).trans l).at hd) h1, ((L1.trans L1G).trans l).at (hts _ h2)⟩
        obtain ⟨dxl, tl, hl1, hl2⟩ := id hl
        have nf : ∀ {H' : Hp}, Le (T K) G H' → H' n = some (.ins (aNt K) dx (netF l d)) := fun l' => ((L1.trans L1G).trans l').at hn
        have N6 := nf L6
        obtain ⟨d1, d2⟩ := tow hu1 hu4 L6
        obtain ⟨d3, d4⟩ := tow hv1 hv4 L6
        refine ⟨_, rfl, n, _, dx, _, _, rfl, N6, C.t.c_Net, C.t.a_Net_land, rfl, l, dxl, _, rfl, LA.at hl1, rfl, _, rfl, n, _, dx, _, _, rfl, N6, C.t.c_Net, C.t.a_Net_towers, rfl, _, rfl, d, _, rfl, d1, _, rfl, n, _, dx, _, _, rfl, N6, C.t.c_Net, C.t.a_Net_towers, rfl, _, rfl, d, _, rfl, d3, ?_⟩
        refine ⟨l, u, u2, rs, twOf TS x, twOf TS y, rfl, Le.land LA hl, g, LA.tab, SqT.of d2, SqT.of d4, fun _ _ H7 L7 => ?_, fun z => absurd ⟨hu2, hv2⟩ z⟩
        have L67 := L6.trans L7
        have m17 := L7.at m1
        have m27 : isLinks H7 LL := fun z hz => L7.at (m2 z hz)
        have erow : rowLk rs TS x (((nsT TS).drop (i + 1)).take (j + 1)) = rowLk rs TS x (((nsT TS).drop (i + 1)).take j) ++ (if seesB rs (twOf TS x) (twOf TS y) = true then [(x, y, farOf (twOf TS x) (twOf TS y))] else []) := by
          unfold rowLk
          rw [GX.take_snoc hy6, List.filter_append, List.map_append]
          by_cases e : seesB rs (twOf TS x) (twOf TS y) = true
          · rw [if_pos e, List.filter_cons_of_pos (by simpa using e)]; rfl
          · rw [if_neg e, List.filter_cons_of_neg (by simpa using e)]; rfl
        refine ⟨_, rfl, ?_⟩
        cases hse : seesB rs (twOf TS x) (twOf TS y) with
        | false =>
          rw [hse] at erow
          exact iteF ⟨⟨_, _, _, _, _, _, _, rfl⟩, L67, LL, m17, m27, by rw [erow]; simpa using m3⟩
        | true =>
          rw [hse, if_pos rfl] at erow
          have N7 := nf L67
          obtain ⟨d1, d2⟩ := tow hu1 hu4 L67
          obtain ⟨d3, d4⟩ := tow hv1 hv4 L67
          refine iteT ⟨_, rfl, n, _, dx, _, _, rfl, N7, C.t.c_Net, C.t.a_Net_towers, rfl, _, rfl, d, _, rfl, d1, _, rfl, n, _, dx, _, _, rfl, N7, C.t.c_Net, C.t.a_Net_towers, rfl, _, rfl, d, _, rfl, d3, by show 2 ≤ sizeLine; decide, fun w1 hw1 => ?_⟩
          have L8 := L67.new (o := .tup [.ref u, .ref u2]) hw1
          have m18 : upd H7 w1 (.tup [.ref u, .ref u2]) f = some (.lst (refsL LL)) := (upd_ne (ne_of_none m17 hw1)).trans m17
          have m28 : isLinks (upd H7 w1 (.tup [.ref u, .ref u2])) LL := fun z hz => (upd_ne (ne_of_none (m27 z hz) hw1)).trans (m27 z hz)
          obtain ⟨_, d28⟩ := tow hu1 hu4 L8
          obtain ⟨_, d48⟩ := tow hv1 hv4 L8
          refine ⟨w1, _, rfl, SqT.of upd_same, rfl, _, _, rfl, u, _, rfl, SqT.of d28, rfl, _, _, rfl, _, _, rfl, _, _, rfl, rfl, _, _, rfl, u2, _, rfl, SqT.of d48, rfl, _, _, rfl, _, _, rfl, _, _, rfl, rfl, rfl, ?_⟩
          generalize upd H7 w1 (.tup [.ref u, .ref u2]) = H8 at L8 m18 m28
          have bx : ∀ {z : Tw}, inT rs z → (0 ≤ z.1 ∧ z.1 < 64) ∧ 0 ≤ z.2.1 ∧ z.2.1 < 64 := fun {z} hz => by
            obtain ⟨⟨q1, q2⟩, q3, q4⟩ := hz
            have := g.h2
            have := g.w2
            omega
          obtain ⟨⟨b1, b2⟩, b3, b4⟩ := bx hu2
          obtain ⟨⟨b5, b6⟩, b7, b8⟩ := bx hv2
          refine ⟨_, rfl, .inl ⟨rfl, _, SqL.of m18⟩, _, rfl, _, rfl, _, rfl, _, rfl, _, _, rfl, rfl, _, rfl, _, rfl, _, _, rfl, rfl, _, _, rfl, rfl, .inl ⟨by omega, by omega⟩, _, rfl, _, rfl, _, _, rfl, rfl, _, rfl, _, rfl, _, _, rfl, rfl, _, _, rfl, rfl, .inl ⟨by omega, by omega⟩, _, _, rfl, rfl, by show 3 ≤ sizeLine; decide, fun w2 hw2 => ?_⟩
          have m19 : upd H8 w2 (.tup [.str x, .str y, .int (farOf (twOf TS x) (twOf TS y))]) f = some (.lst (refsL LL)) := (upd_ne (ne_of_none m18 hw2)).trans m18
          have m29 : isLinks (upd H8 w2 (.tup [.str x, .str y, .int (farOf (twOf TS x) (twOf TS y))])) LL := fun z hz => (upd_ne (ne_of_none (m28 z hz) hw2)).trans (m28 z hz)
          have hw9 : upd H8 w2 (.tup [.str x, .str y, .int (farOf (twOf TS x) (twOf TS y))]) w2 = some (.tup [.str x, .str y, .int (farOf (twOf TS x) (twOf TS y))]) := upd_same
          have L9 := L8.new (o := .tup [.str x, .str y, .int (farOf (twOf TS x) (twOf TS y))]) hw2
          have hfw : f ≠ w2 := ne_of_none m18 hw2
          refine ⟨f, _, _, rfl, rfl, m19, ?_, ?_⟩
          · have e := congrArg List.length m3
            rw [List.length_map, List.length_append] at e
            have h1 := linksT_len rs TS (nsT TS) i
            have h2 := rowLk_len rs TS x (((nsT TS).drop (i + 1)).take j)
            rw [List.length_take, List.length_drop] at h2
            have h3 : i * (nsT TS).length ≤ 64 * 64 := Nat.mul_le_mul (by omega) (by omega)
            unfold refsL
            rw [List.length_map]
            exact Nat.lt_of_lt_of_le (show LL.length < 8192 by omega) (by decide)
          · refine ⟨⟨_, _, _, _, _, _, _, rfl⟩, L9.set Gf m19, LL ++ [(w2, x, y, farOf (twOf TS x) (twOf TS y))], ?_, fun z hz => ?_, ?_⟩
            · rw [upd_same]
              unfold refsL
              rw [List.map_append]; rfl
            · rcases List.mem_append.mp hz with hz | hz
              · have := m29 z hz
                exact (upd_ne (fun q => by rw [q, m19] at this; cases this)).trans this
              · rw [List.mem_singleton.mp hz]
                exact (upd_ne (Ne.symm hfw)).trans hw9
            · rw [List.map_append, m3, erow, List.append_assoc]
              rfl
      · subst hσ
        rw [List.length_map, List.take_of_length_le (Nat.le_refl _)] at m3
        refine ⟨⟨_, _, _, _, _, _, _, _, _, rfl⟩, L1G.trans L6, LL, m1, m2, ?_⟩
        rw [m3, linksT_succ, show (nsT TS).getD i (S []) = x from getD_of hx]
    · subst hσ
      refine ⟨_, rfl, f, _, rfl, .inl ⟨SqL.of k1, fun t ht => ?_⟩⟩
      exact hq _ t L ((L1.trans L3).new ht) (L1.no t (L3.no t ht)) upd_same (fun x hx => (upd_ne (ne_of_none (k2 x hx) ht)).trans (k2 x hx)) k3
end
end K2

-- text K2J
set_option maxRecDepth 100000
set_option maxHeartbeats 4000000
namespace K2
open PySem PySem.Spec PyProof.Rows L2 LamX GX
section
variable {P : Program} {w : World} {K : PySem.W.Frag} {mg : Str → Option Value} {base : Heap}
/-! ### groups, cheapest, weak -/
abbrev lkT (rs : List (List Int)) (TS : TSt) : List Lk3 := linksL rs TS (nsT TS)
theorem lkT_mem {rs : List (List Int)} {TS : TSt} {k : Lk3} (h : k ∈ lkT rs TS) : k.1 ∈ nsT TS ∧ k.2.1 ∈ nsT TS := by
  unfold lkT linksL linksT at h
  obtain ⟨l, hl, hk⟩ := List.mem_flatten.mp h
  obtain ⟨i, hi, rfl⟩ := List.mem_map.mp hl
  have hi := List.mem_range.mp hi
  unfold rowLk at hk
  obtain ⟨y, hy, rfl⟩ := List.mem_map.mp hk
  refine ⟨?_, List.mem_of_mem_drop (List.mem_filter.mp hy).1⟩
  show (nsT TS).getD i (S []) ∈ nsT TS
  rw [List.getD_eq_getElem?_getD, List.getElem?_eq_getElem hi]
  exact List.getElem_mem hi
theorem lkT_len {rs : List (List Int)} {TS : TSt} (g : GoodT rs TS) : (lkT rs TS).length ≤ 900 := by
  have h := linksT_len rs TS (nsT TS) (nsT TS).length
  have h2 : (nsT TS).length * (nsT TS).length ≤ 30 * 30 := Nat.mul_le_mul (by rw [nsT_len]; exact g.l) (by rw [nsT_len]; exact g.l)
  exact Nat.le_trans h h2
theorem lkT_ok {rs : List (List Int)} {TS : TSt} (g : GoodT rs TS) : okL (lkT rs TS) := fun k hk => by
  obtain ⟨h1, h2⟩ := lkT_mem hk
  obtain ⟨_, _, _, o1, _⟩ := g.at (nsT_mem.mp h1)
  obtain ⟨_, _, _, o2, _⟩ := g.at (nsT_mem.mp h2)
  exact ⟨o1, o2⟩
theorem nsT_ok {rs : List (List Int)} {TS : TSt} (g : GoodT rs TS) {n : Str} (h : n ∈ nsT TS) : okT n := (g.at (nsT_mem.mp h)).choose_spec.2.2.1
def refsS (R : List (Addr × List Str)) : List V := R.map fun x => V.ref x.1
def spGroups (K : PySem.W.Frag) : Sp := fun vs H Q E => ∃ (n l d : Addr) (rs : List (List Int)) (TS : TSt), vs = [.ref n] ∧ isNet K H n l d TS ∧ isLand K H l rs ∧ GoodL rs ∧ GoodT rs TS ∧ Tabs (T K) H ∧
  ∀ H' t R, Le (T K) H H' → H t = none → H' t = some (.tup (refsS R)) → isRowsS H' R → R.map (·.2) = joinedL (nsT TS) (lkT rs TS) → Q (.ref t) H'
theorem ok_groups (C : Ctx K mg base) : MetX P w K mg base 5 (aNt K) "groups" ["self"] (spGroups K) := by
  obtain ⟨fd, F⟩ := C.d.d_Net_groups
  refine ⟨_, fd, ?_, F.funD.bindsN fun _ _ _ _ _ _ us hl => (match us, hl with | [_], _ => rfl), C.t.t_Net_groups, C.t.c_Net⟩
  refine F.ok sc_Net_groups (fun vs H Q E h => ?_) (fun A outer s H vs Q E hr h => ?_)
  · obtain ⟨n, l, d, rs, TS, rfl, _⟩ := h
    rfl
  · obtain ⟨n, l, d, rs, TS, rfl, hnet, hl, g, gt, hT, hq⟩ := h
    obtain ⟨⟨dx, hn⟩, hd, hts⟩ := id hnet
    obtain ⟨fL, fdL, FL, bL, mL, cL⟩ := ok_links (P := P) (w := w) C
    refine ⟨_, pss_one (ps_ret (pe_cx (ok_joined (P := P) (w := w) C) hr (by decide) rfl passA (pa_cons (pe_callB (call_sortedD rfl) (by rfl) C.t.b_sorted (by decide +kernel) (pa_cons (pe_fld (pv 0) rfl) pa_nil)) (pa_cons (pe_meth0 (pv 0) cL mL FL hr bL .nil passA) pa_nil)))), ?_⟩
    refine ⟨_, rfl, n, _, dx, _, _, rfl, hn, C.t.c_Net, C.t.a_Net_towers, rfl, d, _, TS.map (·.1), rfl, sorted_towers hd, ents_keys _ _, by rw [List.length_map]; have := gt.l; omega, fun ys p hp hs hpn => ?_⟩
    have eys := sortS_is hp hs
    subst eys
    have L1 := (Le.refl hT).new (o := .lst ((nsT TS).map V.str)) hpn
    have hp1 : upd H p (.lst ((nsT TS).map V.str)) p = some (.lst ((nsT TS).map V.str)) := upd_same
    refine ⟨_, rfl, n, dx, _, rfl, L1.at hn, rfl, n, l, d, rs, TS, rfl, Le.net L1 hnet, Le.land L1 hl, g, gt, L1.tab, fun H2 t L L2 ht ht2 hL e => ?_⟩
    refine ⟨p, t, nsT TS, L, rfl, SqL.of (L2.at hp1), .inr (SqT.of ht2), hL, L2.tab, by rw [nsT_len]; have := gt.l; omega, ?_, fun z hz => nsT_ok gt hz, by rw [e]; exact lkT_ok gt, fun H3 t3 R L3 ht3 h3 hR eR => ?_⟩
    · have e1 := congrArg List.length e
      rw [List.length_map] at e1
      have e2 : (linksL rs TS (nsT TS)).length ≤ 900 := lkT_len gt
      omega
    · exact hq H3 t3 R ((L1.trans L2).trans L3) (L1.no t3 (L2.no t3 ht3)) h3 hR (by rw [eR, e])
/-- the nearest first, then by names -/
def lsort (ls : List Lk3) : List Lk3 := ls.mergeSort (PySem.W.dataLe false lkKey)
theorem lsort_perm (ls : List Lk3) : (lsort ls).Perm ls := List.mergeSort_perm _ _
/-- whether a row holds both ends -/
def bothIn (rows : List (List Str)) (l : Lk3) : Bool := rows.any fun row => decide (l.1 ∈ row) && decide (l.2.1 ∈ row)
def kru (ns : List Str) : List Lk3 → List Lk3 → List Lk3
  | found, [] => found
  | found, l :: r => if bothIn (joinedL ns found) l = true then kru ns found r else kru ns (found ++ [l]) r
theorem kru_snoc (ns : List Str) (l : Lk3) : ∀ (xs found : List Lk3), kru ns found (xs ++ [l]) = if bothIn (joinedL ns (kru ns found xs)) l = true then kru ns found xs else kru ns found xs ++ [l]
  | [], found => by
    show kru ns found [l] = _
    unfold kru
    rfl
  | x :: r, found => by
    show kru ns found (x :: (r ++ [l])) = _
    unfold kru
    by_cases h : bothIn (joinedL ns found) x = true
    · rw [if_pos h, if_pos h, kru_snoc ns l r found]
    · rw [if_neg h, if_neg h, kru_snoc ns l r (found ++ [x])]
theorem kru_sub (ns : List Str) : ∀ (xs found : List Lk3) (k : Lk3), k ∈ kru ns found xs → k ∈ found ∨ k ∈ xs
  | [], found, k, h => .inl h
  | x :: r, found, k, h => by
    unfold kru at h
    by_cases e : bothIn (joinedL ns found) x = true
    · rw [if_pos e] at h
      exact (kru_sub ns r found k h).imp id (List.mem_cons_of_mem _)
    · rw [if_neg e] at h
      rcases kru_sub ns r _ k h with z | z
      · rcases List.mem_append.mp z with z | z
        · exact .inl z
        · rw [List.mem_singleton.mp z]; exact .inr List.mem_cons_self
      · exact .inr (List.mem_cons_of_mem _ z)
theorem kru_len (ns : List Str) : ∀ (xs found : List Lk3), (kru ns found xs).length ≤ found.length + xs.length
  | [], found => Nat.le_refl _
  | x :: r, found => by
    unfold kru
    by_cases e : bothIn (joinedL ns found) x = true
    · rw [if_pos e]
      have := kru_len ns r found
      rw [List.length_cons]; omega
    · rw [if_neg e]
      have := kru_len ns r (found ++ [x])
      rw [List.length_append, List.length_singleton] at this
      rw [List.length_cons]; omega
def spCheap (K : PySem.W.Frag) : Sp := fun vs H Q E => ∃ (n l d : Addr) (rs : List (List Int)) (TS : TSt), vs = [.ref n] ∧ isNet K H n l d TS ∧ isLand K H l rs ∧ GoodL rs ∧ GoodT rs TS ∧ Tabs (T K) H ∧
  ∀ H' t L, Le (T K) H H' → H t = none → H' t = some (.tup (refsL L)) → isLinks H' L → L.map (·.2) = kru (nsT TS) [] (lsort (lkT rs TS)) → Q (.ref t) H'
theorem key3 (C : Ctx K mg base) : Key3 K (He.ga K "link_key") "link_key" "link" (defScope s_link_key) (defBody s_link_key) := by
  obtain ⟨fd, F⟩ := C.d.d_link_key
  have b := F.funD.bindsN (ps := ["link"]) fun _ _ _ _ _ _ us hl => (match us, hl with | [_], _ => rfl)
  obtain ⟨oc, od, dV, kV, doc, pm, an, ct, osl, e, lk, hcd, hd, hk⟩ := F.ex
  subst e
  exact ⟨⟨_, _, _, _, _, _, _, _, _, _, _, lk, hcd, b⟩, sc_link_key, rfl, by decide, ⟨_, _, _, _, _, _, _, _, _, _, _, _, _, _, _, rfl⟩⟩
def spLKey : Sp := fun vs H Q _ => ∃ (t : Addr) (k : Lk3), vs = [.ref t] ∧ H t = some (.tup [.str k.1, .str k.2.1, .int k.2.2]) ∧ ∀ p, H p = none → Q (.ref p) (upd H p (.tup [.int k.2.2, .str k.1, .str k.2.1]))
theorem ok_lkey (C : Ctx K mg base) : CalX P w K mg base 1 "link_key" ["link"] spLKey := by
  obtain ⟨fd, F⟩ := C.d.d_link_key
  refine ⟨_, fd, ?_, F.funD.bindsN fun _ _ _ _ _ _ us hl => (match us, hl with | [_], _ => rfl), F.kp, C.t.m_link_key⟩
  refine F.ok sc_link_key (fun vs H Q E h => ?_) (fun A outer s H vs Q E hr h => ?_)
  · obtain ⟨t, k, rfl, _⟩ := h
    rfl
  · obtain ⟨t, k, rfl, ht, hq⟩ := h
    refine ⟨_, pss_one (ps_ret (pe_tup (pa_cons (pe_ix ix_tup (pv 0) pe_int (fun _ _ => rfl)) (pa_cons (pe_ix ix_tup (pv 0) pe_int (fun _ _ => rfl)) (pa_cons (pe_ix ix_tup (pv 0) pe_int (fun _ _ => rfl)) pa_nil))))), ?_⟩
    exact ⟨_, rfl, t, _, _, _, rfl, rfl, SqT.of ht, atI_nat (j := 2) rfl, _, rfl, t, _, _, _, rfl, rfl, SqT.of ht, atI_nat (j := 0) rfl, _, rfl, t, _, _, _, rfl, rfl, SqT.of ht, atI_nat (j := 1) rfl, by show 3 ≤ sizeLine; decide, hq⟩
theorem ok_cheap (C : Ctx K mg base) : MetX P w K mg base 5 (aNt K) "cheapest" ["self"] (spCheap K) := by
  obtain ⟨fd, F⟩ := C.d.d_Net_cheapest
  refine ⟨_, fd, ?_, F.funD.bindsN fun _ _ _ _ _ _ us hl => (match us, hl with | [_], _ => rfl), C.t.t_Net_cheapest, C.t.c_Net⟩
  refine F.ok sc_Net_cheapest (fun vs H Q E h => ?_) (fun A outer s H vs Q E hr h => ?_)
  · obtain ⟨n, l, d, rs, TS, rfl, _⟩ := h
    rfl
  · obtain ⟨n, l, d, rs, TS, rfl, hnet, hl, g, gt, hT, hq⟩ := h
    obtain ⟨⟨dx, hn⟩, hd, hts⟩ := id hnet
    have nn := sc_Net_cheapest.nd
    obtain ⟨fL, fdL, FL, bL, mL, cL⟩ := ok_links (P := P) (w := w) C
    refine ⟨_, pss_cons (ps_set (i := 1) nn rfl (by first | exact Or.inl rfl | exact Or.inr rfl) (pe_lst pa_nil))
      (pss_cons (ps_for ownsA rfl (pi_list (pe_callBK (cr_sort3 (key3 C) (hr.mono (by decide))) (by rfl) C.t.b_sorted (by decide +kernel) (pa_cons (pe_meth0 (pv 0) cL mL FL hr bL .nil passA) pa_nil) (pk_cons (pe_glob (by rfl) C.t.m_link_key (v := .ref (He.ga K "link_key")) rfl) pk_nil))) (pg_tup rfl (pgs_cons (pg_name (i := 2) nn rfl (by first | exact Or.inl rfl | exact Or.inr rfl)) (pgs_cons (pg_name (i := 3) nn rfl (by first | exact Or.inl rfl | exact Or.inr rfl)) (pgs_cons (pg_name (i := 4) nn rfl (by first | exact Or.inl rfl | exact Or.inr rfl)) pgs_nil))))
        (pss_cons (ps_set (i := 5) nn rfl (by first | exact Or.inl rfl | exact Or.inr rfl) (pe_cx (ok_joined (P := P) (w := w) C) hr (by decide) rfl passA (pa_cons (pe_callB (call_sortedD rfl) (by rfl) C.t.b_sorted (by decide +kernel) (pa_cons (pe_fld (pv 0) rfl) pa_nil)) (pa_cons (pv 1) pa_nil))))
        (pss_one (ps_if (pt_not (pt_val (pe_genAny (T := T K) (own := [("row", 6)]) (g := gName 6) hr rfl C.t.b_any nn (C.b _ (tf_mem 3)) rfl (T_mem 3) (T_uniq C.u 3) (pi_tup (pv 5)) (gsc_by (blkOk_by (N := n_Net_cheapest) (sc := defScope s_Net_cheapest) (by decide +kernel)) (by decide +kernel))
              (fun _ _ _ _ _ => (pg_name (i := 6) nn rfl (by first | exact Or.inl rfl | exact Or.inr rfl))) (fun _ _ _ _ _ hrk => pe_and (pe_cmpR (r := rIn K false) op_in_seq (pv 2) (pv 6) rfl) (pe_one (pe_cmpR (r := rIn K false) op_in_seq (pv 3) (pv 6) rfl))))))
          (pss_one (ps_expr (pe_bm PySem.F.plainAttrs_list PySem.F.slot_list_append PySem.F.type_list_append mt_append (pv 1) (pa_cons (pe_tup (pa_cons (pv 2) (pa_cons (pv 3) (pa_cons (pv 4) pa_nil)))) pa_nil)))) pss_nil))))
      (pss_one (ps_ret (pe_callTy call_tuple_of (by rfl) C.t.b_tuple (by decide +kernel) (pa_cons (pv 1) pa_nil))))), ?_⟩
    refine ⟨by show 0 ≤ sizeLine; decide, fun f hf => ?_⟩
    have L1 := (Le.refl hT).new (o := .lst []) hf
    have hf1 : upd H f (.lst []) f = some (.lst (refsL [])) := upd_same
    generalize upd H f (.lst []) = H1 at L1 hf1
    have nl := nsT_len (TS := TS)
    have g64 := gt.l
    refine ⟨_, rfl, n, dx, _, rfl, L1.at hn, rfl, n, l, d, rs, TS, rfl, Le.net L1 hnet, Le.land L1 hl, g, gt, L1.tab, fun H2 t L L2 ht1 ht hL e => ?_⟩
    have hf2 := L2.at hf1
    refine ⟨t, L, rfl, rfl, .inr (SqT.of ht), hL, fun q hqn => ?_⟩
    -- the sorted list of links
    generalize hSL : L.mergeSort (PySem.W.dataLe false fun x : Addr × Lk3 => lkKey x.2) = SL
    have eSL : SL.map (·.2) = lsort (lkT rs TS) := by
      rw [← hSL]
      refine (List.map_mergeSort (r := PySem.W.dataLe false fun x : Addr × Lk3 => lkKey x.2) (s := PySem.W.dataLe false lkKey) (f := fun x : Addr × Lk3 => x.2) (fun a _ b _ => rfl)).trans ?_
      rw [e]
      rfl
    have mSL : ∀ x ∈ SL, H2 x.1 = some (.tup [.str x.2.1, .str x.2.2.1, .int x.2.2.2]) := fun x hx => hL x ((hSL ▸ List.mergeSort_perm _ _ : SL.Perm L).mem_iff.mp hx)
    have lSL : SL.length ≤ 900 := by
      have e1 := congrArg List.length eSL
      rw [List.length_map, (lsort_perm _).length_eq] at e1
      have := lkT_len gt
      omega
    clear hSL hL ht ht1
    have L2' := (L1.trans L2).new (o := .lst (SL.map fun x => V.ref x.1)) hqn
    have hq1 : upd H2 q (.lst (SL.map fun x => V.ref x.1)) q = some (.lst (SL.map fun x => V.ref x.1)) := upd_same
    have hf2' : upd H2 q (.lst (SL.map fun x => V.ref x.1)) f = some (.lst (refsL [])) := (upd_ne (ne_of_none hf2 hqn)).trans hf2
    have mSL' : ∀ x ∈ SL, upd H2 q (.lst (SL.map fun x => V.ref x.1)) x.1 = some (.tup [.str x.2.1, .str x.2.2.1, .int x.2.2.2]) := fun x hx => (upd_ne (ne_of_none (mSL x hx) hqn)).trans (mSL x hx)
    have hqf : q ≠ f := (ne_of_none hf2 hqn).symm
    clear mSL hf2 hqn L2
    generalize upd H2 q (.lst (SL.map fun x => V.ref x.1)) = H3 at L2' hq1 hf2' mSL'
    -- the ground: all but found
    have LG : Le (T K) (hid H3 [f]) H3 := hid_le L2'.tab
    have Gf : hid H3 [f] f = none := hid_no (by simp)
    have Gq : hid H3 [f] q = some (.lst (SL.map fun x => V.ref x.1)) := hid_at hq1 (by simpa using hqf)
    have Gm : ∀ x ∈ SL, hid H3 [f] x.1 = some (.tup [.str x.2.1, .str x.2.2.1, .int x.2.2.2]) := fun x hx => hid_at (mSL' x hx) (by
      have := mSL' x hx
      simp only [List.mem_cons, List.not_mem_nil, or_false]
      intro z
      rw [z, hf2'] at this; cases this)
    have LHG : Le (T K) H (hid H3 [f]) := L2'.hid (fun z hz => by rw [List.mem_singleton.mp hz]; exact hf) (fun z hz o ho => by rw [List.mem_singleton.mp hz, hf2'] at ho; cases ho; trivial)
    generalize hid H3 [f] = G at LG Gf Gq Gm LHG

    refine ⟨q, rfl, ⟨_, SqL.of hq1⟩, ?_⟩
    refine for_list (xs := SL.map fun x => V.ref x.1) (fun j σ H' => (∃ a2 a3 a4 a5 a6, σ = [some (.ref n), some (.ref f), a2, a3, a4, a5, a6]) ∧ Le (T K) G H' ∧ ∃ F, H' f = some (.lst (refsL F)) ∧ isLinks H' F ∧ F.map (·.2) = kru (nsT TS) [] ((SL.take j).map (·.2)))
        ⟨⟨_, _, _, _, _, rfl⟩, LG, [], hf2', (fun x hx => by cases hx), rfl⟩ (fun j σ H' _ hP => SqL.of (hP.2.1.at Gq)) (fun j v σ H6 hv ⟨⟨a2, a3, a4, a5, a6, hσ⟩, L6, F, m1, m2, m3⟩ => ?_) (fun σ H6 ⟨⟨a2, a3, a4, a5, a6, hσ⟩, L6, F, m1, m2, m3⟩ => ?_)
    · subst hσ
      obtain ⟨x, hx, rfl⟩ := GX.get_map hv
      have hxm := List.mem_of_getElem? hx
      have LA := LHG.trans L6
      have eF : F.map (·.2) = kru (nsT TS) [] ((SL.take j).map (·.2)) := m3
      have enext : kru (nsT TS) [] ((SL.take (j + 1)).map (·.2)) = if bothIn (joinedL (nsT TS) (F.map (·.2))) x.2 = true then F.map (·.2) else F.map (·.2) ++ [x.2] := by
        rw [GX.take_snoc hx, List.map_append, eF]
        exact kru_snoc _ _ _ _
      have lF : F.length ≤ 900 := by
        have e1 := congrArg List.length eF
        have e2 := kru_len (nsT TS) ((SL.take j).map (·.2)) []
        rw [List.length_map] at e1
        rw [List.length_map, List.length_take, List.length_nil] at e2
        omega
      have okF : okL (F.map (·.2)) := fun k hk => by
        rw [eF] at hk
        rcases kru_sub _ _ _ _ hk with z | z
        · cases z
        · have : k ∈ lsort (lkT rs TS) := by
            rw [← eSL]
            obtain ⟨y, hy, rfl⟩ := List.mem_map.mp z
            exact List.mem_map.mpr ⟨y, List.mem_of_mem_take hy, rfl⟩
          exact lkT_ok gt k ((lsort_perm _).mem_iff.mp this)
      refine ⟨x.1, _, rfl, SqT.of (L6.at (Gm x hxm)), rfl, _, _, rfl, _, _, rfl, _, _, rfl, rfl, ?_⟩
      refine ⟨_, rfl, n, _, dx, _, _, rfl, LA.at hn, C.t.c_Net, C.t.a_Net_towers, rfl, d, _, TS.map (·.1), rfl, sorted_towers (LA.at hd), ents_keys _ _, by rw [List.length_map]; omega, fun ys p hp hs hpn => ?_⟩
      have eys := sortS_is hp hs
      subst eys
      have hns : sortS (TS.map (·.1)) = nsT TS := rfl
      rw [hns]
      have L7 := L6.new (o := .lst ((nsT TS).map V.str)) hpn
      have hp7 : upd H6 p (.lst ((nsT TS).map V.str)) p = some (.lst ((nsT TS).map V.str)) := upd_same
      have m17 : upd H6 p (.lst ((nsT TS).map V.str)) f = some (.lst (refsL F)) := (upd_ne (ne_of_none m1 hpn)).trans m1
      have m27 : isLinks (upd H6 p (.lst ((nsT TS).map V.str))) F := fun z hz => (upd_ne (ne_of_none (m2 z hz) hpn)).trans (m2 z hz)
      generalize upd H6 p (.lst ((nsT TS).map V.str)) = H7 at L7 hp7 m17 m27
      refine ⟨_, rfl, p, f, nsT TS, F, rfl, SqL.of hp7, .inl (SqL.of m17), m27, L7.tab, by omega, by omega, fun z hz => nsT_ok gt hz, okF, fun H8 t R L8 ht8 h8 hR eR => ?_⟩
      have m18 := L8.at m17
      have m28 : isLinks H8 F := fun z hz => L8.at (m27 z hz)
      have LL := L7.trans L8
      refine ⟨_, rfl, t, rfl, ⟨_, SqT.of h8⟩, LL.tab, ?_⟩
      have hb : bothIn (joinedL (nsT TS) (F.map (·.2))) x.2 = R.any fun y => decide (x.2.1 ∈ y.2) && decide (x.2.2.1 ∈ y.2) := by
        rw [← eR]
        unfold bothIn
        rw [List.any_map]
        rfl
      refine genAny_tup (pb := fun j => match R[j]? with
        | some y => decide (x.2.1 ∈ y.2) && decide (x.2.2.1 ∈ y.2)
        | none => false) (xs := R.map fun x : Addr × List Str => V.ref x.1) (SqT.of h8) (fun j1 v H9 hv9 h09 L9 => ?_) (fun H9 L9 hnone => ?_)
      · obtain ⟨y, hy, rfl⟩ := GX.get_map hv9
        have hyr := L9.at (hR y (List.mem_of_getElem? hy))
        refine ⟨rfl, ?_⟩
        have L89 := LL.trans L9
        have m19 := L9.at m18
        have m29 : isLinks H9 F := fun z hz => L9.at (m28 z hz)
        have tr : (decide (x.2.1 ∈ y.2) && decide (x.2.2.1 ∈ y.2)) = true → F.map (·.2) = kru (nsT TS) [] ((SL.take (j + 1)).map (·.2)) := fun q => by
          rw [enext, hb, if_pos (List.any_eq_true.mpr ⟨y, List.mem_of_getElem? hy, q⟩)]
        refine ⟨_, rfl, _, rfl, y.1, _, rfl, .inr (SqT.of hyr), rfl, flat_strs _, _, rfl, ?_⟩
        show (if inV (.str x.2.1) (y.2.map V.str) = true then _ else _)
        rw [inV_strs]
        by_cases q1 : x.2.1 ∈ y.2
        · rw [decide_eq_true q1]
          refine iteT ⟨_, rfl, _, rfl, y.1, _, rfl, .inr (SqT.of hyr), rfl, flat_strs _, _, rfl, ?_⟩
          refine any_close (show inV (.str x.2.2.1) (y.2.map V.str) = _ by rw [inV_strs, hy]; show _ = (decide _ && decide _); rw [decide_eq_true q1, Bool.true_and]) h09 L9 fun q => ⟨_, rfl, iteF ⟨⟨_, _, _, _, _, rfl⟩, L89, F, m19, m29, tr ?_⟩⟩
          rw [hy] at q
          exact q
        · rw [decide_eq_false q1]
          refine iteF ⟨_, rfl, any_close (show false = _ by rw [hy]; show _ = (decide _ && decide _); rw [decide_eq_false q1, Bool.false_and]) h09 L9 fun q => ?_⟩
          rw [hy] at q
          exact absurd (show (decide (x.2.1 ∈ y.2) && decide (x.2.2.1 ∈ y.2)) = true from q) (by rw [decide_eq_false q1, Bool.false_and]; exact Bool.false_ne_true)
      · have L89 := LL.trans L9
        have m19 := L9.at m18
        have m29 : isLinks H9 F := fun z hz => L9.at (m28 z hz)
        have no : bothIn (joinedL (nsT TS) (F.map (·.2))) x.2 = false := by
          rw [hb]
          refine Bool.eq_false_iff.mpr fun q => ?_
          obtain ⟨y, hy, q⟩ := List.any_eq_true.mp q
          obtain ⟨m, hm, he⟩ := List.mem_iff_getElem.mp hy
          have := hnone m (by rw [List.length_map]; exact hm)
          rw [List.getElem?_eq_getElem hm, he] at this
          simp only [q] at this
          cases this
        rw [no] at enext
        refine ⟨_, rfl, iteT ⟨_, rfl, .inl ⟨rfl, _, SqL.of m19⟩, _, rfl, _, rfl, _, rfl, by show 3 ≤ sizeLine; decide, fun w2 hw2 => ?_⟩⟩
        have m1a : upd H9 w2 (.tup [.str x.2.1, .str x.2.2.1, .int x.2.2.2]) f = some (.lst (refsL F)) := (upd_ne (ne_of_none m19 hw2)).trans m19
        have m2a : isLinks (upd H9 w2 (.tup [.str x.2.1, .str x.2.2.1, .int x.2.2.2])) F := fun z hz => (upd_ne (ne_of_none (m29 z hz) hw2)).trans (m29 z hz)
        have hwa : upd H9 w2 (.tup [.str x.2.1, .str x.2.2.1, .int x.2.2.2]) w2 = some (.tup [.str x.2.1, .str x.2.2.1, .int x.2.2.2]) := upd_same
        have La := L89.new (o := .tup [.str x.2.1, .str x.2.2.1, .int x.2.2.2]) hw2
        have hfw : f ≠ w2 := ne_of_none m19 hw2
        refine ⟨f, _, _, rfl, rfl, m1a, ?_, ⟨_, _, _, _, _, rfl⟩, La.set Gf m1a, F ++ [(w2, x.2)], ?_, fun z hz => ?_, ?_⟩
        · unfold refsL
          rw [List.length_map]
          exact Nat.lt_of_lt_of_le (show F.length < 8192 by omega) (by decide)
        · rw [upd_same]
          unfold refsL
          rw [List.map_append]; rfl
        · rcases List.mem_append.mp hz with hz | hz
          · have := m2a z hz
            exact (upd_ne (fun q => by rw [q, m1a] at this; cases this)).trans this
          · rw [List.mem_singleton.mp hz]
            exact (upd_ne (Ne.symm hfw)).trans hwa
        · rw [List.map_append, enext]
          rfl
    · subst hσ
      rw [List.take_of_length_le (by simp), eSL] at m3
      refine ⟨_, rfl, f, _, rfl, .inl ⟨SqL.of m1, fun t ht => ?_⟩⟩
      exact hq _ t F ((LHG.trans L6).new ht) (LHG.no t (L6.no t ht)) upd_same (fun x hx => (upd_ne (ne_of_none (m2 x hx) ht)).trans (m2 x hx)) m3
end
end K2

-- text K2Ma
set_option maxRecDepth 100000
set_option maxHeartbeats 4000000
namespace K2
open PySem PySem.Spec PyProof.Rows L2 LamX GX
section
variable {P : Program} {w : World} {K : PySem.W.Frag} {mg : Str → Option Value} {base : Heap}
/-! ### what hangs together -/
def Adj (ls : List Lk3) (a b : Str) : Prop := ∃ l ∈ ls, (l.1 = a ∧ l.2.1 = b) ∨ (l.1 = b ∧ l.2.1 = a)
inductive Con (ls : List Lk3) : Str → Str → Prop
  | refl (a : Str) : Con ls a a
  | tail {a b c : Str} : Con ls a b → Adj ls b c → Con ls a c
theorem Adj.symm {ls : List Lk3} {a b : Str} : Adj ls a b → Adj ls b a := fun ⟨l, h, z⟩ => ⟨l, h, z.symm⟩
theorem Con.one {ls : List Lk3} {a b : Str} (h : Adj ls a b) : Con ls a b := .tail (.refl a) h
theorem Con.trans {ls : List Lk3} {a b c : Str} (h : Con ls a b) (k : Con ls b c) : Con ls a c := by
  induction k with
  | refl => exact h
  | tail _ z ih => exact .tail ih z
theorem Con.symm {ls : List Lk3} {a b : Str} (h : Con ls a b) : Con ls b a := by
  induction h with
  | refl => exact .refl _
  | tail _ z ih => exact (Con.one z.symm).trans ih
theorem Con.link {ls : List Lk3} {l : Lk3} (h : l ∈ ls) : Con ls l.1 l.2.1 := .one ⟨l, h, .inl ⟨rfl, rfl⟩⟩
theorem Con.mono {ls ms : List Lk3} (h : ∀ l ∈ ls, Con ms l.1 l.2.1) {a b : Str} (k : Con ls a b) : Con ms a b := by
  induction k with
  | refl => exact .refl _
  | tail _ z ih =>
    obtain ⟨l, hl, ⟨rfl, rfl⟩ | ⟨rfl, rfl⟩⟩ := z
    · exact ih.trans (h l hl)
    · exact ih.trans (h l hl).symm
theorem Con.sub {ls ms : List Lk3} (h : ∀ l ∈ ls, l ∈ ms) {a b : Str} (k : Con ls a b) : Con ms a b := k.mono fun l hl => .link (h l hl)
/-- a set closed under one link is closed under all -/
theorem Con.cl {ls : List Lk3} {P : Str → Prop} (h : ∀ a b, P a → Adj ls a b → P b) {a b : Str} (k : Con ls a b) (ha : P a) : P b := by
  induction k with
  | refl => exact ha
  | tail _ z ih => exact h _ _ ih z
theorem mem_nb {ls : List Lk3} {h z : Str} : Adj ls h z ↔ z ∈ nb1 ls h ∨ z ∈ nb2 ls h := by
  unfold nb1 nb2 Adj
  simp only [List.mem_map, List.mem_filter, decide_eq_true_eq]
  constructor
  · rintro ⟨l, hl, ⟨e1, e2⟩ | ⟨e1, e2⟩⟩
    · exact .inl ⟨l, ⟨hl, e1⟩, e2⟩
    · exact .inr ⟨l, ⟨hl, e2⟩, e1⟩
  · rintro (⟨l, ⟨hl, e1⟩, e2⟩ | ⟨l, ⟨hl, e1⟩, e2⟩)
    · exact ⟨l, hl, .inl ⟨e1, e2⟩⟩
    · exact ⟨l, hl, .inr ⟨e2, e1⟩⟩
theorem dfs_ind (ls : List Lk3) {P : List Str → List Str → List Str → Prop} (h0 : ∀ left row, P left row [])
    (h1 : ∀ left row edge x, x ∈ left → P (left.erase x) (row ++ [x]) (edge ++ nb1 ls x ++ nb2 ls x) → P left row (edge ++ [x]))
    (h2 : ∀ left row edge x, x ∉ left → P left row edge → P left row (edge ++ [x])) : ∀ left row edge, P left row edge := by
  intro left row edge
  induction left, row, edge using dfs.induct (ls := ls) with
  | case1 left row edge h =>
    have : edge = [] := List.getLast?_eq_none_iff.mp h
    subst this
    exact h0 _ _
  | case2 left row edge x h hx ih =>
    obtain ⟨ys, rfl⟩ := List.getLast?_eq_some_iff.mp h
    rw [List.dropLast_concat] at ih
    exact h1 _ _ _ _ hx ih
  | case3 left row edge x h hx ih =>
    obtain ⟨ys, rfl⟩ := List.getLast?_eq_some_iff.mp h
    rw [List.dropLast_concat] at ih
    exact h2 _ _ _ _ hx ih
theorem dfs_perm (ls : List Lk3) : ∀ left row edge, ((dfs ls left row edge).1 ++ (dfs ls left row edge).2).Perm (left ++ row) := by
  refine dfs_ind ls (fun left row => by rw [dfs_nil]) (fun left row edge x hx ih => ?_) (fun left row edge x hx ih => ?_)
  · rw [dfs_snoc, if_pos hx]
    refine ih.trans ?_
    rw [← List.append_assoc]
    refine List.perm_append_comm.trans ?_
    show (x :: (left.erase x ++ row)).Perm _
    exact (List.perm_cons_erase hx).symm.append_right row
  · rw [dfs_snoc, if_neg hx]; exact ih
theorem dfs_sub (ls : List Lk3) : ∀ left row edge, (dfs ls left row edge).1.Sublist left := by
  refine dfs_ind ls (fun left row => by rw [dfs_nil]; exact List.Sublist.refl _) (fun left row edge x hx ih => ?_) (fun left row edge x hx ih => ?_)
  · rw [dfs_snoc, if_pos hx]
    exact ih.trans List.erase_sublist
  · rw [dfs_snoc, if_neg hx]; exact ih
theorem dfs_inv (ls : List Lk3) (x0 : Str) : ∀ left row edge, left.Nodup → (∀ y ∈ row, Con ls x0 y) → (∀ y ∈ edge, Con ls x0 y) → (∀ y ∈ row, ∀ z, Adj ls y z → z ∈ edge ∨ z ∉ left) →
    (∀ y ∈ (dfs ls left row edge).2, Con ls x0 y) ∧ ∀ y ∈ (dfs ls left row edge).2, ∀ z, Adj ls y z → z ∉ (dfs ls left row edge).1 := by
  refine dfs_ind ls (fun left row nd h1 _ h3 => ?_) (fun left row edge x hx ih nd h1 h2 h3 => ?_) (fun left row edge x hx ih nd h1 h2 h3 => ?_)
  · rw [dfs_nil]
    exact ⟨h1, fun y hy z hz => (h3 y hy z hz).resolve_left (by simp)⟩
  · rw [dfs_snoc, if_pos hx]
    have hx0 : Con ls x0 x := h2 x (by simp)
    refine ih (nd.erase x) (fun y hy => ?_) (fun y hy => ?_) (fun y hy z hz => ?_)
    · rcases List.mem_append.mp hy with hy | hy
      · exact h1 y hy
      · rw [List.mem_singleton.mp hy]; exact hx0
    · rw [List.append_assoc] at hy
      rcases List.mem_append.mp hy with hy | hy
      · exact h2 y (List.mem_append_left _ hy)
      · exact hx0.tail (mem_nb.mpr (List.mem_append.mp hy))
    · rcases List.mem_append.mp hy with hy | hy
      · rcases h3 y hy z hz with q | q
        · rcases List.mem_append.mp q with q | q
          · exact .inl (List.mem_append_left _ (List.mem_append_left _ q))
          · rw [List.mem_singleton.mp q]
            exact .inr fun w => by
              have := (nd.mem_erase_iff).mp w
              exact this.1 rfl
        · exact .inr fun w => q (List.mem_of_mem_erase w)
      · rw [List.mem_singleton.mp hy] at hz
        rw [List.append_assoc]
        exact .inl (List.mem_append_right _ (List.mem_append.mpr (mem_nb.mp hz)))
  · rw [dfs_snoc, if_neg hx]
    refine ih nd h1 (fun y hy => h2 y (List.mem_append_left _ hy)) (fun y hy z hz => ?_)
    rcases h3 y hy z hz with q | q
    · rcases List.mem_append.mp q with q | q
      · exact .inl q
      · rw [List.mem_singleton.mp q]; exact .inr hx
    · exact .inr q
/-- rows that part names by links -/
structure IsPart (ns : List Str) (ls : List Lk3) (R : List (List Str)) : Prop where
  perm : R.flatten.Perm ns
  con : ∀ r ∈ R, ∀ a ∈ r, ∀ b ∈ r, Con ls a b
  cl : ∀ r ∈ R, ∀ a ∈ r, ∀ b, Adj ls a b → b ∈ r
  ne : ∀ r ∈ R, r ≠ []
/-- links stay within names -/
def Within (ns : List Str) (ls : List Lk3) : Prop := ∀ l ∈ ls, l.1 ∈ ns ∧ l.2.1 ∈ ns
theorem Within.adj {ns : List Str} {ls : List Lk3} (h : Within ns ls) {a b : Str} (k : Adj ls a b) : a ∈ ns ∧ b ∈ ns := by
  obtain ⟨l, hl, ⟨rfl, rfl⟩ | ⟨rfl, rfl⟩⟩ := k
  · exact h l hl
  · exact (h l hl).symm
theorem dfs_first {ls : List Lk3} {x : Str} {r : List Str} : x ∈ (dfs ls (x :: r) [] [x]).2 := by
  have h := dfs_snoc ls (x :: r) [] [] x
  rw [List.nil_append, if_pos List.mem_cons_self] at h
  rw [h]
  have key : ∀ left row edge, x ∈ row → x ∈ (dfs ls left row edge).2 := by
    refine dfs_ind ls (fun left row h => by rw [dfs_nil]; exact h) (fun left row edge y hy ih h => ?_) (fun left row edge y hy ih h => ?_)
    · rw [dfs_snoc, if_pos hy]; exact ih (List.mem_append_left _ h)
    · rw [dfs_snoc, if_neg hy]; exact ih h
  exact key _ _ _ (by simp)
theorem dfs_len {ls : List Lk3} {x : Str} {r : List Str} : (dfs ls (x :: r) [] [x]).1.length ≤ r.length := by
  have h := (dfs_perm ls (x :: r) [] [x]).length_eq
  rw [List.length_append, List.append_nil, List.length_cons] at h
  have := List.length_pos_of_mem (dfs_first (ls := ls) (x := x) (r := r))
  omega
theorem rowsOf_part (ls : List Lk3) : ∀ n left, left.length ≤ n → left.Nodup → (∀ y ∈ left, ∀ z, Adj ls y z → z ∈ left) → IsPart left ls (rowsOf ls n left)
  | 0, left, h, _, _ => by
    have : left = [] := List.length_eq_zero_iff.mp (by omega)
    subst this
    exact ⟨List.Perm.refl _, (fun _ h => nomatch h), (fun _ h => nomatch h), (fun _ h => nomatch h)⟩
  | n + 1, [], _, _, _ => ⟨List.Perm.refl _, (fun _ h => nomatch h), (fun _ h => nomatch h), (fun _ h => nomatch h)⟩
  | n + 1, x :: r, h, nd, hc => by
    have hp := dfs_perm ls (x :: r) [] [x]
    rw [List.append_nil] at hp
    obtain ⟨i1, i2⟩ := dfs_inv ls x (x :: r) [] [x] nd (fun y hy => by cases hy) (fun y hy => by rw [List.mem_singleton.mp hy]; exact .refl _) (fun y hy => by cases hy)
    have ndp := hp.nodup_iff.mpr nd
    have dj := (List.nodup_append.mp ndp).2.2
    have hl := dfs_len (ls := ls) (x := x) (r := r)
    have hf := dfs_first (ls := ls) (x := x) (r := r)
    have hsub := dfs_sub ls (x :: r) [] [x]
    show IsPart (x :: r) ls (sortS (dfs ls (x :: r) [] [x]).2 :: rowsOf ls n (dfs ls (x :: r) [] [x]).1)
    generalize dfs ls (x :: r) [] [x] = d at *
    have cl2 : ∀ y ∈ d.2, ∀ z, Adj ls y z → z ∈ d.2 := fun y hy z hz => by
      have hz0 := hc y (hp.mem_iff.mp (List.mem_append_right _ hy)) z hz
      exact (List.mem_append.mp (hp.mem_iff.mpr hz0)).resolve_left (i2 y hy z hz)
    have ih := rowsOf_part ls n d.1 (by rw [List.length_cons] at h; omega) (hsub.nodup nd) (fun y hy z hz => by
      have hz0 := hc y (hsub.subset hy) z hz
      refine (List.mem_append.mp (hp.mem_iff.mpr hz0)).resolve_right fun w => ?_
      exact dj y hy y (cl2 z w y hz.symm) rfl)
    refine ⟨?_, fun q hq => ?_, fun q hq => ?_, fun q hq => ?_⟩
    · show (sortS d.2 ++ (rowsOf ls n d.1).flatten).Perm (x :: r)
      exact (List.perm_append_comm.trans (ih.perm.append (sortS_perm _))).trans hp
    · rcases List.mem_cons.mp hq with rfl | hq
      · exact fun a ha b hb => (i1 a ((sortS_perm _).mem_iff.mp ha)).symm.trans (i1 b ((sortS_perm _).mem_iff.mp hb))
      · exact ih.con q hq
    · rcases List.mem_cons.mp hq with rfl | hq
      · exact fun a ha b hb => (sortS_perm _).mem_iff.mpr (cl2 a ((sortS_perm _).mem_iff.mp ha) b hb)
      · exact ih.cl q hq
    · rcases List.mem_cons.mp hq with rfl | hq
      · exact fun z => by
          have := (sortS_perm d.2).mem_iff.mpr hf
          rw [z] at this; cases this
      · exact ih.ne q hq
theorem joinedL_part {ns : List Str} {ls : List Lk3} (nd : ns.Nodup) (w : Within ns ls) : IsPart ns ls (joinedL ns ls) := by
  have p := rowsOf_part ls ns.length (sortS ns) (by rw [(sortS_perm ns).length_eq]; exact Nat.le_refl _) ((sortS_perm ns).nodup_iff.mpr nd) (fun y hy z hz => (sortS_perm ns).mem_iff.mpr (w.adj hz).2)
  exact ⟨p.perm.trans (sortS_perm ns), p.con, p.cl, p.ne⟩
end
end K2

-- text LcP
set_option maxRecDepth 100000
set_option maxHeartbeats 4000000
/-! LcP: [e for t in xs if p]: the list of those picked. -/
namespace GX
open PySem PySem.Spec PyProof.Rows L2 LamX
structure WalksV (K : PySem.W.Frag) (T : List (Addr × Str)) (H1 : Hp) (xs : List V) (J : It) : Prop where
  go : ∀ i H', Le T H1 H' → i < xs.length → J.go i H'
  stop : ∀ H', Le T H1 H' → J.stop xs.length H'
  yld : ∀ i H' x H'', Le T H1 H' → J.yld i H' x H'' → H'' = H' ∧ xs[i]? = some x
theorem walksVL {K : PySem.W.Frag} {T : List (Addr × Str)} {H1 : Hp} {xs : List V} {k : Addr} (h : SqL K H1 k xs) : WalksV K T H1 xs (Itl K k) where
  go i H' l hi := Itl_go (l.seqL h) hi
  stop H' l := Itl_stop (l.seqL h) (Nat.le_refl _)
  yld i H' x H'' l y := Itl_yld (l.seqL h) y
theorem walksVT {K : PySem.W.Frag} {T : List (Addr × Str)} {H1 : Hp} {xs : List V} {k : Addr} (h : SqT K H1 k xs) : WalksV K T H1 xs (Itt K k) where
  go i H' l hi := Itt_go (l.seqT h) hi
  stop H' l := Itt_stop (l.seqT h) (Nat.le_refl _)
  yld i H' x H'' l y := Itt_yld (l.seqT h) y
theorem lc_pick {α : Type} {K : PySem.W.Frag} {T : List (Addr × Str)} {J : It} {g : TG} {tt : TT} {te : TE} {vs : List Nat} {σ : L2.St} {H1 : Hp} {D : Addr} {Qd : Hp → Prop} {xs : List α} {f : α → V} (p : α → Bool) (e : α → V) (hw : WalksV K T H1 (xs.map f) J) (hT : Tabs T H1) (hD : H1 D = none) (hl : xs.length ≤ 100000)
    (hs : ∀ x ∈ xs, ∀ (H' : Hp) (Y : V → Hp → Prop) (N : Hp → Prop), Le T H1 H' → (∀ H4, Le T H' H4 → p x = true → Y (e x) H4) → (∀ H4, Le T H' H4 → p x = false → N H4) →
      g (f x) (wipe σ vs) H' fun σ2 H2 => wipe σ2 vs = wipe σ vs ∧ tt σ2 H2 fun b H3 => if b = true then te σ2 H3 Y else N H3)
    (hq : ∀ H', Le T H1 H' → H' D = some (.lst ((xs.filter p).map e)) → Qd H') :
    ∃ W : Nat → Nat → Hp → Prop, (∃ m, W 0 m (upd H1 D (.lst []))) ∧ ∀ i m H, W i m H →
      (J.stop i H ∧ Qd H) ∨ (J.go i H ∧ ∃ Nx : Hp → Prop, (∀ H', Nx H' → ∃ m', m' < m ∧ W (i + 1) m' H') ∧ ∀ x H', J.yld i H x H' → g x (wipe σ vs) H' fun σ2 H2 => wipe σ2 vs = wipe σ vs ∧ tt σ2 H2 fun b H3 =>
        if b = true then te σ2 H3 fun y H4 => ∃ acc, H4 D = some (.lst acc) ∧ acc.length < sizeLine ∧ Nx (upd H4 D (.lst (acc ++ [y]))) else Nx H3) := by
  have ll : (xs.map f).length = xs.length := List.length_map _
  refine lc_n xs.length (fun m H' => Le T H1 H' ∧ H' D = some (.lst (((xs.take m).filter p).map e))) ⟨(Le.refl hT).new hD, upd_same⟩ (fun m H' hm ⟨L1, h1⟩ => ⟨hw.go m H' L1 (by omega), ?_⟩) (fun H' ⟨L1, h1⟩ => ⟨ll ▸ hw.stop H' L1, ?_⟩)
  · intro x H2 hy
    obtain ⟨rfl, hx⟩ := hw.yld m H' x H2 L1 hy
    obtain ⟨z, hz, rfl⟩ := gmap hx
    have htk : xs.take (m + 1) = xs.take m ++ [z] := GX.take_snoc hz
    refine hs z (List.mem_of_getElem? hz) _ _ _ L1 (fun H4 L4 hp => ⟨_, L4.at h1, ?_, (L1.trans L4).set hD (L4.at h1), ?_⟩) (fun H4 L4 hp => ⟨L1.trans L4, ?_⟩)
    · rw [List.length_map]
      exact Nat.lt_of_le_of_lt (Nat.le_trans (List.length_filter_le _ _) (by rw [List.length_take]; exact Nat.le_trans (Nat.min_le_left _ _) (show m ≤ 100000 by omega))) (by decide)
    · rw [upd_same, htk, List.filter_append, List.filter_cons_of_pos hp, List.map_append]
      rfl
    · rw [htk, List.filter_append, List.filter_cons_of_neg (by rw [hp]; exact Bool.false_ne_true), L4.at h1]
      simp
  · rw [List.take_of_length_le (Nat.le_refl _)] at h1
    exact hq H' L1 h1
end GX

-- text K2K
set_option maxRecDepth 100000
set_option maxHeartbeats 4000000
namespace K2
open PySem PySem.Spec PyProof.Rows L2 LamX GX
section
variable {P : Program} {w : World} {K : PySem.W.Frag} {mg : Str → Option Value} {base : Heap}
/-! ### weak -/
/-- who is joined with a name -/
def rowW (G : List (List Str)) (n : Str) : List Str := G.flatMap fun g => g.filter fun one => decide (n ∈ g) && !decide (one = n)
def restW (ls : List Lk3) (n : Str) : List Lk3 := ls.filter fun l => !decide (n ∈ [l.1, l.2.1])
def inW (ls : List Lk3) (row : List Str) : List Lk3 := ls.filter fun l => decide (l.1 ∈ row)
def isWeak (G : List (List Str)) (ls : List Lk3) (n : Str) : Bool := decide (1 < (joinedL (rowW G n) (inW (restW ls n) (rowW G n))).length)
def weakL (rs : List (List Int)) (TS : TSt) : List Str := (nsT TS).filter (isWeak (joinedL (nsT TS) (lkT rs TS)) (lkT rs TS))
theorem rowW_sub {G : List (List Str)} {n : Str} : (rowW G n).Sublist G.flatten := by
  unfold rowW
  rw [List.flatMap_def]
  induction G with
  | nil => exact List.Sublist.refl _
  | cons g r ih =>
    rw [List.map_cons, List.flatten_cons, List.flatten_cons]
    exact List.Sublist.append List.filter_sublist ih
def spWeak (K : PySem.W.Frag) : Sp := fun vs H Q E => ∃ (n l d : Addr) (rs : List (List Int)) (TS : TSt), vs = [.ref n] ∧ isNet K H n l d TS ∧ isLand K H l rs ∧ GoodL rs ∧ GoodT rs TS ∧ Tabs (T K) H ∧
  ∀ H' t, Le (T K) H H' → H t = none → H' t = some (.tup ((weakL rs TS).map V.str)) → Q (.ref t) H'
theorem nsT_nd {rs : List (List Int)} {TS : TSt} (g : GoodT rs TS) : (nsT TS).Nodup := (sortS_perm _).nodup_iff.mpr g.nd
theorem lkT_in {rs : List (List Int)} {TS : TSt} : Within (nsT TS) (lkT rs TS) := fun l hl => lkT_mem hl
theorem grp_part {rs : List (List Int)} {TS : TSt} (g : GoodT rs TS) : IsPart (nsT TS) (lkT rs TS) (joinedL (nsT TS) (lkT rs TS)) := joinedL_part (nsT_nd g) lkT_in
theorem ok_weak (C : Ctx K mg base) : MetX P w K mg base 6 (aNt K) "weak" ["self"] (spWeak K) := by
  obtain ⟨fd, F⟩ := C.d.d_Net_weak
  refine ⟨_, fd, ?_, F.funD.bindsN fun _ _ _ _ _ _ us hl => (match us, hl with | [_], _ => rfl), C.t.t_Net_weak, C.t.c_Net⟩
  refine F.ok sc_Net_weak (fun vs H Q E h => ?_) (fun A outer s H vs Q E hr h => ?_)
  · obtain ⟨n, l, d, rs, TS, rfl, _⟩ := h
    rfl
  · obtain ⟨n, l, d, rs, TS, rfl, hnet, hl, g, gt, hT, hq⟩ := h
    obtain ⟨⟨dx, hn⟩, hd, hts⟩ := id hnet
    have nn := sc_Net_weak.nd
    obtain ⟨fL, fdL, FL, bL, mL, cL⟩ := ok_links (P := P) (w := w) C
    obtain ⟨fG, fdG, FG, bG, mG, cG⟩ := ok_groups (P := P) (w := w) C
    refine ⟨_, pss_cons (ps_par (i := 1) (j := 2) (by rfl) nn rfl rfl (by decide) rfl rfl (pa_cons (pe_lst pa_nil) (pa_cons (pe_meth0 (pv 0) cL mL FL (hr.mono (by decide)) bL .nil passA) pa_nil)) (by rfl))
      (pss_cons (ps_for ownsA rfl (pi_list (pe_callB (call_sortedD rfl) (by rfl) C.t.b_sorted (by decide +kernel) (pa_cons (pe_fld (pv 0) rfl) pa_nil))) (pg_name (i := 3) nn rfl (by first | exact Or.inl rfl | exact Or.inr rfl))
        (pss_cons (ps_set (i := 4) nn rfl (by first | exact Or.inl rfl | exact Or.inr rfl) (pe_lst pa_nil))
        (pss_cons (ps_for ownsA rfl (pi_tup (pe_meth0 (pv 0) cG mG FG hr bG .nil passA)) (pg_name (i := 5) nn rfl (by first | exact Or.inl rfl | exact Or.inr rfl))
          (pss_one (ps_aug (i := 4) nn rfl (by first | exact Or.inl rfl | exact Or.inr rfl) (pe_lc (own := [("one", 7)]) (g := gName 7) rfl nn (pi_tup (pv 5)) (blkOk_by (N := n_Net_weak) (sc := defScope s_Net_weak) (by decide +kernel))
                (fun _ _ _ _ _ => (pg_name (i := 7) nn rfl (by first | exact Or.inl rfl | exact Or.inr rfl))) (fun _ _ _ _ _ => by exact pts_one (PW.pt (pw_and (pt_cmpR (r := rIn K false) op_in_seq (pv 3) (pv 5) rfl) (pw_and1 (pt_cmpR op_ne (pv 7) (pv 3) (nomark _)))))) (fun _ _ _ _ _ => pv 7)) iop_ext)))
        (pss_cons (ps_setLc (i := 6) (own := [("link", 8)]) (g := gName 8) rfl nn rfl rfl (sw_true rfl rfl rfl (by decide +kernel)) (pi_tup (pv 2)) (blkOk_by (N := n_Net_weak) (sc := defScope s_Net_weak) (by decide +kernel))
                (fun _ _ _ _ _ => (pg_name (i := 8) nn rfl (by first | exact Or.inl rfl | exact Or.inr rfl))) (fun _ _ _ _ _ => by exact pts_one (pt_cmpR (r := rIn K true) op_notIn_seq (pv 3) (pe_slice (r := rSlT K) sl_tup (pv 8) po_none (po_some pe_int)) rfl)) (fun _ _ _ _ _ => pv 8))
        (pss_one (ps_if (pt_cmpR op_gt (pe_callB call_len_seq (by rfl) C.t.b_len PySem.boot_len (pa_cons (pe_cx (ok_joined (P := P) (w := w) C) hr (by decide) rfl passA (pa_cons (pv 4)
              (pa_cons (pe_lc (own := [("link", 8)]) (g := gName 8) rfl nn (pi_list (pv 6)) (blkOk_by (N := n_Net_weak) (sc := defScope s_Net_weak) (by decide +kernel))
                (fun _ _ _ _ _ => (pg_name (i := 8) nn rfl (by first | exact Or.inl rfl | exact Or.inr rfl))) (fun _ _ _ _ _ => by exact pts_one (pt_cmpR (r := rIn K false) op_in_seq (pe_ix (r := rIxT K) ix_tup (pv 8) pe_int (fun _ _ => rfl)) (pv 4) rfl)) (fun _ _ _ _ _ => pv 8)) pa_nil))) pa_nil)) pe_int (nomark _))
          (pss_one (ps_expr (pe_bm PySem.F.plainAttrs_list PySem.F.slot_list_append PySem.F.type_list_append mt_append (pv 1) (pa_cons (pv 3) pa_nil)))) pss_nil))))))
      (pss_one (ps_ret (pe_callTy call_tuple_of (by rfl) C.t.b_tuple (by decide +kernel) (pa_cons (pv 1) pa_nil))))), ?_⟩
    have nl := nsT_len (TS := TS)
    have g64 := gt.l
    refine ⟨by show 0 ≤ sizeLine; decide, fun f hf => ?_⟩
    have L1 := (Le.refl hT).new (o := .lst []) hf
    have hf1 : upd H f (.lst []) f = some (.lst (([] : List Str).map V.str)) := upd_same
    generalize upd H f (.lst []) = H1 at L1 hf1
    refine ⟨_, rfl, n, dx, _, rfl, L1.at hn, rfl, n, l, d, rs, TS, rfl, Le.net L1 hnet, Le.land L1 hl, g, gt, L1.tab, fun H2 t L L2 ht1 ht hL e => ?_⟩
    have hf2 := L2.at hf1
    have L2' := L1.trans L2
    clear L2
    have lL : L.length ≤ 900 := by
      have e1 := congrArg List.length e
      rw [List.length_map] at e1
      have : (linksL rs TS (nsT TS)).length ≤ 900 := lkT_len gt
      omega
    refine ⟨_, _, rfl, ?_⟩
    refine ⟨_, rfl, n, _, dx, _, _, rfl, L2'.at hn, C.t.c_Net, C.t.a_Net_towers, rfl, d, _, TS.map (·.1), rfl, sorted_towers (L2'.at hd), ents_keys _ _, by rw [List.length_map]; omega, fun ys p hp hs hpn => ?_⟩
    have eys := sortS_is hp hs
    subst eys
    have hns : sortS (TS.map (·.1)) = nsT TS := rfl
    rw [hns]
    have L3 := L2'.new (o := .lst ((nsT TS).map V.str)) hpn
    have hp3 : upd H2 p (.lst ((nsT TS).map V.str)) p = some (.lst ((nsT TS).map V.str)) := upd_same
    have hf3 : upd H2 p (.lst ((nsT TS).map V.str)) f = some (.lst (([] : List Str).map V.str)) := (upd_ne (ne_of_none hf2 hpn)).trans hf2
    have ht3 : upd H2 p (.lst ((nsT TS).map V.str)) t = some (.tup (refsL L)) := (upd_ne (ne_of_none ht hpn)).trans ht
    have hL3 : isLinks (upd H2 p (.lst ((nsT TS).map V.str))) L := fun z hz => (upd_ne (ne_of_none (hL z hz) hpn)).trans (hL z hz)
    have hpf : p ≠ f := (ne_of_none hf2 hpn).symm
    clear ht hL hf2 hpn L2' hp hs
    generalize upd H2 p (.lst ((nsT TS).map V.str)) = H3 at L3 hp3 hf3 ht3 hL3
    -- the ground: all but found
    have LG : Le (T K) (hid H3 [f]) H3 := hid_le L3.tab
    have Gf : hid H3 [f] f = none := hid_no (by simp)
    have Gp : hid H3 [f] p = some (.lst ((nsT TS).map V.str)) := hid_at hp3 (by simpa using hpf)
    have Gt : hid H3 [f] t = some (.tup (refsL L)) := hid_at ht3 (by
      simp only [List.mem_cons, List.not_mem_nil, or_false]
      intro z
      rw [z, hf3] at ht3; cases ht3)
    have GL : isLinks (hid H3 [f]) L := fun x hx => hid_at (hL3 x hx) (by
      have := hL3 x hx
      simp only [List.mem_cons, List.not_mem_nil, or_false]
      intro z
      rw [z, hf3] at this; cases this)
    have LHG : Le (T K) H (hid H3 [f]) := L3.hid (fun z hz => by rw [List.mem_singleton.mp hz]; exact hf) (fun z hz o ho => by rw [List.mem_singleton.mp hz, hf3] at ho; cases ho; trivial)
    refine ⟨p, rfl, ⟨_, SqL.of hp3⟩, ?_⟩
    clear hp3 ht3 hL3 L3
    generalize hid H3 [f] = G at LG Gf Gp Gt GL LHG
    have gp := grp_part gt
    generalize hLS : lkT rs TS = LS at *
    have e : L.map (·.2) = LS := e.trans hLS
    generalize hJG : joinedL (nsT TS) LS = JG at gp
    have mem : ∀ {y : Str} {q : List Str}, q ∈ JG → y ∈ q → y ∈ nsT TS := fun hq hy => gp.perm.mem_iff.mp (List.mem_flatten.mpr ⟨_, hq, hy⟩)
    refine for_list (xs := (nsT TS).map V.str) (fun j σ H' => (∃ a3 a4 a5 a6 a7 a8, σ = [some (.ref n), some (.ref f), some (.ref t), a3, a4, a5, a6, a7, a8]) ∧ Le (T K) G H' ∧ H' f = some (.lst ((((nsT TS).take j).filter (isWeak JG LS)).map V.str)))
        ⟨⟨_, _, _, _, _, _, rfl⟩, LG, hf3⟩ (fun j σ H' _ hP => SqL.of (hP.2.1.at Gp)) (fun j v σ H4 hv ⟨⟨a3, a4, a5, a6, a7, a8, hσ⟩, L4, hf4⟩ => ?_) (fun σ H4 ⟨⟨a3, a4, a5, a6, a7, a8, hσ⟩, L4, hf4⟩ => ?_)
    · subst hσ
      obtain ⟨x, hx, rfl⟩ := GX.get_map hv
      have hxm := List.mem_of_getElem? hx
      refine ⟨by show 0 ≤ sizeLine; decide, fun rw' hrw => ?_⟩
      have L5 := L4.new (o := .lst []) hrw
      have hf5 := (upd_ne (o := .lst []) (ne_of_none hf4 hrw)).trans hf4
      have hrw5 : upd H4 rw' (.lst []) rw' = some (.lst (([] : List Str).map V.str)) := upd_same
      have Grw : G rw' = none := L4.no _ hrw
      have hfrw : f ≠ rw' := ne_of_none hf4 hrw
      generalize upd H4 rw' (.lst []) = H5 at L5 hf5 hrw5
      have LH5 := LHG.trans L5
      refine ⟨_, rfl, n, dx, _, rfl, LH5.at hn, rfl, n, l, d, rs, TS, rfl, Le.net LH5 hnet, Le.land LH5 hl, g, gt, LH5.tab, fun H6 tg R L6 htg htgv hR eR => ?_⟩
      rw [hLS, hJG] at eR
      have hrw6 := L6.at hrw5
      have hf6 := L6.at hf5
      have L6' := L5.trans L6
      refine ⟨tg, rfl, ⟨_, SqT.of htgv⟩, ?_⟩
      -- the inner ground: all but row
      have LB : Le (T K) (hid H6 [rw']) H6 := hid_le L6.tab
      have Brw : hid H6 [rw'] rw' = none := hid_no (by simp)
      have Bf : hid H6 [rw'] f = some (.lst ((((nsT TS).take j).filter (isWeak JG LS)).map V.str)) := hid_at hf6 (by simpa using hfrw)
      have Btg : hid H6 [rw'] tg = some (.tup (refsS R)) := hid_at htgv (by
        simp only [List.mem_cons, List.not_mem_nil, or_false]
        intro z
        rw [z, hrw6] at htgv; cases htgv)
      have BR : isRowsS (hid H6 [rw']) R := fun y hy => hid_at (hR y hy) (by
        have := hR y hy
        simp only [List.mem_cons, List.not_mem_nil, or_false]
        intro z
        rw [z, hrw6] at this; cases this)
      have LGB : Le (T K) G (hid H6 [rw']) := L6'.hid (fun z hz => by rw [List.mem_singleton.mp hz]; exact Grw) (fun z hz o ho => by rw [List.mem_singleton.mp hz, hrw6] at ho; cases ho; trivial)
      clear htgv hR L6' L6 L5 LH5
      generalize hid H6 [rw'] = B at LB Brw Bf Btg BR LGB
      have row_len : ∀ k, (rowW (JG.take k) x).length ≤ 30 := fun k => by
        have h1 := (rowW_sub (G := JG.take k) (n := x)).length_le
        have h2 : (JG.take k).flatten.length ≤ JG.flatten.length := by
          conv => rhs; rw [← List.take_append_drop k JG]
          rw [List.flatten_append, List.length_append]; omega
        have h3 := gp.perm.length_eq
        omega
      refine for_tup (xs := refsS R) (fun k σ H' => (∃ a5 a6 a7 a8, σ = [some (.ref n), some (.ref f), some (.ref t), some (.str x), some (.ref rw'), a5, a6, a7, a8]) ∧ Le (T K) B H' ∧ H' rw' = some (.lst ((rowW (JG.take k) x).map V.str)))
        ⟨⟨_, _, _, _, rfl⟩, LB, hrw6⟩ (fun k σ H' _ hP => SqT.of (hP.2.1.at Btg)) (fun k v σ H7 hv7 ⟨⟨a5, a6, a7, a8, hσ⟩, L7, hrw7⟩ => ?_) (fun σ H7 ⟨⟨a5, a6, a7, a8, hσ⟩, L7, hrw7⟩ => ?_)
      · subst hσ
        obtain ⟨y, hy, rfl⟩ := GX.get_map hv7
        have hym := List.mem_of_getElem? hy
        have hyJ : JG[k]? = some y.2 := by rw [← eR, List.getElem?_map, hy]; rfl
        have hy7 := L7.at (BR y hym)
        have ly : y.2.length ≤ 30 := by
          have h1 := (List.sublist_flatten_of_mem (List.mem_of_getElem? hyJ)).length_le
          have h3 := gp.perm.length_eq
          omega
        refine ⟨_, rfl, _, rfl, y.1, rfl, ⟨_, SqT.of hy7⟩, fun D1 hD1 => ?_⟩
        refine lc_pick (fun one => decide (x ∈ y.2) && !decide (one = x)) V.str (walksVT (T := T K) (SqT.of hy7)) L7.tab hD1 (by omega) (fun z hz H' Y N L' hY hN => ?_) (fun H8 L8 hD => ?_)
        · refine ⟨rfl, _, rfl, _, rfl, y.1, _, rfl, .inr (SqT.of (L'.at hy7)), rfl, flat_strs _, _, rfl, ?_⟩
          show (if inV (.str x) (y.2.map V.str) = true then _ else _)
          rw [inV_strs]
          by_cases q1 : x ∈ y.2
          · rw [decide_eq_true q1]
            refine iteT ⟨_, rfl, _, rfl, rfl, _, rfl, ?_⟩
            by_cases q2 : z = x
            · rw [decide_eq_true (show V.str z = V.str x by rw [q2])]
              exact iteF (hN H' (Le.refl L'.tab) (by rw [decide_eq_true q2, Bool.not_true, Bool.and_false]))
            · rw [decide_eq_false (show ¬ V.str z = V.str x from fun w => q2 (V.str.inj w))]
              exact iteT ⟨_, rfl, hY H' (Le.refl L'.tab) (by rw [decide_eq_true q1, decide_eq_false q2]; rfl)⟩
          · rw [decide_eq_false q1]
            exact iteF (iteF (hN H' (Le.refl L'.tab) (by rw [decide_eq_false q1, Bool.false_and])))
        · have hrw8 := L8.at hrw7
          have L78 := L7.trans L8
          have hk := row_len (k + 1)
          have hrr : rowW (JG.take (k + 1)) x = rowW (JG.take k) x ++ y.2.filter (fun one => decide (x ∈ y.2) && !decide (one = x)) := by
            unfold rowW
            rw [GX.take_snoc hyJ, List.flatMap_append]
            simp
          rw [hrr, List.length_append] at hk
          refine ⟨rw', D1, _, _, rfl, rfl, hrw8, hD, ?_, ⟨_, _, _, _, rfl⟩, L78.set Brw hrw8, ?_⟩
          · rw [List.length_map, List.length_map]
            exact Nat.le_trans hk (by decide)
          · rw [upd_same, hrr, List.map_append]
      · subst hσ
        rw [show (refsS R).length = JG.length by unfold refsS; rw [List.length_map, ← eR, List.length_map], List.take_of_length_le (Nat.le_refl _)] at hrw7
        have row30 : (rowW JG x).length ≤ 30 := by
          have := row_len JG.length
          rwa [List.take_of_length_le (Nat.le_refl _)] at this
        have hf7 := L7.at Bf
        have LG7 := LGB.trans L7
        have GX0 : ∀ {H'}, Le (T K) H7 H' → SqT K H' t (L.map fun x => V.ref x.1) ∧ isLinks H' L := fun l => ⟨SqT.of (l.at (LG7.at Gt)), fun z hz => l.at (LG7.at (GL z hz))⟩
        refine ⟨_, rfl, t, rfl, ⟨_, (GX0 (Le.refl L7.tab)).1⟩, fun D2 hD2 => ?_⟩
        refine lc_pick (fun z : Addr × Lk3 => !decide (x ∈ [z.2.1, z.2.2.1])) (fun z => V.ref z.1) (walksVT (T := T K) (GX0 (Le.refl L7.tab)).1) L7.tab hD2 (by omega) (fun z hz H' Y N L' hY hN => ?_) (fun H8 L8 hD => ?_)
        · have hzz := (GX0 L').2 z hz
          refine ⟨rfl, _, rfl, _, rfl, _, rfl, z.1, _, rfl, SqT.of hzz, (fun z => absurd z.2 (by show ¬ (2 : Nat) = 3; decide)), fun q hqn => ?_⟩
          rw [show cutV [V.str z.2.1, V.str z.2.2.1, V.int z.2.2.2] none (some 2) = [z.2.1, z.2.2.1].map V.str from rfl]
          have Lq := (Le.refl L'.tab).new (o := .tup ([z.2.1, z.2.2.1].map V.str)) hqn
          refine ⟨q, _, rfl, .inr (SqT.of upd_same), rfl, rfl, _, rfl, ?_⟩
          show (if (!inV (.str x) ([z.2.1, z.2.2.1].map V.str)) = true then _ else _)
          rw [inV_strs]
          by_cases q1 : x ∈ [z.2.1, z.2.2.1]
          · rw [decide_eq_true q1]
            exact iteF (hN _ Lq (by rw [decide_eq_true q1]; rfl))
          · rw [decide_eq_false q1]
            exact iteT ⟨_, rfl, hY _ Lq (by rw [decide_eq_false q1]; rfl)⟩
        · have L78 := L7.trans L8
          have hrw8 := L8.at hrw7
          generalize hLR : L.filter (fun z : Addr × Lk3 => !decide (x ∈ [z.2.1, z.2.2.1])) = LR at hD
          have eLR : LR.map (·.2) = restW LS x := by
            rw [← hLR, ← e]
            unfold restW
            rw [List.filter_map]
            rfl
          have mLR : ∀ z ∈ LR, z ∈ L := fun z hz => (List.mem_filter.mp (hLR ▸ hz : z ∈ _)).1
          have lLR : LR.length ≤ 900 := by
            have : LR.length ≤ L.length := hLR ▸ List.length_filter_le _ _
            omega
          refine ⟨_, rfl, _, rfl, D2, rfl, ⟨_, SqL.of hD⟩, fun D3 hD3 => ?_⟩
          refine lc_pick (fun z : Addr × Lk3 => decide (z.2.1 ∈ rowW JG x)) (fun z => V.ref z.1) (walksVL (T := T K) (SqL.of hD)) L8.tab hD3 (by omega) (fun z hz H' Y N L' hY hN => ?_) (fun H9 L9 hD9 => ?_)
          · have hzz := (GX0 (L8.trans L')).2 z (mLR z hz)
            refine ⟨rfl, _, rfl, z.1, _, _, _, rfl, rfl, SqT.of hzz, atI_nat (j := 0) rfl, _, rfl, rw', _, rfl, .inl (SqL.of (L'.at hrw8)), rfl, flat_strs _, _, rfl, ?_⟩
            show (if inV (.str z.2.1) ((rowW JG x).map V.str) = true then _ else _)
            rw [inV_strs]
            by_cases q1 : z.2.1 ∈ rowW JG x
            · rw [decide_eq_true q1]
              exact iteT ⟨_, rfl, hY _ (Le.refl L'.tab) (decide_eq_true q1)⟩
            · rw [decide_eq_false q1]
              exact iteF (hN _ (Le.refl L'.tab) (decide_eq_false q1))
          · generalize hLI : LR.filter (fun z : Addr × Lk3 => decide (z.2.1 ∈ rowW JG x)) = LI at hD9
            have eLI : LI.map (·.2) = inW (restW LS x) (rowW JG x) := by
              rw [← hLI, ← eLR]
              unfold inW
              rw [List.filter_map]
              rfl
            have mLI : ∀ z ∈ LI, z ∈ L := fun z hz => mLR z (List.mem_filter.mp (hLI ▸ hz : z ∈ _)).1
            have lLI : LI.length ≤ 900 := by
              have : LI.length ≤ LR.length := hLI ▸ List.length_filter_le _ _
              omega
            have L79 := L78.trans L9
            have GX9 := GX0 (L8.trans L9)
            refine ⟨rw', D3, rowW JG x, LI, rfl, SqL.of (L9.at hrw8), .inl (SqL.of hD9), fun z hz => GX9.2 z (mLI z hz), L9.tab, by omega, by omega, fun y hy => ?_, fun y hy => ?_, fun Ha ta Ra La hta htav hRa eRa => ?_⟩
            · exact nsT_ok gt (gp.perm.mem_iff.mp (rowW_sub.subset hy))
            · rw [eLI] at hy
              have hy2 := (List.mem_filter.mp (List.mem_filter.mp hy).1).1
              rw [← hLS] at hy2
              exact lkT_ok gt y hy2
            · have L7a' := (L8.trans L9).trans La
              have hfa := (L8.trans (L9.trans La)).at hf7
              rw [eLI] at eRa
              have el : Ra.length = (joinedL (rowW JG x) (inW (restW LS x) (rowW JG x))).length := by rw [← eRa, List.length_map]
              have enx : ((nsT TS).take (j + 1)).filter (isWeak JG LS) = ((nsT TS).take j).filter (isWeak JG LS) ++ (if isWeak JG LS x = true then [x] else []) := by
                rw [GX.take_snoc hx, List.filter_append]
                by_cases q : isWeak JG LS x = true
                · rw [if_pos q, List.filter_cons_of_pos q]; rfl
                · rw [if_neg q, List.filter_cons_of_neg q]; rfl
              refine ⟨ta, _, rfl, .inr (SqT.of htav), _, _, rfl, rfl, _, rfl, ?_⟩
              have LGa := LG7.trans L7a'
              by_cases q : isWeak JG LS x = true
              · rw [if_pos q] at enx
                have q2 := of_decide_eq_true q
                refine iteDT (show (1 : Int) < ((Ra.map fun x : Addr × List Str => V.ref x.1).length : Nat) by rw [List.length_map]; omega) ⟨_, rfl, .inl ⟨rfl, _, SqL.of hfa⟩, _, rfl, f, _, _, rfl, rfl, hfa, ?_, ⟨_, _, _, _, _, _, rfl⟩, LGa.set Gf hfa, ?_⟩
                · rw [List.length_map]
                  exact Nat.lt_of_le_of_lt (Nat.le_trans (List.length_filter_le _ _) (by rw [List.length_take]; exact Nat.le_trans (Nat.min_le_right _ _) (show (nsT TS).length ≤ 30 by omega))) (by decide)
                · rw [upd_same, enx, List.map_append]; rfl
              · rw [if_neg q, List.append_nil] at enx
                have q2 : ¬ 1 < (joinedL (rowW JG x) (inW (restW LS x) (rowW JG x))).length := fun z => q (decide_eq_true z)
                refine iteDF (show ¬ (1 : Int) < ((Ra.map fun x : Addr × List Str => V.ref x.1).length : Nat) by rw [List.length_map]; omega) ⟨⟨_, _, _, _, _, _, rfl⟩, LGa, ?_⟩
                rw [enx]; exact hfa
    · subst hσ
      rw [List.length_map, List.take_of_length_le (Nat.le_refl _)] at hf4
      refine ⟨_, rfl, f, _, rfl, .inl ⟨SqL.of hf4, fun t2 ht2 => ?_⟩⟩
      refine hq _ t2 ((LHG.trans L4).new ht2) (LHG.no t2 (L4.no t2 ht2)) ?_
      rw [upd_same, weakL, hLS, hJG]
end
end K2

-- text K2L
set_option maxRecDepth 100000
set_option maxHeartbeats 4000000
namespace K2
open PySem PySem.Spec PyProof.Rows L2 LamX GX
section
variable {P : Program} {w : World} {K : PySem.W.Frag} {mg : Str → Option Value} {base : Heap}
theorem yes_ {σ : L2.St} {H : Hp} {Q : Bool → Hp → Prop} (h : Q true H) : tYes σ H Q := h
/-! ### the law's dice -/
abbrev dV (x y z : Int) : HO := .lst [.int x, .int y, .int z]
def spDice (K : PySem.W.Frag) : Sp := fun vs H Q _ => ∃ n : Int, vs = [.int n] ∧ ∀ x y z p, H p = none → Q (.ref p) (upd H p (dV x y z))
theorem ok_dice (C : Ctx K mg base) : CalX P w K mg base 1 "_law_dice" ["cell"] (spDice K) := by
  obtain ⟨fd, F⟩ := C.d.d_l_dice
  refine ⟨_, fd, ?_, F.funD.bindsN fun _ _ _ _ _ _ us hl => (match us, hl with | [_], _ => rfl), F.kp, C.t.m_l_dice⟩
  refine F.ok sc_l_dice (fun vs H Q E h => ?_) (fun A outer s H vs Q E hr h => ?_)
  · obtain ⟨n, rfl, _⟩ := h
    rfl
  · obtain ⟨n, rfl, hq⟩ := h
    refine ⟨_, pss_cons (ps_if (pt_chain op_lt op_lt (pe_op op_sub pe_int pe_int) (pv 0) pe_int) (pss_one (ps_ret (pe_lst (pa_cons (pe_callB call_abs (by rfl) C.t.b_abs (by decide +kernel) (pa_cons (pv 0) pa_nil)) (pa_cons pe_int (pa_cons pe_int pa_nil)))))) pss_nil)
      (pss_one (ps_ret (pe_lst (pa_cons (pv 0) (pa_cons (pe_op op_add pe_int (pe_op op_mod (pe_callTy call_int1 (by rfl) C.t.b_int (by decide +kernel) (pa_cons (pv 0) pa_nil)) pe_int)) (pa_cons (pe_callTy call_int1 (by rfl) C.t.b_int (by decide +kernel) (pa_cons (pe_cmpR op_ge (pv 0) (pe_op op_pow pe_int pe_int) (nomark _)) pa_nil)) pa_nil)))))), ?_⟩
    have last : ∀ H1 : Hp, H1 = H → (∀ (x y z : Int) (p : Addr), H1 p = none → Q (.ref p) (upd H1 p (dV x y z))) := fun H1 e => by rw [e]; exact hq
    refine ⟨_, _, rfl, rfl, _, rfl, _, _, rfl, rfl, _, rfl, ?_⟩
    by_cases h1 : (0 : Int) - 10 < n
    · rw [decide_eq_true h1]
      refine iteT ⟨_, _, rfl, rfl, _, rfl, ?_⟩
      by_cases h2 : n < 10
      · rw [decide_eq_true h2]
        exact iteT ⟨_, rfl, _, rfl, by show 3 ≤ sizeLine; decide, fun p hp => hq _ _ _ p hp⟩
      · rw [decide_eq_false h2]
        refine iteF ?_
        exact ⟨_, rfl, _, rfl, .inl ⟨_, rfl, _, _, rfl, rfl, by show (0 : Int) < 1009; decide, _, _, rfl, rfl, _, rfl, _, _, rfl, rfl, ⟨by decide, by decide, by decide⟩, _, _, rfl, rfl, .inr ⟨_, rfl, by show 3 ≤ sizeLine; decide, fun p hp => hq _ _ _ p hp⟩⟩⟩
    · rw [decide_eq_false h1]
      refine iteF ⟨_, rfl, iteF ?_⟩
      exact ⟨_, rfl, _, rfl, .inl ⟨_, rfl, _, _, rfl, rfl, by show (0 : Int) < 1009; decide, _, _, rfl, rfl, _, rfl, _, _, rfl, rfl, ⟨by decide, by decide, by decide⟩, _, _, rfl, rfl, .inr ⟨_, rfl, by show 3 ≤ sizeLine; decide, fun p hp => hq _ _ _ p hp⟩⟩⟩
theorem upd_upd {H : Hp} {a : Addr} {u v : HO} : upd (upd H a u) a v = upd H a v := by
  funext b
  by_cases h : b = a
  · rw [h, upd_same, upd_same]
  · rw [upd_ne h, upd_ne h, upd_ne h]
def spRoll (K : PySem.W.Frag) : Sp := fun vs H Q _ => ∃ (d : Addr) (x y z m : Int), vs = [.ref d, .int m] ∧ H d = some (dV x y z) ∧ 0 < m ∧ m ≤ 1000 ∧ ∀ x y z r, 0 ≤ r → r < m → Q (.int r) (upd H d (dV x y z))
theorem ok_roll (C : Ctx K mg base) : CalX P w K mg base 1 "_law_roll" ["dice", "many"] (spRoll K) := by
  obtain ⟨fd, F⟩ := C.d.d_l_roll
  refine ⟨_, fd, ?_, F.funD.bindsN fun _ _ _ _ _ _ us hl => (match us, hl with | [_, _], _ => rfl), F.kp, C.t.m_l_roll⟩
  refine F.ok sc_l_roll (fun vs H Q E h => ?_) (fun A outer s H vs Q E hr h => ?_)
  · obtain ⟨d, x, y, z, m, rfl, _⟩ := h
    rfl
  · obtain ⟨d, x, y, z, m, rfl, hd, hm, hm2, hq⟩ := h
    have nn := sc_l_roll.nd
    refine ⟨_, C8.pss_cut (ps_if (PW.pt (pw_or (pt_cmpR op_eq (pe_ix ix_list (pv 0) pe_int (fun _ _ => rfl)) pe_int (nomark _)) (pw_or1 (PW.pt (pw_and (pt_cmpR op_eq (pe_ix ix_list (pv 0) pe_int (fun _ _ => rfl)) pe_int (nomark _)) (pw_and1 (pt_cmpR op_gt (pe_ix ix_list (pv 0) pe_int (fun _ _ => rfl)) pe_int (nomark _))))))))
        (pss_cons (ps_set (i := 2) nn rfl (Or.inl rfl) (pe_op op_mod (pe_callTy call_int1 (by rfl) C.t.b_int (by decide +kernel) (pa_cons (pe_ix ix_list (pv 0) pe_int (fun _ _ => rfl)) pa_nil)) (pv 1)))
        (pss_cons (ps_asg (pe_op op_fdiv (pe_ix ix_list (pv 0) pe_int (fun _ _ => rfl)) (pv 1)) (pg_sub (pv 0) pe_int set_list))
        (pss_one (ps_ret (pv 2))))) pss_nil)
      (pss_cons (ps_asg pe_int (pg_sub (pv 0) pe_int set_list))
      (pss_cons (ps_if (pt_cmpR op_gt (pv 1) pe_int (nomark _)) (pss_one ps_never) pss_nil)
      (pss_cons (ps_asg (pe_op op_mod (pe_callTy call_int1 (by rfl) C.t.b_int (by decide +kernel) (pa_cons (pe_op op_add (pe_op op_add (pe_op op_mul (pe_ix ix_list (pv 0) pe_int (fun _ _ => rfl)) pe_int) (pe_op op_mul (pe_ix ix_list (pv 0) pe_int (fun _ _ => rfl)) pe_int)) pe_int) pa_nil)) pe_int) (pg_sub (pv 0) pe_int set_list))
      (pss_cons (ps_asg (pe_op op_add (pe_ix ix_list (pv 0) pe_int (fun _ _ => rfl)) pe_int) (pg_sub (pv 0) pe_int set_list))
      (pss_one (ps_ret (pe_op op_mod (pe_callTy call_int1 (by rfl) C.t.b_int (by decide +kernel) (pa_cons (pe_op op_fdiv (pe_ix ix_list (pv 0) pe_int (fun _ _ => rfl)) pe_int) pa_nil)) (pv 1))))))))
      , ?_⟩
    have r0 : ∀ a : Int, 0 ≤ a % m ∧ a % m < m := fun a => ⟨Int.emod_nonneg _ (by omega), Int.emod_lt_of_pos _ hm⟩
    refine ⟨fun σ' H' => σ' = [some (.ref d), some (.int m), none] ∧ H' = H, ?_, ?_⟩
    · refine ⟨_, rfl, d, _, _, _, rfl, rfl, SqL.of hd, atI_nat (j := 2) rfl, rfl, _, rfl, ?_⟩
      by_cases hz : z = 2
      · rw [decide_eq_true (show V.int z = V.int 2 by rw [hz])]
        refine iteT (iteT ?_)
        exact ⟨_, rfl, d, _, _, _, rfl, rfl, SqL.of hd, atI_nat (j := 0) rfl, .inl ⟨_, rfl, _, rfl, _, _, rfl, rfl, hm, _, rfl, d, _, _, _, rfl, rfl, SqL.of hd, atI_nat (j := 0) rfl, _, rfl, _, _, rfl, rfl, ⟨hm, by omega⟩, _, rfl, d, _, _, 0, rfl, rfl, hd, rfl, _, rfl, hq _ _ _ _ (r0 x).1 (r0 x).2⟩⟩
      rw [decide_eq_false (show ¬ V.int z = V.int 2 from fun q => hz (by injection q))]
      refine iteF ?_
      refine ⟨_, rfl, d, _, _, _, rfl, rfl, SqL.of hd, atI_nat (j := 2) rfl, rfl, _, rfl, ?_⟩
      by_cases h1 : z = 1
      · rw [decide_eq_true (show V.int z = V.int 1 by rw [h1])]
        refine iteT ⟨_, rfl, d, _, _, _, rfl, rfl, SqL.of hd, atI_nat (j := 0) rfl, _, _, rfl, rfl, _, rfl, ?_⟩
        by_cases h2 : 0 < x
        · rw [decide_eq_true h2]
          refine iteT ?_
          exact ⟨_, rfl, d, _, _, _, rfl, rfl, SqL.of hd, atI_nat (j := 0) rfl, .inl ⟨_, rfl, _, rfl, _, _, rfl, rfl, hm, _, rfl, d, _, _, _, rfl, rfl, SqL.of hd, atI_nat (j := 0) rfl, _, rfl, _, _, rfl, rfl, ⟨hm, by omega⟩, _, rfl, d, _, _, 0, rfl, rfl, hd, rfl, _, rfl, hq _ _ _ _ (r0 x).1 (r0 x).2⟩⟩
        · rw [decide_eq_false h2]
          exact iteF ⟨rfl, rfl⟩
      · rw [decide_eq_false (show ¬ V.int z = V.int 1 from fun q => h1 (by injection q))]
        exact iteF (iteF ⟨rfl, rfl⟩)
    · rintro σ' H' ⟨rfl, rfl⟩
      refine ⟨_, rfl, d, _, _, 2, rfl, rfl, hd, rfl, _, rfl, _, _, rfl, rfl, _, rfl, ?_⟩
      rw [decide_eq_false (show ¬ (100000000 : Int) < m by omega)]
      refine iteF ?_
      have hd1 : upd H' d (.lst ([V.int x, V.int y, V.int z].set 2 (V.int 0))) d = some (dV x y 0) := upd_same
      refine ⟨_, rfl, d, _, _, _, rfl, rfl, SqL.of hd1, atI_nat (j := 0) rfl, _, _, rfl, rfl, .inr ⟨by decide, by decide⟩, _, rfl, d, _, _, _, rfl, rfl, SqL.of hd1, atI_nat (j := 1) rfl, _, _, rfl, rfl, .inr ⟨by decide, by decide⟩, _, _, rfl, rfl, _, _, rfl, rfl, .inl ⟨_, rfl, _, _, rfl, rfl, by show (0 : Int) < 2147483647; decide, ?_⟩⟩
      refine ⟨_, rfl, d, _, _, 0, rfl, rfl, hd1, rfl, ?_⟩
      rw [upd_upd]
      have hd2 : ∀ v : Int, upd H' d (.lst ([V.int x, V.int y, V.int 0].set 0 (V.int v))) d = some (dV v y 0) := fun v => upd_same
      refine ⟨_, rfl, d, _, _, _, rfl, rfl, SqL.of (hd2 _), atI_nat (j := 1) rfl, _, _, rfl, rfl, _, rfl, d, _, _, 1, rfl, rfl, hd2 _, rfl, ?_⟩
      rw [upd_upd]
      refine ⟨_, rfl, d, _, _, _, rfl, rfl, SqL.of upd_same, atI_nat (j := 0) rfl, _, _, rfl, rfl, ⟨by decide, by decide⟩, .inl ⟨_, rfl, _, rfl, _, _, rfl, rfl, hm, hq _ _ _ _ (r0 _).1 (r0 _).2⟩⟩
/-! ### the law's rounds -/
def spRounds (K : PySem.W.Frag) : Sp := fun vs H Q _ => ∃ (s : Addr) (ns : List Int), vs = [.ref s, .int 1] ∧ SqL K H s (ns.map V.int) ∧ Tabs (T K) H ∧
  ∀ H' p d x y z, Le (T K) H H' → H' p = some (.lst [.ref d]) → H' d = some (dV x y z) → H d = none → Q (.ref p) H'
theorem ok_rounds (C : Ctx K mg base) : CalX P w K mg base 2 "_law_rounds" ["script", "most"] (spRounds K) := by
  obtain ⟨fd, F⟩ := C.d.d_l_rounds
  refine ⟨_, fd, ?_, F.funD.bindsN fun _ _ _ _ _ _ us hl => (match us, hl with | [_, _], _ => rfl), F.kp, C.t.m_l_rounds⟩
  refine F.ok sc_l_rounds (fun vs H Q E h => ?_) (fun A outer s H vs Q E hr h => ?_)
  · obtain ⟨s, ns, rfl, _⟩ := h
    rfl
  · obtain ⟨sa, ns, rfl, hs, hT, hq⟩ := h
    have nn := sc_l_rounds.nd
    refine ⟨_, pss_cons (ps_set (i := 2) nn rfl (Or.inl rfl) (pe_slice sl_list (pv 0) po_none (po_some (pv 1))))
      (C8.pss_cut (ps_if (pt_cmpR (op_eqD hr.units) (pv 2) (pe_lst pa_nil) (nomark _)) (pss_one (ps_set (i := 2) nn rfl (Or.inl rfl) (pe_lst (pa_cons pe_int pa_nil)))) pss_nil)
      (pss_one (ps_ret (pe_lcX (own := [("cell", 3)]) (g := gName 3) rfl nn rfl rfl takesA (pi_list (pv 2)) (blkOk_by (N := n_l_rounds) (sc := defScope s_l_rounds) (by decide +kernel))
        (fun _ _ _ _ _ => pg_name (i := 3) nn rfl (Or.inl rfl)) (fun _ _ _ _ _ => pts_nil) (fun _ _ _ _ _ _ _ px => pe_cx (ok_dice (P := P) (w := w) C) hr (by decide) rfl px (pa_cons (pv 3) pa_nil)))))), ?_⟩
    refine ⟨_, rfl, _, rfl, _, rfl, sa, _, rfl, hs, fun p hp => ?_⟩
    have ecut : cutV (ns.map V.int) none (some 1) = (ns.take 1).map V.int := by rw [List.map_take]; exact cutV_take _ 1
    rw [ecut]
    have L1 := (Le.refl hT).new (o := .lst ((ns.take 1).map V.int)) hp
    have hp1 : upd H p (.lst ((ns.take 1).map V.int)) p = some (.lst ((ns.take 1).map V.int)) := upd_same
    generalize upd H p (.lst ((ns.take 1).map V.int)) = H1 at L1 hp1
    refine ⟨fun σ' H' => ∃ (q : Addr) (n : Int), σ' = [some (.ref sa), some (.int 1), some (.ref q), none] ∧ Le (T K) H H' ∧ H' q = some (.lst [.int n]), ?_, ?_⟩
    · refine ⟨_, rfl, by show 0 ≤ sizeLine; decide, fun e he => ?_⟩
      have hpe : p ≠ e := ne_of_none hp1 he
      refine ⟨.list ((ns.take 1).map PyData.int), .list (([] : List Int).map PyData.int), .lst (SqL.of ((upd_ne hpe).trans hp1)) (DpAll.ints _), .lst (SqL.of upd_same) .nil, shaped_ints _, shaped_ints [], _, rfl, ?_⟩
      have ev : PyData.eqv (.list ((ns.take 1).map PyData.int)) (.list (([] : List Int).map PyData.int)) = decide (ns.take 1 = []) := eqv_ints _ []
      rw [ev]
      cases ns with
      | nil =>
        refine iteT ⟨by show 1 ≤ sizeLine; decide, fun q hqn => ⟨q, 0, rfl, (L1.new he).new hqn, upd_same⟩⟩
      | cons n r =>
        refine iteF ⟨p, n, rfl, L1.new he, (upd_ne hpe).trans hp1⟩
    · rintro σ' H2 ⟨q, n, rfl, L2, hq2⟩
      refine ⟨_, rfl, q, rfl, ⟨_, SqL.of hq2⟩, fun D hD => ?_⟩
      refine lc_list (K := K) (a := q) (xs := [V.int n]) (fun i H' => Le (T K) H2 H' ∧ (i = 0 → H' D = some (.lst [])) ∧ (i = 1 → ∃ d x y z, H' D = some (.lst [.ref d]) ∧ H' d = some (dV x y z) ∧ H2 d = none)) ⟨(Le.refl L2.tab).new hD, fun _ => upd_same, fun z => by cases z⟩ (fun i H' _ hP => SqL.of (hP.1.at hq2)) (fun i x H3 hx ⟨L3, h0, h1⟩ => ?_) (fun H3 ⟨L3, h0, h1⟩ => ?_)
      · cases i with
        | succ i => cases hx
        | zero =>
          have hx : V.int n = x := Option.some.inj hx
          subst hx
          have hD3 := h0 rfl
          refine ⟨rfl, ?_⟩
          refine yes_ ?_
          refine iteT ?_
          refine ⟨_, rfl, n, rfl, fun x y z d hd => ?_⟩
          have hDd : D ≠ d := ne_of_none hD3 hd
          have hD4 : upd H3 d (dV x y z) D = some (.lst []) := (upd_ne hDd).trans hD3
          exact ⟨_, hD4, by show 0 < sizeLine; decide, (L3.new hd).set hD hD4, (fun q => by cases q), fun _ => ⟨d, x, y, z, upd_same, (upd_ne (Ne.symm hDd)).trans upd_same, L3.no d hd⟩⟩
      · obtain ⟨d, x, y, z, g1, g2, g3⟩ := h1 rfl
        exact hq H3 D d x y z (L2.trans L3) g1 g2 (L2.no d g3)
end
end K2

-- text K2M
set_option maxRecDepth 100000
set_option maxHeartbeats 4000000
namespace K2
open PySem PySem.Spec PyProof.Rows L2 LamX GX
section
variable {P : Program} {w : World} {K : PySem.W.Frag} {mg : Str → Option Value} {base : Heap}
/-! ### the law's own sight -/
def isGrid (H : Hp) (r : Addr) (rs : List (List Int)) : Prop := ∃ L : List (Addr × List Int), H r = some (.lst (L.map fun x => V.ref x.1)) ∧ (∀ x ∈ L, H x.1 = some (.lst (x.2.map V.int))) ∧ L.map (·.2) = rs
theorem Le.grid {T : List (Addr × Str)} {H H' : Hp} {l : Addr} {rs : List (List Int)} (x : Le T H H') (h : isGrid H l rs) : isGrid H' l rs := by
  obtain ⟨L, h1, h2, h3⟩ := h
  exact ⟨L, x.at h1, fun y hy => x.at (h2 y hy), h3⟩
def lAl (a b : Tw) (x y : Int) : Int := if iabs (b.2.1 - a.2.1) ≤ iabs (b.1 - a.1) then iabs (x - a.1) else iabs (y - a.2.1)
def lOn (a b : Tw) (s x y : Int) : Bool := decide (lAl a b x y = s) && (decide (0 ≤ (x - a.1) * (b.1 - a.1)) && decide (0 ≤ (y - a.2.1) * (b.2.1 - a.2.1)))
def lOff (a b : Tw) (s x y : Int) : Int := if iabs (b.2.1 - a.2.1) ≤ iabs (b.1 - a.1) then iabs ((y - a.2.1) * stepsOf a b - (b.2.1 - a.2.1) * s) else iabs ((x - a.1) * stepsOf a b - (b.1 - a.1) * s)
def lBlk (rs : List (List Int)) (a b : Tw) (s x y : Int) : Bool := lOn a b s x y && (decide (2 * lOff a b s x y ≤ stepsOf a b) && blk rs a b s (x, y))
def lSees (rs : List (List Int)) (a b : Tw) : Bool := (List.range (stepsOf a b - 1).toNat).all fun k => (List.range rs.length).all fun y => (List.range (rs.headD []).length).all fun x => !lBlk rs a b (1 + (k : Int)) (x : Int) (y : Int)
def spLSees (K : PySem.W.Frag) : Sp := fun vs H Q E => ∃ (r o1 o2 : Addr) (rs : List (List Int)) (a b : Tw), vs = [.ref r, .ref o1, .ref o2] ∧ isGrid H r rs ∧ GoodL rs ∧ SqT K H o1 (tupT a) ∧ SqT K H o2 (tupT b) ∧ inT rs a ∧ inT rs b ∧ Q (.bl (lSees rs a b)) H
theorem grid_at {rs : List (List Int)} {H : Hp} {r : Addr} (h : isGrid H r rs) : ∃ L : List (Addr × List Int), H r = some (.lst (L.map fun x => V.ref x.1)) ∧ L.length = rs.length ∧ ∀ y : Nat, y < rs.length → ∃ u, L[y]? = some (u, rs.getD y []) ∧ H u = some (.lst ((rs.getD y []).map V.int)) := by
  obtain ⟨L, h1, h2, h3⟩ := h
  refine ⟨L, h1, by rw [← h3, List.length_map], fun y hy => ?_⟩
  have hy2 : y < L.length := by rw [← h3, List.length_map] at hy; exact hy
  refine ⟨L[y].1, ?_, ?_⟩
  · rw [List.getElem?_eq_getElem hy2]
    have : rs.getD y [] = L[y].2 := by rw [List.getD_eq_getElem?_getD, ← h3, List.getElem?_map, List.getElem?_eq_getElem hy2]; rfl
    rw [this]
  · have : rs.getD y [] = L[y].2 := by rw [List.getD_eq_getElem?_getD, ← h3, List.getElem?_map, List.getElem?_eq_getElem hy2]; rfl
    rw [this]
    exact h2 _ (List.getElem_mem hy2)
theorem atI_int {xs : List V} {i : Int} {v : V} (h0 : 0 ≤ i) (h : xs[i.toNat]? = some v) : atI xs i = some v := by
  have := atI_nat (j := i.toNat) h
  rwa [Int.toNat_of_nonneg h0] at this
theorem grid_cell {rs : List (List Int)} {H : Hp} {r : Addr} (g : GoodL rs) (h : isGrid H r rs) : ∃ L : List (Addr × List Int), H r = some (.lst (L.map fun x => V.ref x.1)) ∧ L.length = rs.length ∧
    (∀ x y : Int, inL rs x y → ∃ u, atI (L.map fun x => V.ref x.1) y = some (.ref u) ∧ H u = some (.lst ((rs.getD y.toNat []).map V.int)) ∧ atI ((rs.getD y.toNat []).map V.int) x = some (.int (atL rs x y))) ∧
    ∃ u, atI (L.map fun x => V.ref x.1) 0 = some (.ref u) ∧ H u = some (.lst ((rs.headD []).map V.int)) := by
  obtain ⟨L, h1, h2, h3⟩ := grid_at h
  refine ⟨L, h1, h2, fun x y hin => ?_, ?_⟩
  · obtain ⟨⟨y0, y1⟩, x0, x1⟩ := hin
    obtain ⟨u, e1, e2⟩ := h3 y.toNat (by omega)
    refine ⟨u, atI_int y0 (by rw [List.getElem?_map, e1]; rfl), e2, atI_int x0 ?_⟩
    have hm : rs.getD y.toNat [] ∈ rs := by
      rw [List.getD_eq_getElem?_getD, List.getElem?_eq_getElem (show y.toNat < rs.length by omega)]
      exact List.getElem_mem _
    have hlen := g.row _ hm
    have hx : x.toNat < (rs.getD y.toNat []).length := by omega
    rw [List.getElem?_map, List.getElem?_eq_getElem hx]
    unfold atL
    rw [List.getD_eq_getElem?_getD (l := rs.getD y.toNat []), List.getElem?_eq_getElem hx]
    rfl
  · have := g.h1
    obtain ⟨u, e1, e2⟩ := h3 0 (by omega)
    have e0 : rs.getD 0 [] = rs.headD [] := by cases rs <;> rfl
    rw [e0] at e1 e2
    exact ⟨u, atI_int (by decide) (by rw [List.getElem?_map]; show (L[0]?).map _ = _; rw [e1]; rfl), e2⟩
theorem ok_lsees (C : Ctx K mg base) : CalX P w K mg base 1 "_law_sees" ["rows", "one", "other"] (spLSees K) := by
  obtain ⟨fd, F⟩ := C.d.d_l_sees
  refine ⟨_, fd, ?_, F.funD.bindsN fun _ _ _ _ _ _ us hl => (match us, hl with | [_, _, _], _ => rfl), F.kp, C.t.m_l_sees⟩
  refine F.ok sc_l_sees (fun vs H Q E h => ?_) (fun A outer s H vs Q E hr h => ?_)
  · obtain ⟨r, o1, o2, rs, a, b, rfl, _⟩ := h
    rfl
  · obtain ⟨r, o1, o2, rs, a, b, rfl, hg, g, h1, h2, ha, hb, hq⟩ := h
    have nn := sc_l_sees.nd
    refine ⟨_, pss_cons (ps_par (i := 3) (j := 4) (by rfl) nn rfl rfl (by decide) rfl rfl
          (pa_cons (pe_op op_add (pe_ix ix_list (pe_ix ix_list (pv 0) (pe_ix ix_tup (pv 1) pe_int (fun _ _ => rfl)) (fun _ _ => rfl)) (pe_ix ix_tup (pv 1) pe_int (fun _ _ => rfl)) (fun _ _ => rfl)) (pe_ix ix_tup (pv 1) pe_int (fun _ _ => rfl)))
          (pa_cons (pe_op op_add (pe_ix ix_list (pe_ix ix_list (pv 0) (pe_ix ix_tup (pv 2) pe_int (fun _ _ => rfl)) (fun _ _ => rfl)) (pe_ix ix_tup (pv 2) pe_int (fun _ _ => rfl)) (fun _ _ => rfl)) (pe_ix ix_tup (pv 2) pe_int (fun _ _ => rfl))) pa_nil)) (by rfl))
      (pss_cons (ps_par (i := 5) (j := 6) (by rfl) nn rfl rfl (by decide) rfl rfl (pa_cons (pe_op op_sub (pe_ix ix_tup (pv 2) pe_int (fun _ _ => rfl)) (pe_ix ix_tup (pv 1) pe_int (fun _ _ => rfl))) (pa_cons (pe_op op_sub (pe_ix ix_tup (pv 2) pe_int (fun _ _ => rfl)) (pe_ix ix_tup (pv 1) pe_int (fun _ _ => rfl))) pa_nil)) (by rfl))
      (pss_cons (ps_set (i := 7) nn rfl (by first | exact Or.inl rfl | exact Or.inr rfl) (pe_callB (call_max2 rfl) (by rfl) C.t.b_max (by decide +kernel) (pa_cons (pe_callB call_abs (by rfl) C.t.b_abs (by decide +kernel) (pa_cons (pv 5) pa_nil)) (pa_cons (pe_callB call_abs (by rfl) C.t.b_abs (by decide +kernel) (pa_cons (pv 6) pa_nil)) pa_nil))))
      (pss_cons (ps_for ownsA rfl (pi_range2 (by rfl) C.t.b_range (pa_cons pe_int (pa_cons (pv 7) pa_nil))) (pg_name (i := 8) nn rfl (by first | exact Or.inl rfl | exact Or.inr rfl))
        (pss_one (ps_for ownsA rfl (pi_range1 (by rfl) C.t.b_range (pa_cons (pe_callB call_len_seq (by rfl) C.t.b_len PySem.boot_len (pa_cons (pv 0) pa_nil)) pa_nil)) (pg_name (i := 9) nn rfl (by first | exact Or.inl rfl | exact Or.inr rfl))
        (pss_one (ps_for ownsA rfl (pi_range1 (by rfl) C.t.b_range (pa_cons (pe_callB call_len_seq (by rfl) C.t.b_len PySem.boot_len (pa_cons (pe_ix ix_list (pv 0) pe_int (fun _ _ => rfl)) pa_nil)) pa_nil)) (pg_name (i := 10) nn rfl (by first | exact Or.inl rfl | exact Or.inr rfl))
          (pss_cons (ps_set (i := 11) nn rfl (by first | exact Or.inl rfl | exact Or.inr rfl) (pe_mid (pe_ifExp (pt_cmpR op_ge (pe_callB call_abs (by rfl) C.t.b_abs (by decide +kernel) (pa_cons (pv 5) pa_nil)) (pe_callB call_abs (by rfl) C.t.b_abs (by decide +kernel) (pa_cons (pv 6) pa_nil)) (nomark _)) (pe_callB call_abs (by rfl) C.t.b_abs (by decide +kernel) (pa_cons (pe_op op_sub (pv 10) (pe_ix ix_tup (pv 1) pe_int (fun _ _ => rfl))) pa_nil)) (pe_callB call_abs (by rfl) C.t.b_abs (by decide +kernel) (pa_cons (pe_op op_sub (pv 9) (pe_ix ix_tup (pv 1) pe_int (fun _ _ => rfl))) pa_nil)))))
          (pss_cons (ps_set (i := 12) nn rfl (by first | exact Or.inl rfl | exact Or.inr rfl) (pe_mid (pe_and (pe_cmpR op_eq (pv 11) (pv 8) (nomark _)) (pe_and (pe_cmpR op_ge (pe_op op_mul (pe_op op_sub (pv 10) (pe_ix ix_tup (pv 1) pe_int (fun _ _ => rfl))) (pv 5)) pe_int (nomark _)) (pe_one (pe_cmpR op_ge (pe_op op_mul (pe_op op_sub (pv 9) (pe_ix ix_tup (pv 1) pe_int (fun _ _ => rfl))) (pv 6)) pe_int (nomark _)))))))
          (pss_cons (ps_set (i := 13) nn rfl (by first | exact Or.inl rfl | exact Or.inr rfl) (pe_mid (pe_ifExp (pt_cmpR op_ge (pe_callB call_abs (by rfl) C.t.b_abs (by decide +kernel) (pa_cons (pv 5) pa_nil)) (pe_callB call_abs (by rfl) C.t.b_abs (by decide +kernel) (pa_cons (pv 6) pa_nil)) (nomark _)) (pe_callB call_abs (by rfl) C.t.b_abs (by decide +kernel) (pa_cons (pe_op op_sub (pe_op op_mul (pe_op op_sub (pv 9) (pe_ix ix_tup (pv 1) pe_int (fun _ _ => rfl))) (pv 7)) (pe_op op_mul (pv 6) (pv 8))) pa_nil)) (pe_callB call_abs (by rfl) C.t.b_abs (by decide +kernel) (pa_cons (pe_op op_sub (pe_op op_mul (pe_op op_sub (pv 10) (pe_ix ix_tup (pv 1) pe_int (fun _ _ => rfl))) (pv 7)) (pe_op op_mul (pv 5) (pv 8))) pa_nil)))))
          (pss_one (ps_if (PW.pt (pw_and (pt_val (pv 12)) (pw_and (pt_cmpR op_le (pe_op op_mul pe_int (pv 13)) (pv 7) (nomark _)) (pw_and1 (pt_cmpR op_gt (pe_op op_mul (pe_ix ix_list (pe_ix ix_list (pv 0) (pv 9) (fun _ _ => rfl)) (pv 10) (fun _ _ => rfl)) (pv 7)) (pe_op op_add (pe_op op_mul (pv 3) (pe_op op_sub (pv 7) (pv 8))) (pe_op op_mul (pv 4) (pv 8))) (nomark _)))))) (pss_one (ps_ret pe_bl)) pss_nil))))))))))
      (pss_one (ps_ret pe_bl))))), ?_⟩
    obtain ⟨L, hL, hLl, cell, u0, hu01, hu02⟩ := grid_cell g hg
    obtain ⟨s0, s20⟩ := steps_bound g ha hb
    obtain ⟨ua, ca1, ca2, ca3⟩ := cell _ _ ha
    obtain ⟨ub, cb1, cb2, cb3⟩ := cell _ _ hb
    refine ⟨_, rfl, _, rfl, o1, _, _, _, rfl, rfl, h1, atI_nat (j := 1) rfl, r, _, _, _, rfl, rfl, SqL.of hL, ca1, _, rfl, o1, _, _, _, rfl, rfl, h1, atI_nat (j := 0) rfl, ua, _, _, _, rfl, rfl, SqL.of ca2, ca3, _, rfl, o1, _, _, _, rfl, rfl, h1, atI_nat (j := 2) rfl, _, _, rfl, rfl,
      _, rfl, _, rfl, o2, _, _, _, rfl, rfl, h2, atI_nat (j := 1) rfl, r, _, _, _, rfl, rfl, SqL.of hL, cb1, _, rfl, o2, _, _, _, rfl, rfl, h2, atI_nat (j := 0) rfl, ub, _, _, _, rfl, rfl, SqL.of cb2, cb3, _, rfl, o2, _, _, _, rfl, rfl, h2, atI_nat (j := 2) rfl, _, _, rfl, rfl, _, _, rfl, ?_⟩
    refine ⟨_, rfl, o2, _, _, _, rfl, rfl, h2, atI_nat (j := 0) rfl, _, rfl, o1, _, _, _, rfl, rfl, h1, atI_nat (j := 0) rfl, _, _, rfl, rfl, _, rfl, o2, _, _, _, rfl, rfl, h2, atI_nat (j := 1) rfl, _, rfl, o1, _, _, _, rfl, rfl, h1, atI_nat (j := 1) rfl, _, _, rfl, rfl, _, _, rfl, ?_⟩
    refine ⟨_, rfl, _, rfl, _, rfl, _, rfl, _, _, rfl, ?_⟩
    refine ⟨_, rfl, _, _, rfl, ⟨by omega, by omega, ?_, ?_⟩, ?_⟩
    · show -(2 ^ 62) ≤ stepsOf a b
      omega
    · show stepsOf a b < 2 ^ 62
      omega
    have lh := g.h2
    have lw := g.w2
    obtain ⟨⟨ba1, ba2⟩, ba3, ba4⟩ := id ha
    obtain ⟨⟨bb1, bb2⟩, bb3, bb4⟩ := id hb
    refine for_range (lo := 1) (n := (stepsOf a b - 1).toNat) (fun i σ H' => H' = H ∧ (∃ a8 a9 a10 a11 a12 a13, σ = [some (.ref r), some (.ref o1), some (.ref o2), some (.int (topOf rs a)), some (.int (topOf rs b)), some (.int (b.1 - a.1)), some (.int (b.2.1 - a.2.1)), some (.int (stepsOf a b)), a8, a9, a10, a11, a12, a13]) ∧
        ∀ k, k < i → ∀ y, y < rs.length → ∀ x, x < (rs.headD []).length → lBlk rs a b (1 + (k : Int)) ((x : Nat) : Int) ((y : Nat) : Int) = false)
      ⟨rfl, ⟨_, _, _, _, _, _, rfl⟩, fun k hk => absurd hk (Nat.not_lt_zero k)⟩ (fun i σ H1 hi ⟨hH, ⟨a8, a9, a10, a11, a12, a13, hσ⟩, hno⟩ => ?_) (fun σ H1 ⟨hH, ⟨a8, a9, a10, a11, a12, a13, hσ⟩, hno⟩ => ?_)
    · subst hH hσ
      have hs1 : 0 < (1 : Int) + (i : Int) := by omega
      have hs2 : (1 : Int) + (i : Int) < stepsOf a b := by omega
      refine ⟨_, rfl, r, _, rfl, .inl (SqL.of hL), _, rfl, ?_⟩
      rw [List.length_map, hLl]
      refine ⟨by omega, by omega, ?_⟩
      refine for_range (lo := 0) (n := rs.length) (fun j σ H' => H' = H1 ∧ (∃ a9 a10 a11 a12 a13, σ = [some (.ref r), some (.ref o1), some (.ref o2), some (.int (topOf rs a)), some (.int (topOf rs b)), some (.int (b.1 - a.1)), some (.int (b.2.1 - a.2.1)), some (.int (stepsOf a b)), some (.int (1 + (i : Int))), a9, a10, a11, a12, a13]) ∧
          ∀ y, y < j → ∀ x, x < (rs.headD []).length → lBlk rs a b (1 + (i : Int)) ((x : Nat) : Int) ((y : Nat) : Int) = false)
        ⟨rfl, ⟨_, _, _, _, _, rfl⟩, fun k hk => absurd hk (Nat.not_lt_zero k)⟩ (fun j σ H' hj ⟨hH, ⟨a9, a10, a11, a12, a13, hσ⟩, hnj⟩ => ?_) (fun σ H' ⟨hH, ⟨a9, a10, a11, a12, a13, hσ⟩, hnj⟩ => ?_)
      · subst hH hσ
        refine ⟨_, rfl, r, _, _, _, rfl, rfl, SqL.of hL, hu01, u0, _, rfl, .inl (SqL.of hu02), _, rfl, ?_⟩
        rw [List.length_map]
        refine ⟨by omega, by omega, ?_⟩
        refine for_range (lo := 0) (n := (rs.headD []).length) (fun m σ H0 => H0 = H' ∧ (∃ a10 a11 a12 a13, σ = [some (.ref r), some (.ref o1), some (.ref o2), some (.int (topOf rs a)), some (.int (topOf rs b)), some (.int (b.1 - a.1)), some (.int (b.2.1 - a.2.1)), some (.int (stepsOf a b)), some (.int (1 + (i : Int))), some (.int (0 + (j : Int))), a10, a11, a12, a13]) ∧
            ∀ x, x < m → lBlk rs a b (1 + (i : Int)) ((x : Nat) : Int) ((j : Nat) : Int) = false)
          ⟨rfl, ⟨_, _, _, _, rfl⟩, fun k hk => absurd hk (Nat.not_lt_zero k)⟩ (fun m σ H0 hm ⟨hH, ⟨a10, a11, a12, a13, hσ⟩, hnm⟩ => ?_) (fun σ H0 ⟨hH, ⟨a10, a11, a12, a13, hσ⟩, hnm⟩ => ?_)
        · subst hH hσ
          have hin : inL rs (0 + (m : Int)) (0 + (j : Int)) := ⟨⟨by omega, by omega⟩, by omega, by omega⟩
          obtain ⟨uc, cc1, cc2, cc3⟩ := cell _ _ hin
          refine ⟨fun v H2 => v = .int (lAl a b (0 + (m : Int)) (0 + (j : Int))) ∧ H0 = H2, ?_, ?_⟩
          · refine ⟨_, rfl, _, rfl, _, rfl, _, rfl, _, _, rfl, rfl, _, rfl, ?_⟩
            unfold lAl
            by_cases hw : iabs (b.2.1 - a.2.1) ≤ iabs (b.1 - a.1)
            · rw [if_pos hw]
              refine iteDT hw ⟨_, rfl, _, rfl, o1, _, _, _, rfl, rfl, h1, atI_nat (j := 0) rfl, _, _, rfl, rfl, _, rfl, ?_⟩
              exact ⟨rfl, rfl⟩
            · rw [if_neg hw]
              refine iteDF hw ⟨_, rfl, _, rfl, o1, _, _, _, rfl, rfl, h1, atI_nat (j := 1) rfl, _, _, rfl, rfl, _, rfl, ?_⟩
              exact ⟨rfl, rfl⟩
          rintro v H2 ⟨rfl, rfl⟩
          refine ⟨fun v H2 => v = .bl (lOn a b (1 + (i : Int)) (0 + (m : Int)) (0 + (j : Int))) ∧ H0 = H2, ?_, ?_⟩
          · refine ⟨_, rfl, _, rfl, rfl, _, rfl, ?_⟩
            unfold lOn
            by_cases q1 : lAl a b (0 + (m : Int)) (0 + (j : Int)) = 1 + (i : Int)
            · rw [decide_eq_true q1, Bool.true_and]
              refine iteDT (show V.int _ = V.int _ by rw [q1]) ⟨_, rfl, _, rfl, o1, _, _, _, rfl, rfl, h1, atI_nat (j := 0) rfl, _, _, rfl, rfl, _, rfl, _, _, rfl, rfl, .inl ⟨by omega, by omega⟩, _, _, rfl, rfl, _, rfl, ?_⟩
              by_cases q2 : 0 ≤ (0 + (m : Int) - a.1) * (b.1 - a.1)
              · rw [decide_eq_true q2, Bool.true_and]
                refine iteT ⟨_, rfl, _, rfl, o1, _, _, _, rfl, rfl, h1, atI_nat (j := 1) rfl, _, _, rfl, rfl, _, rfl, _, _, rfl, rfl, .inl ⟨by omega, by omega⟩, _, _, rfl, rfl, ?_⟩
                exact ⟨rfl, rfl⟩
              · rw [decide_eq_false q2, Bool.false_and]
                refine iteF ?_
                exact ⟨rfl, rfl⟩
            · rw [decide_eq_false q1, Bool.false_and]
              refine iteDF (show ¬ V.int _ = V.int _ from fun z => q1 (V.int.inj z)) ?_
              exact ⟨rfl, rfl⟩
          rintro v H2 ⟨rfl, rfl⟩
          refine ⟨fun v H2 => v = .int (lOff a b (1 + (i : Int)) (0 + (m : Int)) (0 + (j : Int))) ∧ H0 = H2, ?_, ?_⟩
          · refine ⟨_, rfl, _, rfl, _, rfl, _, rfl, _, _, rfl, rfl, _, rfl, ?_⟩
            unfold lOff
            by_cases hw : iabs (b.2.1 - a.2.1) ≤ iabs (b.1 - a.1)
            · rw [if_pos hw]
              exact iteDT hw ⟨_, rfl, _, rfl, o1, _, _, _, rfl, rfl, h1, atI_nat (j := 1) rfl, _, _, rfl, rfl, _, rfl, _, _, rfl, rfl, .inl ⟨by omega, by omega⟩, _, rfl, _, rfl, _, _, rfl, rfl, .inr ⟨by omega, by omega⟩, _, _, rfl, rfl, _, rfl, rfl, rfl⟩
            · rw [if_neg hw]
              exact iteDF hw ⟨_, rfl, _, rfl, o1, _, _, _, rfl, rfl, h1, atI_nat (j := 0) rfl, _, _, rfl, rfl, _, rfl, _, _, rfl, rfl, .inl ⟨by omega, by omega⟩, _, rfl, _, rfl, _, _, rfl, rfl, .inr ⟨by omega, by omega⟩, _, _, rfl, rfl, _, rfl, rfl, rfl⟩
          rintro v H2 ⟨rfl, rfl⟩
          have fall : lBlk rs a b (1 + (i : Int)) (0 + (m : Int)) (0 + (j : Int)) = false → H0 = H0 ∧ (∃ a10 a11 a12 a13, ([some (.ref r), some (.ref o1), some (.ref o2), some (.int (topOf rs a)), some (.int (topOf rs b)), some (.int (b.1 - a.1)), some (.int (b.2.1 - a.2.1)), some (.int (stepsOf a b)), some (.int (1 + (i : Int))), some (.int (0 + (j : Int))), some (.int (0 + (m : Int))), some (.int (lAl a b (0 + (m : Int)) (0 + (j : Int)))), some (.bl (lOn a b (1 + (i : Int)) (0 + (m : Int)) (0 + (j : Int)))), some (.int (lOff a b (1 + (i : Int)) (0 + (m : Int)) (0 + (j : Int))))] : L2.St) = [some (.ref r), some (.ref o1), some (.ref o2), some (.int (topOf rs a)), some (.int (topOf rs b)), some (.int (b.1 - a.1)), some (.int (b.2.1 - a.2.1)), some (.int (stepsOf a b)), some (.int (1 + (i : Int))), some (.int (0 + (j : Int))), a10, a11, a12, a13]) ∧
              ∀ x, x < m + 1 → lBlk rs a b (1 + (i : Int)) ((x : Nat) : Int) ((j : Nat) : Int) = false := fun hz => ⟨rfl, ⟨_, _, _, _, rfl⟩, fun x hx => by
            by_cases hxm : x = m
            · rw [hxm]
              rw [Int.zero_add, Int.zero_add] at hz
              exact hz
            · exact hnm x (by omega)⟩
          refine ⟨_, rfl, _, rfl, ?_⟩
          have elb : lBlk rs a b (1 + (i : Int)) (0 + (m : Int)) (0 + (j : Int)) = (lOn a b (1 + (i : Int)) (0 + (m : Int)) (0 + (j : Int)) && (decide (2 * lOff a b (1 + (i : Int)) (0 + (m : Int)) (0 + (j : Int)) ≤ stepsOf a b) && blk rs a b (1 + (i : Int)) (0 + (m : Int), 0 + (j : Int)))) := rfl
          rw [elb] at fall
          have hbad : lBlk rs a b (1 + (i : Int)) (0 + (m : Int)) (0 + (j : Int)) = true → lSees rs a b = false := fun z => by
            unfold lSees
            rw [List.all_eq_false]
            refine ⟨i, List.mem_range.mpr hi, ?_⟩
            simp only [Bool.not_eq_true, List.all_eq_false]
            refine ⟨j, List.mem_range.mpr hj, m, List.mem_range.mpr hm, ?_⟩
            rw [Int.zero_add, Int.zero_add] at z
            rw [z]; rfl
          rw [elb] at hbad
          cases hon : lOn a b (1 + (i : Int)) (0 + (m : Int)) (0 + (j : Int)) with
          | false =>
            refine iteF (iteF ?_)
            rw [hon] at fall
            exact fall rfl
          | true =>
            rw [hon] at fall hbad
            refine iteT ⟨_, rfl, _, _, rfl, rfl, .inl ⟨by decide, by decide⟩, _, rfl, _, _, rfl, rfl, _, rfl, ?_⟩
            by_cases q : 2 * lOff a b (1 + (i : Int)) (0 + (m : Int)) (0 + (j : Int)) ≤ stepsOf a b
            · rw [decide_eq_true q] at fall hbad
              refine iteDT q ⟨_, rfl, _, rfl, r, _, _, _, rfl, rfl, SqL.of hL, cc1, _, rfl, uc, _, _, _, rfl, rfl, SqL.of cc2, cc3, _, rfl, _, _, rfl, rfl, .inr ⟨by omega, by omega⟩, _, rfl, _, rfl, _, rfl, _, _, rfl, rfl, _, _, rfl, rfl, .inr ⟨by omega, by omega⟩, _, rfl, _, rfl, _, _, rfl, rfl, .inr ⟨by omega, by omega⟩, _, _, rfl, rfl, _, _, rfl, rfl, _, rfl, ?_⟩
              have hbk : decide (topOf rs a * (stepsOf a b - (1 + (i : Int))) + topOf rs b * (1 + (i : Int)) < atL rs (0 + (m : Int)) (0 + (j : Int)) * stepsOf a b) = blk rs a b (1 + (i : Int)) (0 + (m : Int), 0 + (j : Int)) := rfl
              rw [hbk]
              cases hb2 : blk rs a b (1 + (i : Int)) (0 + (m : Int), 0 + (j : Int)) with
              | false =>
                rw [hb2] at fall
                exact iteF (fall rfl)
              | true =>
                rw [hb2] at hbad
                rw [hbad rfl] at hq
                exact iteT hq
            · rw [decide_eq_false q] at fall
              exact iteDF q (iteF (fall rfl))
        · subst hH hσ
          refine ⟨rfl, ⟨_, _, _, _, _, rfl⟩, fun y hy x hx => ?_⟩
          by_cases hki : y = j
          · rw [hki]; exact hnm x hx
          · exact hnj y (by omega) x hx
      · subst hH hσ
        refine ⟨rfl, ⟨_, _, _, _, _, _, rfl⟩, fun k hk y hy x hx => ?_⟩
        by_cases hki : k = i
        · rw [hki]; exact hnj y hy x hx
        · exact hno k (by omega) y hy x hx
    · subst hH hσ
      have : lSees rs a b = true := by
        unfold lSees
        refine List.all_eq_true.mpr fun k hk => List.all_eq_true.mpr fun y hy => List.all_eq_true.mpr fun x hx => ?_
        rw [hno k (List.mem_range.mp hk) y (List.mem_range.mp hy) x (List.mem_range.mp hx)]
        rfl
      rw [this] at hq
      exact hq
end
end K2

-- text K2Mb
set_option maxRecDepth 100000
set_option maxHeartbeats 4000000
namespace K2
open PySem PySem.Spec PyProof.Rows L2 LamX GX
section
variable {P : Program} {w : World} {K : PySem.W.Frag} {mg : Str → Option Value} {base : Heap}
/-! ### parts: the law's rows and the program's are the same -/
theorem flat_uniq : ∀ {R : List (List Str)}, R.flatten.Nodup → ∀ {r s : List Str} {x : Str}, r ∈ R → s ∈ R → x ∈ r → x ∈ s → r = s
  | [], _, _, _, _, hr, _, _, _ => by cases hr
  | t :: R, nd, r, s, x, hr, hs, hx, hy => by
    rw [List.flatten_cons] at nd
    obtain ⟨_, n2, n3⟩ := List.nodup_append.mp nd
    rcases List.mem_cons.mp hr with e1 | hr
    · rcases List.mem_cons.mp hs with e2 | hs
      · rw [e1, e2]
      · exact absurd rfl (n3 x (e1 ▸ hx) x (List.mem_flatten.mpr ⟨s, hs, hy⟩))
    · rcases List.mem_cons.mp hs with e2 | hs
      · exact absurd rfl (n3 x (e2 ▸ hy) x (List.mem_flatten.mpr ⟨r, hr, hx⟩))
      · exact flat_uniq n2 hr hs hx hy
theorem rows_nd : ∀ {R : List (List Str)}, R.flatten.Nodup → (∀ r ∈ R, r ≠ []) → R.Nodup
  | [], _, _ => List.nodup_nil
  | t :: R, nd, ne => by
    rw [List.flatten_cons] at nd
    obtain ⟨_, n2, n3⟩ := List.nodup_append.mp nd
    refine List.nodup_cons.mpr ⟨fun h => ?_, rows_nd n2 fun r hr => ne r (List.mem_cons_of_mem _ hr)⟩
    obtain ⟨x, hx⟩ := List.exists_mem_of_ne_nil _ (ne t List.mem_cons_self)
    exact n3 x hx x (List.mem_flatten.mpr ⟨t, h, hx⟩) rfl
theorem take_two {R : List (List Str)} (nd : R.Nodup) {a b : List Str} (ha : a ∈ R) (hb : b ∈ R) (h : a ≠ b) : R.Perm (a :: b :: R.filter fun r => !(decide (r = a) || decide (r = b))) := by
  refine (List.perm_ext_iff_of_nodup nd ?_).mpr fun x => ?_
  · refine List.nodup_cons.mpr ⟨fun z => ?_, List.nodup_cons.mpr ⟨fun z => ?_, nd.filter _⟩⟩
    · rcases List.mem_cons.mp z with z | z
      · exact h z
      · simp at z
    · simp at z
  · simp only [List.mem_cons, List.mem_filter, Bool.not_eq_true', Bool.or_eq_false_iff, decide_eq_false_iff_not]
    constructor
    · intro hx
      by_cases h1 : x = a
      · exact .inl h1
      · by_cases h2 : x = b
        · exact .inr (.inl h2)
        · exact .inr (.inr ⟨hx, h1, h2⟩)
    · rintro (rfl | rfl | ⟨hx, _⟩) <;> assumption
def rowOf (R : List (List Str)) (x : Str) : List Str := (R.filter fun r => decide (x ∈ r)).headD []
theorem rowOf_mem {R : List (List Str)} {x : Str} (h : x ∈ R.flatten) : rowOf R x ∈ R ∧ x ∈ rowOf R x := by
  obtain ⟨r, hr, hx⟩ := List.mem_flatten.mp h
  have hf : r ∈ R.filter fun r => decide (x ∈ r) := List.mem_filter.mpr ⟨hr, decide_eq_true hx⟩
  unfold rowOf
  cases e : R.filter fun r => decide (x ∈ r) with
  | nil => rw [e] at hf; cases hf
  | cons a l =>
    have : a ∈ R.filter fun r => decide (x ∈ r) := by rw [e]; exact List.mem_cons_self
    obtain ⟨h1, h2⟩ := List.mem_filter.mp this
    exact ⟨h1, of_decide_eq_true h2⟩
def lgStep (R : List (List Str)) (l : Lk3) : List (List Str) := if rowOf R l.1 = rowOf R l.2.1 then R else (R.filter fun r => !(decide (r = rowOf R l.1) || decide (r = rowOf R l.2.1))) ++ [rowOf R l.1 ++ rowOf R l.2.1]
def lgRows (ns : List Str) (ls : List Lk3) : List (List Str) := ls.foldl lgStep ((sortS ns).map fun n => [n])
theorem adj_snoc {ls : List Lk3} {l : Lk3} {a b : Str} (h : Adj (ls ++ [l]) a b) : Adj ls a b ∨ (a = l.1 ∧ b = l.2.1) ∨ (a = l.2.1 ∧ b = l.1) := by
  obtain ⟨k, hk, z⟩ := h
  rcases List.mem_append.mp hk with hk | hk
  · exact .inl ⟨k, hk, z⟩
  · rw [List.mem_singleton.mp hk] at z
    rcases z with ⟨rfl, rfl⟩ | ⟨rfl, rfl⟩
    · exact .inr (.inl ⟨rfl, rfl⟩)
    · exact .inr (.inr ⟨rfl, rfl⟩)
theorem lgStep_part {ns : List Str} {ls : List Lk3} {R : List (List Str)} (nd : ns.Nodup) (p : IsPart ns ls R) {l : Lk3} (h1 : l.1 ∈ ns) (h2 : l.2.1 ∈ ns) : IsPart ns (ls ++ [l]) (lgStep R l) := by
  have fnd := p.perm.nodup_iff.mpr nd
  obtain ⟨a1, a2⟩ := rowOf_mem (p.perm.mem_iff.mpr h1)
  obtain ⟨b1, b2⟩ := rowOf_mem (p.perm.mem_iff.mpr h2)
  have mono : ∀ {a b}, Con ls a b → Con (ls ++ [l]) a b := fun h => h.sub fun k hk => List.mem_append_left _ hk
  have hl : Con (ls ++ [l]) l.1 l.2.1 := .link (List.mem_append_right _ List.mem_cons_self)
  unfold lgStep
  by_cases e : rowOf R l.1 = rowOf R l.2.1
  · rw [if_pos e]
    rw [← e] at b2
    refine ⟨p.perm, fun r hr a ha b hb => mono (p.con r hr a ha b hb), fun r hr a ha b hb => ?_, p.ne⟩
    rcases adj_snoc hb with hb | ⟨rfl, rfl⟩ | ⟨rfl, rfl⟩
    · exact p.cl r hr a ha b hb
    · rw [flat_uniq fnd hr a1 ha a2]; exact b2
    · rw [flat_uniq fnd hr a1 ha b2]; exact a2
  · rw [if_neg e]
    generalize rowOf R l.1 = ra at *
    generalize rowOf R l.2.1 = rb at *
    have tk := take_two (rows_nd fnd p.ne) a1 b1 e
    have mem : ∀ {r}, r ∈ (R.filter fun r => !(decide (r = ra) || decide (r = rb))) ++ [ra ++ rb] ↔ (r ∈ R ∧ r ≠ ra ∧ r ≠ rb) ∨ r = ra ++ rb := fun {r} => by
      simp only [List.mem_append, List.mem_filter, Bool.not_eq_true', Bool.or_eq_false_iff, decide_eq_false_iff_not, List.mem_singleton, ne_eq]
    refine ⟨?_, fun r hr => ?_, fun r hr => ?_, fun r hr => ?_⟩
    · refine List.Perm.trans ?_ p.perm
      refine List.Perm.trans ?_ tk.flatten.symm
      rw [List.flatten_append, List.flatten_cons, List.flatten_cons, List.flatten_cons, List.flatten_nil, List.append_nil]
      exact List.perm_append_comm.trans (by rw [List.append_assoc])
    · rcases mem.mp hr with ⟨hr, _, _⟩ | rfl
      · exact fun a ha b hb => mono (p.con r hr a ha b hb)
      · have ab : ∀ x ∈ ra, ∀ y ∈ rb, Con (ls ++ [l]) x y := fun x hx y hy => ((mono (p.con ra a1 x hx _ a2)).trans hl).trans (mono (p.con rb b1 _ b2 y hy))
        intro x hx y hy
        rcases List.mem_append.mp hx with hx | hx <;> rcases List.mem_append.mp hy with hy | hy
        · exact mono (p.con ra a1 x hx y hy)
        · exact ab x hx y hy
        · exact (ab y hy x hx).symm
        · exact mono (p.con rb b1 x hx y hy)
    · rcases mem.mp hr with ⟨hr, n1, n2⟩ | rfl
      · intro a ha b hb
        rcases adj_snoc hb with hb | ⟨rfl, rfl⟩ | ⟨rfl, rfl⟩
        · exact p.cl r hr a ha b hb
        · exact absurd (flat_uniq fnd hr a1 ha a2) n1
        · exact absurd (flat_uniq fnd hr b1 ha b2) n2
      · intro a ha b hb
        rcases adj_snoc hb with hb | ⟨rfl, rfl⟩ | ⟨rfl, rfl⟩
        · rcases List.mem_append.mp ha with ha | ha
          · exact List.mem_append_left _ (p.cl ra a1 a ha b hb)
          · exact List.mem_append_right _ (p.cl rb b1 a ha b hb)
        · exact List.mem_append_right _ b2
        · exact List.mem_append_left _ a2
    · rcases mem.mp hr with ⟨hr, _, _⟩ | rfl
      · exact p.ne r hr
      · intro z
        have := List.append_eq_nil_iff.mp z
        exact p.ne ra a1 this.1
theorem lgFold_part {ns : List Str} (nd : ns.Nodup) : ∀ (ls done : List Lk3) (R : List (List Str)), IsPart ns done R → Within ns ls → IsPart ns (done ++ ls) (ls.foldl lgStep R)
  | [], done, R, p, _ => by rw [List.append_nil]; exact p
  | l :: ls, done, R, p, w => by
    have := lgFold_part nd ls (done ++ [l]) (lgStep R l) (lgStep_part nd p (w l List.mem_cons_self).1 (w l List.mem_cons_self).2) fun k hk => w k (List.mem_cons_of_mem _ hk)
    rw [List.append_assoc] at this
    exact this
theorem single_part (ns : List Str) : IsPart ns [] ((sortS ns).map fun n => [n]) := by
  have fl : ∀ l : List Str, (l.map fun n => [n]).flatten = l := fun l => by induction l with
    | nil => rfl
    | cons a l ih => rw [List.map_cons, List.flatten_cons, ih]; rfl
  refine ⟨by rw [fl]; exact sortS_perm ns, fun r hr => ?_, fun r hr a ha b hb => ?_, fun r hr => ?_⟩
  · obtain ⟨n, hn, rfl⟩ := List.mem_map.mp hr
    intro a ha b hb
    rw [List.mem_singleton.mp ha, List.mem_singleton.mp hb]
    exact .refl _
  · obtain ⟨l, hl, _⟩ := hb
    cases hl
  · obtain ⟨n, hn, rfl⟩ := List.mem_map.mp hr
    exact List.cons_ne_nil _ _
theorem lgRows_part {ns : List Str} {ls : List Lk3} (nd : ns.Nodup) (w : Within ns ls) : IsPart ns ls (lgRows ns ls) := lgFold_part nd ls [] _ (single_part ns) w
/-! uniqueness -/
def hd1 (r : List Str) : List Nat := (r.headD (S [])).cps.toList
def hdLt (r s : List Str) : Prop := hd1 r < hd1 s
theorem IsPart.nd {ns : List Str} {ls : List Lk3} {R : List (List Str)} (p : IsPart ns ls R) (nd : ns.Nodup) : R.flatten.Nodup := p.perm.nodup_iff.mpr nd
theorem IsPart.cls {ns : List Str} {ls : List Lk3} {R : List (List Str)} (p : IsPart ns ls R) {r : List Str} (hr : r ∈ R) {a b : Str} (ha : a ∈ r) (h : Con ls a b) : b ∈ r := h.cl (P := fun x => x ∈ r) (fun x y hx hy => p.cl r hr x hx y hy) ha
theorem part_sub {ns : List Str} {ls : List Lk3} {R1 R2 : List (List Str)} (nd : ns.Nodup) (p1 : IsPart ns ls R1) (p2 : IsPart ns ls R2) (s1 : ∀ r ∈ R1, sortS r = r) (s2 : ∀ r ∈ R2, sortS r = r) {r : List Str} (hr : r ∈ R1) : r ∈ R2 := by
  obtain ⟨a, ha⟩ := List.exists_mem_of_ne_nil _ (p1.ne r hr)
  have hn : a ∈ ns := p1.perm.mem_iff.mp (List.mem_flatten.mpr ⟨r, hr, ha⟩)
  obtain ⟨s, hs, has⟩ := List.mem_flatten.mp (p2.perm.mem_iff.mpr hn)
  have nr : r.Nodup := (List.sublist_flatten_of_mem hr).nodup (p1.nd nd)
  have ns' : s.Nodup := (List.sublist_flatten_of_mem hs).nodup (p2.nd nd)
  have hp : r.Perm s := (List.perm_ext_iff_of_nodup nr ns').mpr fun x => ⟨fun hx => p2.cls hs has (p1.con r hr a ha x hx), fun hx => p1.cls hr ha (p2.con s hs a has x hx)⟩
  have : r = s := by
    have e : sortS r = sortS s := sortS_is ((sortS_perm r).trans hp) (sortS_sorted r)
    rw [s1 r hr, s2 s hs] at e
    exact e
  rw [this]; exact hs
theorem uniq_sorted {α : Type} {lt : α → α → Prop} (irr : ∀ a, ¬ lt a a) (asy : ∀ a b, lt a b → ¬ lt b a) : ∀ {l m : List α}, l.Pairwise lt → m.Pairwise lt → (∀ x, x ∈ l ↔ x ∈ m) → l = m
  | [], [], _, _, _ => rfl
  | [], b :: m, _, _, h => absurd ((h b).mpr List.mem_cons_self) (by simp)
  | a :: l, [], _, _, h => absurd ((h a).mp List.mem_cons_self) (by simp)
  | a :: l, b :: m, h1, h2, h => by
    obtain ⟨a1, a2⟩ := List.pairwise_cons.mp h1
    obtain ⟨b1, b2⟩ := List.pairwise_cons.mp h2
    have e : a = b := by
      rcases List.mem_cons.mp ((h a).mp List.mem_cons_self) with z | z
      · exact z
      · rcases List.mem_cons.mp ((h b).mpr List.mem_cons_self) with z2 | z2
        · exact z2.symm
        · exact absurd (a1 b z2) (asy _ _ (b1 a z))
    subst e
    congr 1
    refine uniq_sorted irr asy a2 b2 fun x => ⟨fun hx => ?_, fun hx => ?_⟩
    · rcases List.mem_cons.mp ((h x).mp (List.mem_cons_of_mem _ hx)) with z | z
      · subst z; exact absurd (a1 x hx) (irr x)
      · exact z
    · rcases List.mem_cons.mp ((h x).mpr (List.mem_cons_of_mem _ hx)) with z | z
      · subst z; exact absurd (b1 x hx) (irr x)
      · exact z
theorem part_uniq {ns : List Str} {ls : List Lk3} {R1 R2 : List (List Str)} (nd : ns.Nodup) (p1 : IsPart ns ls R1) (p2 : IsPart ns ls R2) (s1 : ∀ r ∈ R1, sortS r = r) (s2 : ∀ r ∈ R2, sortS r = r) (o1 : R1.Pairwise hdLt) (o2 : R2.Pairwise hdLt) : R1 = R2 :=
  uniq_sorted (lt := hdLt) (fun a => List.lt_irrefl _) (fun a b h k => List.lt_irrefl _ (List.lt_trans h k)) o1 o2 fun x => ⟨part_sub nd p1 p2 s1 s2, part_sub nd p2 p1 s2 s1⟩
end
end K2

-- text K2Mc
set_option maxRecDepth 100000
set_option maxHeartbeats 4000000
namespace K2
open PySem PySem.Spec PyProof.Rows L2 LamX GX
section
variable {P : Program} {w : World} {K : PySem.W.Frag} {mg : Str → Option Value} {base : Heap}
/-! ### both are the same rows in the same order -/
def ltS (a b : Str) : Prop := a.cps.toList < b.cps.toList
instance (a b : Str) : Decidable (ltS a b) := by unfold ltS; exact inferInstance
theorem ltS_irr (a : Str) : ¬ ltS a a := List.lt_irrefl _
theorem ltS_trans {a b c : Str} (h : ltS a b) (k : ltS b c) : ltS a c := List.lt_trans h k
theorem leS_iff {a b : Str} : leS a b = true ↔ a = b ∨ ltS a b := by
  unfold leS ltS
  simp only [Bool.not_eq_true', decide_eq_false_iff_not]
  constructor
  · intro h
    by_cases e : a.cps.toList = b.cps.toList
    · exact .inl (PySem.W.str_of_cps e)
    · refine .inr ?_
      rcases List.le_iff_lt_or_eq.mp (List.not_lt.mp h) with z | z
      · exact z
      · exact absurd z e
  · rintro (rfl | h)
    · exact List.lt_irrefl _
    · exact fun z => List.lt_irrefl _ (List.lt_trans h z)
theorem sortS_pair (l : List Str) : (sortS l).Pairwise (fun a b => leS a b = true) := List.pairwise_mergeSort (le := leS) (fun a b c h1 h2 => by
    rcases leS_iff.mp h1 with rfl | h1
    · exact h2
    · rcases leS_iff.mp h2 with rfl | h2
      · exact leS_iff.mpr (.inr h1)
      · exact leS_iff.mpr (.inr (ltS_trans h1 h2))) (fun a b => by
    simp only [leS, Bool.or_eq_true, Bool.not_eq_true', decide_eq_false_iff_not]
    rcases List.le_total a.cps.toList b.cps.toList with z | z
    · exact .inl (List.not_lt.mpr z)
    · exact .inr (List.not_lt.mpr z)) l
theorem sortS_strict {l : List Str} (nd : l.Nodup) : (sortS l).Pairwise ltS := by
  have h2 : (sortS l).Nodup := (sortS_perm l).nodup_iff.mpr nd
  exact ((sortS_pair l).and h2).imp fun ⟨h, n⟩ => (leS_iff.mp h).resolve_left n
theorem sortS_idem (l : List Str) : sortS (sortS l) = sortS l := (sortS_is (List.Perm.refl _) (sortS_sorted l)).symm
theorem hd1_min {x : Str} {l : List Str} (hx : x ∈ l) (hm : ∀ y ∈ l, y = x ∨ ltS x y) : hd1 (sortS l) = x.cps.toList := by
  have hp := sortS_pair l
  have hx2 := (sortS_perm l).mem_iff.mpr hx
  have hm2 : ∀ y ∈ sortS l, y = x ∨ ltS x y := fun y hy => hm y ((sortS_perm l).mem_iff.mp hy)
  cases e : sortS l with
  | nil => rw [e] at hx2; cases hx2
  | cons h t =>
    rw [e] at hx2 hp hm2
    have : h = x := by
      rcases List.mem_cons.mp hx2 with z | z
      · exact z.symm
      · rcases leS_iff.mp ((List.pairwise_cons.mp hp).1 x z) with q | q
        · exact q
        · rcases hm2 h List.mem_cons_self with w | w
          · exact w
          · exact absurd (ltS_trans q w) (ltS_irr h)
    rw [this]
    rfl
theorem rowsOf_sorted (ls : List Lk3) : ∀ n left, ∀ r ∈ rowsOf ls n left, sortS r = r
  | 0, _, _, h => by cases h
  | _ + 1, [], _, h => by cases h
  | n + 1, x :: l, r, h => by
    have h : r ∈ sortS (dfs ls (x :: l) [] [x]).2 :: rowsOf ls n (dfs ls (x :: l) [] [x]).1 := h
    rcases List.mem_cons.mp h with rfl | h
    · exact sortS_idem _
    · exact rowsOf_sorted ls n _ r h
theorem rowsOf_heads (ls : List Lk3) : ∀ n left, left.Pairwise ltS → (rowsOf ls n left).Pairwise hdLt ∧ ∀ r ∈ rowsOf ls n left, ∃ x ∈ left, hd1 r = x.cps.toList
  | 0, _, _ => ⟨List.Pairwise.nil, fun r h => by cases h⟩
  | _ + 1, [], _ => ⟨List.Pairwise.nil, fun r h => by cases h⟩
  | n + 1, x :: l, hp => by
    have hs := dfs_sub ls (x :: l) [] [x]
    have hpm := dfs_perm ls (x :: l) [] [x]
    rw [List.append_nil] at hpm
    have hf := dfs_first (ls := ls) (x := x) (r := l)
    show (sortS (dfs ls (x :: l) [] [x]).2 :: rowsOf ls n (dfs ls (x :: l) [] [x]).1).Pairwise hdLt ∧ ∀ r ∈ sortS (dfs ls (x :: l) [] [x]).2 :: rowsOf ls n (dfs ls (x :: l) [] [x]).1, ∃ y ∈ x :: l, hd1 r = y.cps.toList
    generalize dfs ls (x :: l) [] [x] = d at *
    obtain ⟨p1, p2⟩ := List.pairwise_cons.mp hp
    have nd : (x :: l).Nodup := List.Pairwise.imp (S := fun a b => a ≠ b) (fun {a b} (h : ltS a b) (e : a = b) => ltS_irr b (by rw [e] at h; exact h)) hp
    have h1 : hd1 (sortS d.2) = x.cps.toList := hd1_min hf fun y hy => by
      rcases List.mem_cons.mp (hpm.mem_iff.mp (List.mem_append_right _ hy)) with z | z
      · exact .inl z
      · exact .inr (p1 y z)
    obtain ⟨i1, i2⟩ := rowsOf_heads ls n d.1 (hp.sublist hs)
    refine ⟨List.pairwise_cons.mpr ⟨fun r hr => ?_, i1⟩, fun r hr => ?_⟩
    · obtain ⟨y, hy, e⟩ := i2 r hr
      have hyx : y ∈ l := by
        rcases List.mem_cons.mp (hs.subset hy) with z | z
        · subst z
          exact absurd rfl ((List.nodup_append.mp (hpm.nodup_iff.mpr nd)).2.2 y hy y hf)
        · exact z
      unfold hdLt
      rw [h1, e]
      exact p1 y hyx
    · rcases List.mem_cons.mp hr with rfl | hr
      · exact ⟨x, List.mem_cons_self, h1⟩
      · obtain ⟨y, hy, e⟩ := i2 r hr
        exact ⟨y, hs.subset hy, e⟩
theorem joinedL_heads {ns : List Str} {ls : List Lk3} (nd : ns.Nodup) : (joinedL ns ls).Pairwise hdLt := (rowsOf_heads ls _ _ (sortS_strict nd)).1
theorem joinedL_sorted {ns : List Str} {ls : List Lk3} : ∀ r ∈ joinedL ns ls, sortS r = r := rowsOf_sorted ls _ _
/-! the law's order -/
theorem dle_trans {β : Type} (k : β → PyData) (a b c : β) (h1 : PySem.W.dataLe false k a b = true) (h2 : PySem.W.dataLe false k b c = true) : PySem.W.dataLe false k a c = true := by
  rw [PySem.W.dataLe_eq] at *
  have h1 : (!PySem.W.dataLt (k b) (k a)) = true := h1
  have h2 : (!PySem.W.dataLt (k c) (k b)) = true := h2
  show (!PySem.W.dataLt (k c) (k a)) = true
  rw [Bool.not_eq_true'] at *
  refine Bool.eq_false_iff.mpr fun z => ?_
  rcases PyProof.Rows.lex_negTrans (O := PyProof.Rows.itemOrd) _ (PySem.W.keyToks (k b)) _ z with q | q
  · exact absurd (show PySem.W.dataLt (k c) (k b) = true from q) (by rw [h2]; exact Bool.false_ne_true)
  · exact absurd (show PySem.W.dataLt (k b) (k a) = true from q) (by rw [h1]; exact Bool.false_ne_true)
theorem dle_total {β : Type} (k : β → PyData) (a b : β) : (PySem.W.dataLe false k a b || PySem.W.dataLe false k b a) = true := by
  rw [PySem.W.dataLe_eq]
  show ((!PySem.W.dataLt (k b) (k a)) || (!PySem.W.dataLt (k a) (k b))) = true
  cases h1 : PySem.W.dataLt (k b) (k a) with
  | false => rfl
  | true =>
    cases h2 : PySem.W.dataLt (k a) (k b) with
    | false => rfl
    | true =>
      have := PyProof.Rows.lex_trans (O := PyProof.Rows.itemOrd) _ _ _ h1 h2
      rw [PyProof.Rows.lex_irrefl] at this
      cases this
def tupS (r : List Str) : PyData := .tuple (r.map PyData.str)
def lGroups (ns : List Str) (ls : List Lk3) : List (List Str) := ((lgRows ns ls).map sortS).mergeSort (PySem.W.dataLe false tupS)
theorem tupS_lt {x y : Str} {r s : List Str} (h : x ≠ y) : PySem.W.dataLt (tupS (x :: r)) (tupS (y :: s)) = decide (ltS x y) := by
  unfold tupS
  rw [List.map_cons, List.map_cons, PySem.W.dataLt_tuple, PySem.W.dataLt_cons (by rfl), if_neg, PySem.W.dataLt_str]
  · rfl
  · intro z
    have : (x == y) = true := z
    exact h (eq_of_beq this)
theorem IsPart.perm' {ns : List Str} {ls : List Lk3} {R R2 : List (List Str)} (p : IsPart ns ls R) (h : R2.Perm R) : IsPart ns ls R2 :=
  ⟨h.flatten.trans p.perm, fun r hr => p.con r (h.mem_iff.mp hr), fun r hr => p.cl r (h.mem_iff.mp hr), fun r hr => p.ne r (h.mem_iff.mp hr)⟩
theorem flat_sorts : ∀ R : List (List Str), (R.map sortS).flatten.Perm R.flatten
  | [] => List.Perm.refl _
  | r :: R => by
    rw [List.map_cons, List.flatten_cons, List.flatten_cons]
    exact (sortS_perm r).append (flat_sorts R)
theorem IsPart.sorts {ns : List Str} {ls : List Lk3} {R : List (List Str)} (p : IsPart ns ls R) : IsPart ns ls (R.map sortS) := by
  refine ⟨(flat_sorts R).trans p.perm, fun r hr => ?_, fun r hr => ?_, fun r hr => ?_⟩
  · obtain ⟨q, hq, rfl⟩ := List.mem_map.mp hr
    exact fun a ha b hb => p.con q hq a ((sortS_perm q).mem_iff.mp ha) b ((sortS_perm q).mem_iff.mp hb)
  · obtain ⟨q, hq, rfl⟩ := List.mem_map.mp hr
    exact fun a ha b hb => (sortS_perm q).mem_iff.mpr (p.cl q hq a ((sortS_perm q).mem_iff.mp ha) b hb)
  · obtain ⟨q, hq, rfl⟩ := List.mem_map.mp hr
    intro z
    have := (sortS_perm q).length_eq
    rw [z] at this
    exact p.ne q hq (List.length_eq_zero_iff.mp this.symm)
theorem lGroups_part {ns : List Str} {ls : List Lk3} (nd : ns.Nodup) (w : Within ns ls) : IsPart ns ls (lGroups ns ls) := (lgRows_part nd w).sorts.perm' (List.mergeSort_perm _ _)
theorem part_heads {ns : List Str} {ls : List Lk3} {R : List (List Str)} (nd : ns.Nodup) (p : IsPart ns ls R) (h : R.Pairwise fun a b => PySem.W.dataLe false tupS a b = true) : R.Pairwise hdLt := by
  have fnd := p.nd nd
  have rnd := rows_nd fnd p.ne
  refine (h.and rnd).imp_of_mem fun {a b} ha hb ⟨h1, h2⟩ => ?_
  have na := p.ne a ha
  have nb := p.ne b hb
  cases a with
  | nil => exact absurd rfl na
  | cons x r =>
    cases b with
    | nil => exact absurd rfl nb
    | cons y s =>
      have hxy : y ≠ x := fun e => h2 (flat_uniq fnd ha hb List.mem_cons_self (by rw [← e]; exact List.mem_cons_self))
      rw [PySem.W.dataLe_eq] at h1
      have h1 : (!PySem.W.dataLt (tupS (y :: s)) (tupS (x :: r))) = true := h1
      rw [tupS_lt hxy] at h1
      have : leS x y = true := h1
      exact (leS_iff.mp this).resolve_left (Ne.symm hxy)
theorem lGroups_eq {ns : List Str} {ls : List Lk3} (nd : ns.Nodup) (w : Within ns ls) : lGroups ns ls = joinedL ns ls := by
  have p := lGroups_part nd w
  refine part_uniq nd p (joinedL_part nd w) (fun r hr => ?_) joinedL_sorted (part_heads nd p (List.pairwise_mergeSort (fun a b c => dle_trans tupS a b c) (dle_total tupS) _)) (joinedL_heads nd)
  have := (List.mergeSort_perm _ _).mem_iff.mp hr
  obtain ⟨q, hq, rfl⟩ := List.mem_map.mp this
  exact sortS_idem q
end
end K2

-- text K2N
set_option maxRecDepth 100000
set_option maxHeartbeats 4000000
namespace K2
open PySem PySem.Spec PyProof.Rows L2 LamX GX
section
variable {P : Program} {w : World} {K : PySem.W.Frag} {mg : Str → Option Value} {base : Heap}
/-! ### the law's groups -/
def isGrS (H : Hp) (R : List (Addr × List Str)) : Prop := ∀ x ∈ R, H x.1 = some (.lst (x.2.map V.str))
theorem Le.grS {T : List (Addr × Str)} {H H' : Hp} {R : List (Addr × List Str)} (x : Le T H H') (h : isGrS H R) : isGrS H' R := fun y hy => x.at (h y hy)
def spLG (K : PySem.W.Frag) : Sp := fun vs H Q E => ∃ (a k : Addr) (ns : List Str) (L : List (Addr × Lk3)), vs = [.ref a, .ref k] ∧ SqL K H a (ns.map V.str) ∧ SqL K H k (L.map fun x => V.ref x.1) ∧ isLinks H L ∧ Tabs (T K) H ∧ ns.length ≤ 30 ∧ L.length ≤ 1000 ∧ (∀ n ∈ ns, okT n) ∧ ns.Nodup ∧ Within ns (L.map (·.2)) ∧
  ∀ H' t R, Le (T K) H H' → H t = none → H' t = some (.lst (refsS R)) → isRowsS H' R → R.map (·.2) = joinedL ns (L.map (·.2)) → Q (.ref t) H'
theorem names_lay {xs : List Str} (h : ∀ x ∈ xs, okT x) : ∀ d ∈ xs.map PyData.str, d.canLay0 = true ∧ d.depth ≤ 0 := fun d hd => by
  obtain ⟨x, hx, rfl⟩ := List.mem_map.mp hd
  exact ⟨h x hx, Nat.le_of_eq rfl⟩
theorem shaped_rows {ds : List PyData} (h : ∀ d ∈ ds, d.canLay0 = true ∧ d.depth ≤ 1) : SeqAt.shaped (.list ds) = true := shaped_of (n := 2) (lay_list h) (by decide)
theorem alike_strs : ∀ xs ys : List Str, PySem.W.alikeAll (xs.map PyData.str) (ys.map PyData.str) = true
  | [], _ => by simp [PySem.W.alikeAll]
  | _ :: _, [] => by simp [PySem.W.alikeAll]
  | x :: xs, y :: ys => by
    show PySem.W.alikeAll (.str x :: xs.map .str) (.str y :: ys.map .str) = true
    rw [PySem.W.alikeAll, alike_strs xs ys]
    simp [PySem.W.alike]
theorem depth_strs : ∀ xs : List Str, PyData.depthAll (xs.map PyData.str) = 0
  | [] => by simp [PyData.depthAll]
  | x :: xs => by
    show PyData.depthAll (.str x :: xs.map .str) = 0
    rw [PyData.depthAll, depth_strs xs]
    simp [PyData.depth]
theorem tupS_alike (r s : List Str) : PySem.W.alike (tupS r) (tupS s) = true := by
  unfold tupS
  rw [PySem.W.alike]
  exact alike_strs r s
theorem tupS_depth (r : List Str) : (tupS r).depth = 1 := by
  unfold tupS
  rw [PyData.depth, depth_strs]
theorem refs_ne {H : Hp} {D : Addr} {R : List (Addr × List Str)} {x : Addr × List Str} (hx : x ∈ R) (h1 : H D = some (.lst (refsS R))) (h2 : H x.1 = some (.lst (x.2.map V.str))) : x.1 ≠ D := fun z => by
  rw [z, h1] at h2
  have e : refsS R = x.2.map V.str := by injection h2 with h; injection h
  obtain ⟨u, l⟩ := x
  cases R with
  | nil => cases hx
  | cons y r =>
    cases l with
    | nil => cases e
    | cons z l => cases e
theorem pick_row {R : List (Addr × List Str)} {x : Str} (h : x ∈ (R.map (·.2)).flatten) : ∃ ra, (R.filter fun y => decide (x ∈ y.2))[0]? = some ra ∧ ra ∈ R ∧ ra.2 = rowOf (R.map (·.2)) x := by
  have e : (R.map (·.2)).filter (fun r => decide (x ∈ r)) = (R.filter fun y => decide (x ∈ y.2)).map (·.2) := by rw [List.filter_map]; rfl
  obtain ⟨r, hr, hx⟩ := List.mem_flatten.mp h
  obtain ⟨y, hy, rfl⟩ := List.mem_map.mp hr
  have hf : y ∈ R.filter fun y => decide (x ∈ y.2) := List.mem_filter.mpr ⟨hy, decide_eq_true hx⟩
  unfold rowOf
  rw [e]
  cases e2 : R.filter fun y => decide (x ∈ y.2) with
  | nil => rw [e2] at hf; cases hf
  | cons a l => exact ⟨a, rfl, (List.mem_filter.mp (e2 ▸ List.mem_cons_self : a ∈ R.filter fun y => decide (x ∈ y.2))).1, rfl⟩
theorem hu65 {A : Around} {k : Nat} (hr : Room k A) : A.units + 65 < cLine := by have := hr.un; omega
theorem ok_lgroups (C : Ctx K mg base) : CalX P w K mg base 4 "_law_groups" ["names", "links"] (spLG K) := by
  obtain ⟨fd, F⟩ := C.d.d_l_groups
  refine ⟨_, fd, ?_, F.funD.bindsN fun _ _ _ _ _ _ us hl => (match us, hl with | [_, _], _ => rfl), F.kp, C.t.m_l_groups⟩
  refine F.ok sc_l_groups (fun vs H Q E h => ?_) (fun A outer s H vs Q E hr h => ?_)
  · obtain ⟨a, k, ns, L, rfl, _⟩ := h
    rfl
  · obtain ⟨a, k, ns, L, rfl, ha, hk, hL, hT, l30, l1000, okn, nd, wi, hq⟩ := h
    have nn := sc_l_groups.nd
    refine ⟨_, pss_cons (ps_setLc (i := 2) (own := [("name", 8)]) (g := gName 8) rfl nn rfl rfl (sw_true rfl rfl rfl (by decide +kernel)) (pi_list (pe_callB cr_sortedS (by rfl) C.t.b_sorted (by decide +kernel) (pa_cons (pv 0) pa_nil))) (blkOk_by (N := n_l_groups) (sc := defScope s_l_groups) (by decide +kernel))
                (fun _ _ _ _ _ => (pg_name (i := 8) nn rfl (by first | exact Or.inl rfl | exact Or.inr rfl))) (fun _ _ _ _ _ => pts_nil) (fun _ _ _ _ _ => pe_lst (pa_cons (pv 8) pa_nil)))
      (pss_cons (ps_for ownsA rfl (pi_list (pv 1)) (pg_tup rfl (pgs_cons (pg_name (i := 3) nn rfl (by first | exact Or.inl rfl | exact Or.inr rfl)) (pgs_cons (pg_name (i := 4) nn rfl (by first | exact Or.inl rfl | exact Or.inr rfl)) (pgs_cons (pg_name (i := 5) nn rfl (by first | exact Or.inl rfl | exact Or.inr rfl)) pgs_nil))))
        (pss_cons (ps_asg (pe_tup (pa_cons (pe_ix ix_list (pe_lc (own := [("row", 9)]) (g := gName 9) rfl nn (pi_list (pv 2)) (blkOk_by (N := n_l_groups) (sc := defScope s_l_groups) (by decide +kernel)) (fun _ _ _ _ _ => (pg_name (i := 9) nn rfl (by first | exact Or.inl rfl | exact Or.inr rfl))) (fun _ _ _ _ _ => by exact pts_one (pt_cmpR (r := rIn K false) op_in_seq (pv 3) (pv 9) rfl)) (fun _ _ _ _ _ => pv 9)) pe_int (fun _ _ => rfl))
            (pa_cons (pe_ix ix_list (pe_lc (own := [("row", 9)]) (g := gName 9) rfl nn (pi_list (pv 2)) (blkOk_by (N := n_l_groups) (sc := defScope s_l_groups) (by decide +kernel)) (fun _ _ _ _ _ => (pg_name (i := 9) nn rfl (by first | exact Or.inl rfl | exact Or.inr rfl))) (fun _ _ _ _ _ => by exact pts_one (pt_cmpR (r := rIn K false) op_in_seq (pv 4) (pv 9) rfl)) (fun _ _ _ _ _ => pv 9)) pe_int (fun _ _ => rfl)) pa_nil))) (pg_tup rfl (pgs_cons (pg_name (i := 6) nn rfl (by first | exact Or.inl rfl | exact Or.inr rfl)) (pgs_cons (pg_name (i := 7) nn rfl (by first | exact Or.inl rfl | exact Or.inr rfl)) pgs_nil))))
        (pss_one (ps_if (pt_cmpR (op_neD hr.units) (pv 6) (pv 7) (nomark _))
          (pss_one (ps_set (i := 2) nn rfl (by first | exact Or.inl rfl | exact Or.inr rfl) (pe_op op_cat (pe_lc (own := [("row", 9)]) (g := gName 9) rfl nn (pi_list (pv 2)) (blkOk_by (N := n_l_groups) (sc := defScope s_l_groups) (by decide +kernel)) (fun _ _ _ _ _ => (pg_name (i := 9) nn rfl (by first | exact Or.inl rfl | exact Or.inr rfl)))
              (fun _ _ _ _ _ => by exact pts_one (pt_cmpR (r := rNotInD K) (op_notInD (hu65 hr)) (pv 9) (pe_lst (pa_cons (pv 6) (pa_cons (pv 7) pa_nil))) rfl)) (fun _ _ _ _ _ => pv 9)) (pe_lst (pa_cons (pe_op op_cat (pv 6) (pv 7)) pa_nil))))) pss_nil))))
      (pss_one (ps_ret (pe_callB (cr_sortDat (hr.mono (by decide))) (by rfl) C.t.b_sorted (by decide +kernel) (pa_cons (pe_lc (own := [("row", 9)]) (g := gName 9) rfl nn (pi_list (pv 2)) (blkOk_by (N := n_l_groups) (sc := defScope s_l_groups) (by decide +kernel)) (fun _ _ _ _ _ => (pg_name (i := 9) nn rfl (by first | exact Or.inl rfl | exact Or.inr rfl)))
              (fun _ _ _ _ _ => pts_nil) (fun _ _ _ _ _ => by exact pe_callTy (call_tupK (K := K) rfl) (by rfl) C.t.b_tuple (by decide +kernel) (pa_cons (pe_callB (r := rSortedS K) cr_sortedS (by rfl) C.t.b_sorted (by decide +kernel) (pa_cons (pv 9) pa_nil)) pa_nil))) pa_nil))))), ?_⟩
    generalize hls : L.map (·.2) = ls at wi hq
    have lL : L.length = ls.length := by rw [← hls, List.length_map]
    refine ⟨_, rfl, a, ns, rfl, ha, by omega, fun ys p hp hs hpn => ?_⟩
    have eys := sortS_is hp hs
    subst eys
    have lsn : (sortS ns).length = ns.length := (sortS_perm ns).length_eq
    have L1 := (Le.refl hT).new (o := .lst ((sortS ns).map V.str)) hpn
    have hp1 : upd H p (.lst ((sortS ns).map V.str)) p = some (.lst ((sortS ns).map V.str)) := upd_same
    generalize upd H p (.lst ((sortS ns).map V.str)) = H1 at L1 hp1
    refine ⟨p, rfl, ⟨_, SqL.of hp1⟩, fun D0 hD0 => ?_⟩
    refine lc_n (sortS ns).length (fun m H' => Le (T K) H1 H' ∧ ∃ R, H' D0 = some (.lst (refsS R)) ∧ isGrS H' R ∧ R.map (·.2) = ((sortS ns).take m).map fun n => [n])
      ⟨(Le.refl L1.tab).new hD0, [], upd_same, (fun x hx => by cases hx), rfl⟩ (fun m H' hm ⟨L2, R, r1, r2, r3⟩ => ⟨Itl_go (L2.seqL (SqL.of hp1)) (by rw [List.length_map]; exact hm), ?_⟩) (fun H' ⟨L2, R, r1, r2, r3⟩ => ⟨Itl_stop (L2.seqL (SqL.of hp1)) (by rw [List.length_map]; exact Nat.le_refl _), ?_⟩)
    · intro x H2 hy
      obtain ⟨rfl, hx⟩ := Itl_yld (L2.seqL (SqL.of hp1)) hy
      obtain ⟨z, hz, rfl⟩ := gmap hx
      refine ⟨rfl, ?_⟩
      refine yes_ (iteT ⟨_, rfl, by show 1 ≤ sizeLine; decide, fun q hqn => ⟨_, (upd_ne (ne_of_none r1 hqn)).trans r1, ?_, (L2.new hqn).set hD0 ((upd_ne (ne_of_none r1 hqn)).trans r1), R ++ [(q, [z])], ?_, fun x hx => ?_, ?_⟩⟩)
      · have := congrArg List.length r3
        rw [List.length_map, List.length_map, List.length_take] at this
        unfold refsS
        rw [List.length_map]
        exact Nat.lt_of_le_of_lt (show R.length ≤ 30 by omega) (by decide)
      · rw [upd_same]
        unfold refsS
        rw [List.map_append]; rfl
      · rcases List.mem_append.mp hx with hx | hx
        · have h0 := r2 x hx
          have h1 := (upd_ne (o := .lst [V.str z]) (ne_of_none h0 hqn)).trans h0
          exact (upd_ne (refs_ne hx r1 h0)).trans h1
        · rw [List.mem_singleton.mp hx]
          exact (upd_ne (ne_of_none r1 hqn).symm).trans upd_same
      · rw [List.map_append, r3, GX.take_snoc hz, List.map_append]
        rfl
    · rw [List.take_of_length_le (Nat.le_refl _)] at r3
      have L3 := L1.trans L2
      clear L1 L2 hp1 hD0
      refine ⟨_, rfl, k, rfl, ⟨_, L3.seqL hk⟩, ?_⟩
      refine for_list (xs := L.map fun x : Addr × Lk3 => V.ref x.1) (fun j σ H' => (∃ q a3 a4 a5 a6 a7, σ = [some (.ref a), some (.ref k), some (.ref q), a3, a4, a5, a6, a7, none, none] ∧ ∃ R, H' q = some (.lst (refsS R)) ∧ isGrS H' R ∧ R.map (·.2) = (ls.take j).foldl lgStep ((sortS ns).map fun n => [n])) ∧ Le (T K) H H')
        ⟨⟨D0, _, _, _, _, _, rfl, R, r1, r2, r3⟩, L3⟩ (fun j σ H' _ hP => hP.2.seqL hk) (fun j v σ H4 hv ⟨⟨q, a3, a4, a5, a6, a7, hσ, R, q1, q2, q3⟩, L4⟩ => ?_) (fun σ H4 ⟨⟨q, a3, a4, a5, a6, a7, hσ, R, q1, q2, q3⟩, L4⟩ => ?_)
      · subst hσ
        obtain ⟨x, hx, rfl⟩ := GX.get_map hv
        have hxm := List.mem_of_getElem? hx
        have hxl : ls[j]? = some x.2 := by rw [← hls, List.getElem?_map, hx]; rfl
        have part := lgFold_part nd (ls.take j) [] _ (single_part ns) fun l hl => wi l (List.mem_of_mem_take hl)
        rw [← q3] at part
        obtain ⟨w1, w2⟩ := wi x.2 (List.mem_of_getElem? hxl)
        refine ⟨x.1, _, rfl, SqT.of (L4.at (hL x hxm)), rfl, _, _, rfl, _, _, rfl, _, _, rfl, rfl, ?_⟩
        obtain ⟨ra, ha1, ha2, ha3⟩ := pick_row (R := R) (part.perm.mem_iff.mpr w1)
        obtain ⟨rb, hb1, hb2, hb3⟩ := pick_row (R := R) (part.perm.mem_iff.mpr w2)
        have lR : R.length ≤ 30 := by
          have h1 := part.perm.length_eq
          have h2 : ∀ S : List (List Str), (∀ r ∈ S, r ≠ []) → S.length ≤ S.flatten.length := fun S => by
            induction S with
            | nil => exact fun _ => Nat.le_refl _
            | cons r S ih =>
              intro hS
              have h3 := ih fun r hr => hS r (List.mem_cons_of_mem _ hr)
              have h4 := List.length_pos_iff.mpr (hS r List.mem_cons_self)
              rw [List.flatten_cons, List.length_append, List.length_cons]
              omega
          have h3 := h2 _ part.ne
          rw [List.length_map] at h3
          omega
        have mR : ∀ y ∈ R, ∀ z ∈ y.2, okT z := fun y hy z hz => okn z (part.perm.mem_iff.mp (List.mem_flatten.mpr ⟨y.2, List.mem_map.mpr ⟨y, hy, rfl⟩, hz⟩))
        have lab : ra.2 ≠ rb.2 → ra.2.length + rb.2.length ≤ 30 := fun hne => by
          have tk := (take_two (rows_nd (part.nd nd) part.ne) (List.mem_map.mpr ⟨ra, ha2, rfl⟩) (List.mem_map.mpr ⟨rb, hb2, rfl⟩) hne).flatten.length_eq
          have h1 := part.perm.length_eq
          rw [List.flatten_cons, List.flatten_cons, List.length_append, List.length_append] at tk
          omega
        have Hat : ∀ {H'}, Le (T K) H4 H' → SqL K H' q (R.map fun x : Addr × List Str => V.ref x.1) ∧ isGrS H' R := fun l => ⟨SqL.of (l.at q1), fun z hz => l.at (q2 z hz)⟩
        refine ⟨_, rfl, q, rfl, ⟨_, (Hat (Le.refl L4.tab)).1⟩, fun D1 hD1 => ?_⟩
        refine lc_pick (fun y : Addr × List Str => decide (x.2.1 ∈ y.2)) (fun y => V.ref y.1) (walksVL (T := T K) (Hat (Le.refl L4.tab)).1) L4.tab hD1 (by omega) (fun z hz H' Y N L' hY hN => ?_) (fun H5 L5 hD5 => ?_)
        · refine ⟨rfl, _, rfl, _, rfl, z.1, _, rfl, .inl (SqL.of ((Hat L').2 z hz)), rfl, flat_strs _, _, rfl, ?_⟩
          show (if inV (.str x.2.1) (z.2.map V.str) = true then _ else _)
          rw [inV_strs]
          by_cases w : x.2.1 ∈ z.2
          · rw [decide_eq_true w]
            exact iteT ⟨_, rfl, hY _ (Le.refl L'.tab) (decide_eq_true w)⟩
          · rw [decide_eq_false w]
            exact iteF (hN _ (Le.refl L'.tab) (decide_eq_false w))
        refine ⟨D1, _, _, _, rfl, rfl, SqL.of hD5, atI_nat (j := 0) (by rw [List.getElem?_map, ha1]; rfl), ?_⟩
        refine ⟨_, rfl, q, rfl, ⟨_, (Hat L5).1⟩, fun D2 hD2 => ?_⟩
        refine lc_pick (fun y : Addr × List Str => decide (x.2.2.1 ∈ y.2)) (fun y => V.ref y.1) (walksVL (T := T K) (Hat L5).1) L5.tab hD2 (by omega) (fun z hz H' Y N L' hY hN => ?_) (fun H6 L6 hD6 => ?_)
        · refine ⟨rfl, _, rfl, _, rfl, z.1, _, rfl, .inl (SqL.of ((Hat (L5.trans L')).2 z hz)), rfl, flat_strs _, _, rfl, ?_⟩
          show (if inV (.str x.2.2.1) (z.2.map V.str) = true then _ else _)
          rw [inV_strs]
          by_cases w : x.2.2.1 ∈ z.2
          · rw [decide_eq_true w]
            exact iteT ⟨_, rfl, hY _ (Le.refl L'.tab) (decide_eq_true w)⟩
          · rw [decide_eq_false w]
            exact iteF (hN _ (Le.refl L'.tab) (decide_eq_false w))
        refine ⟨D2, _, _, _, rfl, rfl, SqL.of hD6, atI_nat (j := 0) (by rw [List.getElem?_map, hb1]; rfl), ?_⟩
        refine ⟨by show 2 ≤ sizeLine; decide, fun w1 hw1 => ⟨w1, _, rfl, SqT.of upd_same, rfl, _, _, rfl, _, _, rfl, rfl, ?_⟩⟩
        have L7 := (L5.trans L6).new (o := .tup [V.ref ra.1, V.ref rb.1]) hw1
        generalize upd H6 w1 (.tup [V.ref ra.1, V.ref rb.1]) = H7 at L7
        have ga := (Hat L7).2 ra ha2
        have gb := (Hat L7).2 rb hb2
        refine ⟨_, rfl, _, rfl, .list (ra.2.map PyData.str), .list (rb.2.map PyData.str), .lst (SqL.of ga) (DpAll.strs _), .lst (SqL.of gb) (DpAll.strs _), shaped_names (mR ra ha2), shaped_names (mR rb hb2), _, rfl, ?_⟩
        have ev : PyData.eqv (.list (ra.2.map PyData.str)) (.list (rb.2.map PyData.str)) = decide (ra.2 = rb.2) := eqv_strs ra.2 rb.2
        rw [ev]
        have enx : (ls.take (j + 1)).foldl lgStep ((sortS ns).map fun n => [n]) = if ra.2 = rb.2 then R.map (·.2) else ((R.map (·.2)).filter fun r => !(decide (r = ra.2) || decide (r = rb.2))) ++ [ra.2 ++ rb.2] := by
          rw [GX.take_snoc hxl, List.foldl_append, ← q3, ha3, hb3]
          rfl
        by_cases hab : ra.2 = rb.2
        · rw [if_pos hab] at enx
          rw [decide_eq_true hab]
          exact iteF ⟨⟨q, _, _, _, _, _, rfl, R, L7.at q1, (Hat L7).2, enx.symm⟩, L4.trans L7⟩
        · rw [if_neg hab] at enx
          rw [decide_eq_false hab]
          have lab := lab hab
          refine iteT ⟨_, rfl, q, rfl, ⟨_, (Hat L7).1⟩, fun D3 hD3 => ?_⟩
          refine lc_pick (fun y : Addr × List Str => !(decide (y.2 = ra.2) || decide (y.2 = rb.2))) (fun y => V.ref y.1) (walksVL (T := T K) (Hat L7).1) L7.tab hD3 (by omega) (fun z hz H' Y N L' hY hN => ?_) (fun H8 L8 hD8 => ?_)
          · refine ⟨rfl, _, rfl, _, rfl, _, rfl, by show 2 ≤ sizeLine; decide, fun e he => ?_⟩
            have L'' := (L7.trans L').new (o := .lst [V.ref ra.1, V.ref rb.1]) he
            have Lz := (Le.refl L'.tab).new (o := .lst [V.ref ra.1, V.ref rb.1]) he
            have gz := (Hat L'').2
            refine ⟨.list (z.2.map PyData.str), [.list (ra.2.map PyData.str), .list (rb.2.map PyData.str)], .lst (SqL.of (gz z hz)) (DpAll.strs _), .lst (SqL.of upd_same) (.cons (.lst (SqL.of (gz ra ha2)) (DpAll.strs _)) (.cons (.lst (SqL.of (gz rb hb2)) (DpAll.strs _)) .nil)), shaped_names (mR z hz), ?_, _, rfl, ?_⟩
            · refine shaped_rows fun d hd => ?_
              rcases List.mem_cons.mp hd with rfl | hd
              · exact lay_list (names_lay (mR ra ha2))
              · rw [List.mem_singleton.mp hd]
                exact lay_list (names_lay (mR rb hb2))
            · have ev2 : ([.list (ra.2.map PyData.str), .list (rb.2.map PyData.str)] : List PyData).any (fun y => PyData.eqv y (.list (z.2.map PyData.str))) = (decide (z.2 = ra.2) || decide (z.2 = rb.2)) := by
                have e1 : PyData.eqv (.list (ra.2.map PyData.str)) (.list (z.2.map PyData.str)) = decide (ra.2 = z.2) := eqv_strs ra.2 z.2
                have e2 : PyData.eqv (.list (rb.2.map PyData.str)) (.list (z.2.map PyData.str)) = decide (rb.2 = z.2) := eqv_strs rb.2 z.2
                rw [List.any_cons, List.any_cons, List.any_nil, Bool.or_false, e1, e2]
                congr 1
                · exact decide_eq_decide.mpr ⟨Eq.symm, Eq.symm⟩
                · exact decide_eq_decide.mpr ⟨Eq.symm, Eq.symm⟩
              rw [ev2]
              cases hp : (!(decide (z.2 = ra.2) || decide (z.2 = rb.2))) with
              | true => exact iteT ⟨_, rfl, hY _ Lz hp⟩
              | false => exact iteF (hN _ Lz hp)
          · generalize hRF : R.filter (fun y : Addr × List Str => !(decide (y.2 = ra.2) || decide (y.2 = rb.2))) = RF at hD8
            have eRF : RF.map (·.2) = (R.map (·.2)).filter fun r => !(decide (r = ra.2) || decide (r = rb.2)) := by
              rw [← hRF, List.filter_map]; rfl
            have mRF : ∀ y ∈ RF, y ∈ R := fun y hy => (List.mem_filter.mp (hRF ▸ hy : y ∈ _)).1
            have lRF : RF.length ≤ 30 := by
              have : RF.length ≤ R.length := hRF ▸ List.length_filter_le _ _
              omega
            have L78 := L7.trans L8
            refine ⟨_, rfl, _, rfl, ra.1, rb.1, _, _, rfl, rfl, (Hat L78).2 ra ha2, (Hat L78).2 rb hb2, by rw [List.length_map, List.length_map]; exact Nat.le_trans lab (by decide), fun c hc => ?_⟩
            rw [← List.map_append]
            have hc1 : upd H8 c (.lst ((ra.2 ++ rb.2).map V.str)) c = some (.lst ((ra.2 ++ rb.2).map V.str)) := upd_same
            have L9 := (Le.refl L8.tab).new (o := .lst ((ra.2 ++ rb.2).map V.str)) hc
            generalize upd H8 c (.lst ((ra.2 ++ rb.2).map V.str)) = H9 at L9 hc1
            refine ⟨by show 1 ≤ sizeLine; decide, fun e he => ?_⟩
            have he1 : upd H9 e (.lst [V.ref c]) e = some (.lst [V.ref c]) := upd_same
            have La := L9.new (o := .lst [V.ref c]) he
            have hc2 := (upd_ne (o := .lst [V.ref c]) (ne_of_none hc1 he)).trans hc1
            generalize upd H9 e (.lst [V.ref c]) = Ha at La he1 hc2
            refine ⟨D3, e, _, _, rfl, rfl, La.at hD8, he1, ?_, fun q2 hq2 => ?_⟩
            · rw [List.length_map]
              exact Nat.le_trans (show RF.length + 1 ≤ 31 by omega) (by decide)
            · have Lb := La.new (o := .lst (RF.map (fun y => V.ref y.1) ++ [V.ref c])) hq2
              have Lf := L78.trans Lb
              refine ⟨⟨q2, _, _, _, _, _, rfl, RF ++ [(c, ra.2 ++ rb.2)], ?_, fun y hy => ?_, ?_⟩, L4.trans Lf⟩
              · rw [upd_same]
                unfold refsS
                rw [List.map_append]; rfl
              · rcases List.mem_append.mp hy with hy | hy
                · exact (Hat Lf).2 y (mRF y hy)
                · rw [List.mem_singleton.mp hy]
                  exact (upd_ne (ne_of_none hc2 hq2)).trans hc2
              · rw [enx, List.map_append, eRF]
                rfl
      · subst hσ
        have q3 : R.map (·.2) = lgRows ns ls := by
          rw [q3, List.length_map, lL, List.take_of_length_le (Nat.le_refl _)]
          rfl
        have part := lgRows_part nd wi
        rw [← q3] at part
        have lR : R.length ≤ 30 := by
          have h1 := part.perm.length_eq
          have h2 : ∀ S : List (List Str), (∀ r ∈ S, r ≠ []) → S.length ≤ S.flatten.length := fun S => by
            induction S with
            | nil => exact fun _ => Nat.le_refl _
            | cons r S ih =>
              intro hS
              have h3 := ih fun r hr => hS r (List.mem_cons_of_mem _ hr)
              have h4 := List.length_pos_iff.mpr (hS r List.mem_cons_self)
              rw [List.flatten_cons, List.length_append, List.length_cons]
              omega
          have h3 := h2 _ part.ne
          rw [List.length_map] at h3
          omega
        have yl : ∀ y ∈ R, y.2.length ≤ 30 := fun y hy => by
          have h1 := (List.sublist_flatten_of_mem (List.mem_map.mpr ⟨y, hy, rfl⟩ : y.2 ∈ R.map (·.2))).length_le
          have h2 := part.perm.length_eq
          omega
        refine ⟨_, rfl, q, rfl, ⟨_, SqL.of q1⟩, fun D hD => ?_⟩
        refine lc_n R.length (fun m H' => Le (T K) H4 H' ∧ ∃ RT : List (Addr × List Str), H' D = some (.lst (refsS RT)) ∧ isRowsS H' RT ∧ RT.map (·.2) = ((R.map (·.2)).map sortS).take m)
          ⟨(Le.refl L4.tab).new hD, [], upd_same, (fun x hx => by cases hx), rfl⟩ (fun m H' hm ⟨L5, RT, t1, t2, t3⟩ => ⟨Itl_go (L5.seqL (SqL.of q1)) (by unfold refsS; rw [List.length_map]; exact hm), ?_⟩) (fun H' ⟨L5, RT, t1, t2, t3⟩ => ⟨Itl_stop (L5.seqL (SqL.of q1)) (by unfold refsS; rw [List.length_map]; exact Nat.le_refl _), ?_⟩)
        · intro x H5 hy
          obtain ⟨rfl, hx⟩ := Itl_yld (L5.seqL (SqL.of q1)) hy
          obtain ⟨z, hz, rfl⟩ := gmap hx
          have hzm := List.mem_of_getElem? hz
          have lz := yl z hzm
          refine ⟨rfl, yes_ (iteT ⟨_, rfl, z.1, z.2, rfl, SqL.of (L5.at (q2 z hzm)), by omega, fun ys p hp hs hpn => ?_⟩)⟩
          have eys := sortS_is hp hs
          subst eys
          refine ⟨p, _, rfl, .inl ⟨SqL.of upd_same, fun c hc => ?_⟩⟩
          have L6 := L5.new (o := .lst ((sortS z.2).map V.str)) hpn
          have t16 := (upd_ne (o := .lst ((sortS z.2).map V.str)) (ne_of_none t1 hpn)).trans t1
          have t26 : isRowsS (upd H5 p (.lst ((sortS z.2).map V.str))) RT := fun y hy => (upd_ne (ne_of_none (t2 y hy) hpn)).trans (t2 y hy)
          generalize upd H5 p (.lst ((sortS z.2).map V.str)) = H6 at L6 t16 t26 hc ⊢
          have L7 := L6.new (o := .tup ((sortS z.2).map V.str)) hc
          have t17 := (upd_ne (o := .tup ((sortS z.2).map V.str)) (ne_of_none t16 hc)).trans t16
          have hDc : D ≠ c := ne_of_none t16 hc
          refine ⟨_, t17, ?_, L7.set hD t17, RT ++ [(c, sortS z.2)], ?_, fun y hy => ?_, ?_⟩
          · have := congrArg List.length t3
            rw [List.length_map, List.length_take, List.length_map, List.length_map] at this
            unfold refsS
            rw [List.length_map]
            exact Nat.lt_of_le_of_lt (show RT.length ≤ 30 by omega) (by decide)
          · rw [upd_same]
            unfold refsS
            rw [List.map_append]; rfl
          · rcases List.mem_append.mp hy with hy | hy
            · have h0 := t26 y hy
              have h1 := (upd_ne (o := .tup ((sortS z.2).map V.str)) (ne_of_none h0 hc)).trans h0
              exact (upd_ne (fun w => by rw [w, t16] at h0; cases h0)).trans h1
            · rw [List.mem_singleton.mp hy]
              exact (upd_ne (Ne.symm hDc)).trans upd_same
          · rw [List.map_append, t3, GX.take_snoc (c := sortS z.2) (by rw [List.getElem?_map, List.getElem?_map, hz]; rfl)]
            rfl
        · rw [List.take_of_length_le (by rw [List.length_map, List.length_map]; exact Nat.le_refl _)] at t3
          have mRT : ∀ y ∈ RT, y.2 ≠ [] := fun y hy => by
            have h1 : y.2 ∈ (R.map (·.2)).map sortS := by rw [← t3]; exact List.mem_map.mpr ⟨y, hy, rfl⟩
            exact part.sorts.ne _ h1
          refine ⟨D, RT.map fun y => (y.1, tupS y.2), rfl, .inl (SqL.of (by rw [List.map_map]; exact t1)), fun x hx => ?_, ?_, ?_, fun x hx => ?_, fun c hc => ?_⟩
          · obtain ⟨y, hy, rfl⟩ := List.mem_map.mp hx
            exact .tup (SqT.of (t2 y hy)) (DpAll.strs _)
          · rw [List.map_map]
            exact PySem.W.AllAlike.of fun b b' => tupS_alike _ _
          · refine .inl fun d hd => ?_
            rw [List.map_map] at hd
            obtain ⟨y, hy, rfl⟩ := List.mem_map.mp hd
            show ∃ x r, tupS y.2 = .tuple (x :: r)
            have := mRT y hy
            cases e : y.2 with
            | nil => exact absurd e this
            | cons u v => exact ⟨_, _, rfl⟩
          · obtain ⟨y, hy, rfl⟩ := List.mem_map.mp hx
            show (tupS y.2).depth ≤ 8
            rw [tupS_depth]; decide
          · have ems : (RT.map fun y => (y.1, tupS y.2)).mergeSort (PySem.W.dataLe false fun x : Addr × PyData => x.2) = (RT.mergeSort (PySem.W.dataLe false fun y : Addr × List Str => tupS y.2)).map fun y => (y.1, tupS y.2) :=
              (List.map_mergeSort (r := PySem.W.dataLe false fun y : Addr × List Str => tupS y.2) (s := PySem.W.dataLe false fun x : Addr × PyData => x.2) (f := fun y : Addr × List Str => (y.1, tupS y.2)) (fun a _ b _ => rfl)).symm
            rw [ems, List.map_map]
            have L8 := (L4.trans L5).new (o := .lst ((RT.mergeSort (PySem.W.dataLe false fun y : Addr × List Str => tupS y.2)).map ((fun x : Addr × PyData => V.ref x.1) ∘ fun y => (y.1, tupS y.2)))) hc
            refine hq _ c (RT.mergeSort (PySem.W.dataLe false fun y : Addr × List Str => tupS y.2)) L8 (L4.no c (L5.no c hc)) upd_same (fun y hy => ?_) ?_
            · have h0 := t2 y ((List.mergeSort_perm _ _).mem_iff.mp hy)
              exact (upd_ne (ne_of_none h0 hc)).trans h0
            · rw [← lGroups_eq nd wi]
              unfold lGroups
              rw [← q3, ← t3]
              exact List.map_mergeSort (r := PySem.W.dataLe false fun y : Addr × List Str => tupS y.2) (s := PySem.W.dataLe false tupS) (f := fun y : Addr × List Str => y.2) (fun a _ b _ => rfl)
end
end K2

-- text K2O
set_option maxRecDepth 100000
set_option maxHeartbeats 4000000
namespace K2
open PySem PySem.Spec PyProof.Rows L2 LamX GX
section
variable {P : Program} {w : World} {K : PySem.W.Frag} {mg : Str → Option Value} {base : Heap}
/-! ### all sets of links -/
def lsets {α : Type} (ls : List α) : List (List α) := ls.foldl (fun acc l => acc ++ acc.map fun r => r ++ [l]) [[]]
theorem lsets_snoc {α : Type} (ls : List α) (l : α) : lsets (ls ++ [l]) = lsets ls ++ (lsets ls).map fun r => r ++ [l] := by
  unfold lsets
  rw [List.foldl_append]
  rfl
theorem snoc_ind {α : Type} {P : List α → Prop} (h0 : P []) (h1 : ∀ xs x, P xs → P (xs ++ [x])) (xs : List α) : P xs := by
  have : ∀ ys : List α, P ys.reverse := fun ys => by
    induction ys with
    | nil => exact h0
    | cons y r ih => rw [List.reverse_cons]; exact h1 _ _ ih
  have h := this xs.reverse
  rwa [List.reverse_reverse] at h
theorem lsets_len {α : Type} (ls : List α) : (lsets ls).length = 2 ^ ls.length := by
  refine snoc_ind (P := fun ls : List α => (lsets ls).length = 2 ^ ls.length) rfl (fun xs x ih => ?_) ls
  rw [lsets_snoc, List.length_append, List.length_map, ih, List.length_append, List.length_singleton, Nat.pow_succ]
  omega
/-- the sets are the sublists -/
theorem mem_lsets {α : Type} (ls : List α) : ∀ s, s ∈ lsets ls ↔ s.Sublist ls := by
  refine snoc_ind (P := fun ls : List α => ∀ s, s ∈ lsets ls ↔ s.Sublist ls) (fun s => ?_) (fun xs x ih s => ?_) ls
  · show s ∈ [[]] ↔ _
    rw [List.mem_singleton, List.sublist_nil]
  · rw [lsets_snoc, List.mem_append, List.mem_map, ih, List.sublist_append_iff]
    constructor
    · rintro (h | ⟨r, hr, rfl⟩)
      · exact ⟨s, [], (List.append_nil s).symm, h, List.nil_sublist _⟩
      · exact ⟨r, [x], rfl, (ih r).mp hr, List.Sublist.refl _⟩
    · rintro ⟨a, b, rfl, ha, hb⟩
      cases hb with
      | cons _ hb =>
        rw [List.sublist_nil.mp hb, List.append_nil]
        exact .inl ha
      | cons_cons _ hb =>
        rw [List.sublist_nil.mp hb]
        exact .inr ⟨a, (ih a).mpr ha, rfl⟩
abbrev RowsL := List (Addr × List (Addr × Lk3))
def refsG (R : RowsL) : List V := R.map fun x => V.ref x.1
def isSets (H : Hp) (R : RowsL) : Prop := ∀ x ∈ R, H x.1 = some (.lst (refsL x.2))
def spSets (K : PySem.W.Frag) : Sp := fun vs H Q E => ∃ (k : Addr) (L : List (Addr × Lk3)), vs = [.ref k] ∧ SqL K H k (refsL L) ∧ L.length < 8 ∧ Tabs (T K) H ∧
  ∀ H' t R, Le (T K) H H' → H' t = some (.lst (refsG R)) → isSets H' R → R.map (·.2) = lsets L → Q (.ref t) H'
theorem ok_lsets (C : Ctx K mg base) : CalX P w K mg base 1 "_law_sets" ["links"] (spSets K) := by
  obtain ⟨fd, F⟩ := C.d.d_l_sets
  refine ⟨_, fd, ?_, F.funD.bindsN fun _ _ _ _ _ _ us hl => (match us, hl with | [_], _ => rfl), F.kp, C.t.m_l_sets⟩
  refine F.ok sc_l_sets (fun vs H Q E h => ?_) (fun A outer s H vs Q E hr h => ?_)
  · obtain ⟨k, L, rfl, _⟩ := h
    rfl
  · obtain ⟨k, L, rfl, hk, l8, hT, hq⟩ := h
    have nn := sc_l_sets.nd
    refine ⟨_, pss_cons (ps_set (i := 1) nn rfl (by first | exact Or.inl rfl | exact Or.inr rfl) (pe_lst (pa_cons (pe_lst pa_nil) pa_nil)))
      (pss_cons (ps_for ownsA rfl (pi_list (pv 0)) (pg_name (i := 2) nn rfl (by first | exact Or.inl rfl | exact Or.inr rfl))
        (pss_one (ps_set (i := 1) nn rfl (by first | exact Or.inl rfl | exact Or.inr rfl) (pe_op op_cat (pv 1) (pe_lc (own := [("row", 3)]) (g := gName 3) rfl nn (pi_list (pv 1)) (blkOk_by (N := n_l_sets) (sc := defScope s_l_sets) (by decide +kernel)) (fun _ _ _ _ _ => (pg_name (i := 3) nn rfl (by first | exact Or.inl rfl | exact Or.inr rfl)))
              (fun _ _ _ _ _ => pts_nil) (fun _ _ _ _ _ => by exact pe_op op_cat (pv 3) (pe_lst (pa_cons (pv 2) pa_nil))))))))
      (pss_one (ps_ret (pv 1)))), ?_⟩
    refine ⟨by show 0 ≤ sizeLine; decide, fun e he => ⟨by show 1 ≤ sizeLine; decide, fun f hf => ?_⟩⟩
    have L1 := (Le.refl hT).new (o := .lst []) he
    have he1 : upd H e (.lst []) e = some (.lst (refsL [])) := upd_same
    generalize upd H e (.lst []) = H1 at L1 he1 hf ⊢
    have L2 := L1.new (o := .lst [V.ref e]) hf
    have hf2 : upd H1 f (.lst [V.ref e]) f = some (.lst (refsG [(e, [])])) := upd_same
    have he2 := (upd_ne (o := .lst [V.ref e]) (ne_of_none he1 hf)).trans he1
    generalize upd H1 f (.lst [V.ref e]) = H2 at L2 hf2 he2 ⊢
    refine ⟨_, rfl, k, rfl, ⟨_, L2.seqL hk⟩, ?_⟩
    refine for_list (xs := refsL L) (fun j σ H' => (∃ f a2, σ = [some (.ref k), some (.ref f), a2, none] ∧ ∃ R, H' f = some (.lst (refsG R)) ∧ isSets H' R ∧ R.map (·.2) = lsets (L.take j)) ∧ Le (T K) H H')
      ⟨⟨f, _, rfl, [(e, [])], hf2, (fun x hx => by rw [List.mem_singleton.mp hx]; exact he2), rfl⟩, L2⟩ (fun j σ H' _ hP => hP.2.seqL hk) (fun j v σ H3 hv ⟨⟨f, a2, hσ, R, r1, r2, r3⟩, L3⟩ => ?_) (fun σ H3 ⟨⟨f, a2, hσ, R, r1, r2, r3⟩, L3⟩ => ?_)
    · subst hσ
      obtain ⟨x, hx, rfl⟩ := GX.get_map hv
      have lR : R.length ≤ 128 := by
        have h1 := congrArg List.length r3
        rw [List.length_map, lsets_len, List.length_take] at h1
        rw [h1]
        exact Nat.le_trans (Nat.pow_le_pow_right (by decide) (show min j L.length ≤ 7 by omega)) (by decide)
      have lr : ∀ y ∈ R, y.2.length ≤ 7 := fun y hy => by
        have h1 := ((mem_lsets _ _).mp (r3 ▸ List.mem_map.mpr ⟨y, hy, rfl⟩ : y.2 ∈ lsets (L.take j))).length_le
        rw [List.length_take] at h1
        omega
      refine ⟨_, rfl, _, rfl, f, rfl, ⟨_, SqL.of r1⟩, fun D hD => ?_⟩
      refine lc_n R.length (fun m H' => Le (T K) H3 H' ∧ ∃ RT : RowsL, H' D = some (.lst (refsG RT)) ∧ (isSets H' RT ∧ ∀ x ∈ RT, x.1 ≠ D) ∧ RT.map (·.2) = ((R.map (·.2)).map fun r => r ++ [x]).take m)
        ⟨(Le.refl L3.tab).new hD, [], upd_same, ⟨(fun x hx => by cases hx), (fun x hx => by cases hx)⟩, rfl⟩ (fun m H' hm ⟨L5, RT, t1, ⟨t2, tD⟩, t3⟩ => ⟨Itl_go (L5.seqL (SqL.of r1)) (by unfold refsG; rw [List.length_map]; exact hm), ?_⟩) (fun H' ⟨L5, RT, t1, ⟨t2, tD⟩, t3⟩ => ⟨Itl_stop (L5.seqL (SqL.of r1)) (by unfold refsG; rw [List.length_map]; exact Nat.le_refl _), ?_⟩)
      · intro y H5 hy
        obtain ⟨rfl, hy2⟩ := Itl_yld (L5.seqL (SqL.of r1)) hy
        obtain ⟨z, hz, rfl⟩ := gmap hy2
        have hzm := List.mem_of_getElem? hz
        have lz := lr z hzm
        refine ⟨rfl, yes_ (iteT ⟨_, rfl, _, rfl, by show 1 ≤ sizeLine; decide, fun p hpn => ?_⟩)⟩
        have L6 := L5.new (o := .lst [V.ref x.1]) hpn
        have t16 := (upd_ne (o := .lst [V.ref x.1]) (ne_of_none t1 hpn)).trans t1
        have t26 : isSets (upd H5 p (.lst [V.ref x.1])) RT := fun y hy => (upd_ne (ne_of_none (t2 y hy) hpn)).trans (t2 y hy)
        have hp6 : upd H5 p (.lst [V.ref x.1]) p = some (.lst [V.ref x.1]) := upd_same
        generalize upd H5 p (.lst [V.ref x.1]) = H6 at L6 t16 t26 hp6 ⊢
        refine ⟨z.1, p, _, _, rfl, rfl, L6.at (r2 z hzm), hp6, ?_, fun c hc => ?_⟩
        · unfold refsL
          rw [List.length_map]
          exact Nat.le_trans (show z.2.length + 1 ≤ 8 by omega) (by decide)
        · have L7 := L6.new (o := .lst (refsL z.2 ++ [V.ref x.1])) hc
          have t17 := (upd_ne (o := .lst (refsL z.2 ++ [V.ref x.1])) (ne_of_none t16 hc)).trans t16
          have hDc : D ≠ c := ne_of_none t16 hc
          refine ⟨_, t17, ?_, L7.set hD t17, RT ++ [(c, z.2 ++ [x])], ?_, ⟨fun y hy => ?_, fun y hy => ?_⟩, ?_⟩
          · have := congrArg List.length t3
            rw [List.length_map, List.length_take, List.length_map, List.length_map] at this
            unfold refsG
            rw [List.length_map]
            exact Nat.lt_of_le_of_lt (show RT.length ≤ 128 by omega) (by decide)
          · rw [upd_same]
            unfold refsG
            rw [List.map_append]; rfl
          · rcases List.mem_append.mp hy with hy | hy
            · have h0 := t26 y hy
              have h1 := (upd_ne (o := .lst (refsL z.2 ++ [V.ref x.1])) (ne_of_none h0 hc)).trans h0
              exact (upd_ne (tD y hy)).trans h1
            · rw [List.mem_singleton.mp hy]
              refine (upd_ne (Ne.symm hDc)).trans (upd_same.trans ?_)
              unfold refsL
              rw [List.map_append]; rfl
          · rcases List.mem_append.mp hy with hy | hy
            · exact tD y hy
            · rw [List.mem_singleton.mp hy]; exact Ne.symm hDc
          · rw [List.map_append, t3, GX.take_snoc (c := z.2 ++ [x]) (by rw [List.getElem?_map, List.getElem?_map, hz]; rfl)]
            rfl
      · rw [List.take_of_length_le (by rw [List.length_map, List.length_map]; exact Nat.le_refl _)] at t3
        have r15 := L5.at r1
        refine ⟨f, D, _, _, rfl, rfl, r15, t1, ?_, fun c hc => ?_⟩
        · have := congrArg List.length t3
          rw [List.length_map, List.length_map, List.length_map] at this
          unfold refsG
          rw [List.length_map, List.length_map]
          exact Nat.le_trans (show R.length + RT.length ≤ 256 by omega) (by decide)
        · refine ⟨⟨c, _, rfl, R ++ RT, ?_, fun y hy => ?_, ?_⟩, (L3.trans L5).new hc⟩
          · rw [upd_same]
            unfold refsG
            rw [List.map_append]
          · have h0 : ∀ y ∈ R ++ RT, _ = some (HO.lst (refsL y.2)) := fun y hy => (List.mem_append.mp hy).elim (fun hy => L5.at (r2 y hy)) (t2 y)
            exact (upd_ne (ne_of_none (h0 y hy) hc)).trans (h0 y hy)
          · rw [List.map_append, t3, r3, GX.take_snoc hx, lsets_snoc]
    · subst hσ
      unfold refsL at r3
      rw [List.length_map, List.take_of_length_le (Nat.le_refl _)] at r3
      exact ⟨_, rfl, hq _ f R L3 r1 r2 r3⟩
end
end K2

-- text K2Md
set_option maxRecDepth 100000
set_option maxHeartbeats 4000000
namespace K2
open PySem PySem.Spec PyProof.Rows L2 LamX GX
section
variable {P : Program} {w : World} {K : PySem.W.Frag} {mg : Str → Option Value} {base : Heap}
/-! ### bonds: the law's and the program's; weak; the least sum -/
theorem joined_same {ns : List Str} {ls : List Lk3} {l : Lk3} (nd : ns.Nodup) (w : Within ns (ls ++ [l])) : joinedL ns ls = joinedL ns (ls ++ [l]) ↔ bothIn (joinedL ns ls) l = true := by
  have w0 : Within ns ls := fun k hk => w k (List.mem_append_left _ hk)
  have p := joinedL_part nd w0
  have p2 := joinedL_part nd w
  obtain ⟨w1, w2⟩ := w l (List.mem_append_right _ List.mem_cons_self)
  unfold bothIn
  rw [List.any_eq_true]
  constructor
  · intro e
    obtain ⟨r, hr, h1⟩ := List.mem_flatten.mp (p2.perm.mem_iff.mpr w1)
    have h2 := p2.cls hr h1 (Con.link (List.mem_append_right _ List.mem_cons_self))
    rw [← e] at hr
    exact ⟨r, hr, by rw [decide_eq_true h1, decide_eq_true h2]; rfl⟩
  · rintro ⟨r, hr, h⟩
    obtain ⟨h1, h2⟩ := Bool.and_eq_true_iff.mp h
    have h1 := of_decide_eq_true h1
    have h2 := of_decide_eq_true h2
    have fnd := p.nd nd
    refine part_uniq nd ⟨p.perm, fun q hq a ha b hb => (p.con q hq a ha b hb).sub fun k hk => List.mem_append_left _ hk, fun q hq a ha b hb => ?_, p.ne⟩ p2 joinedL_sorted joinedL_sorted (joinedL_heads nd) (joinedL_heads nd)
    rcases adj_snoc hb with hb | ⟨rfl, rfl⟩ | ⟨rfl, rfl⟩
    · exact p.cl q hq a ha b hb
    · rw [flat_uniq fnd hq hr ha h1]; exact h2
    · rw [flat_uniq fnd hq hr ha h2]; exact h1
theorem both_con {ns : List Str} {ls : List Lk3} {l : Lk3} (nd : ns.Nodup) (w : Within ns ls) (h1 : l.1 ∈ ns) : bothIn (joinedL ns ls) l = true ↔ Con ls l.1 l.2.1 := by
  have p := joinedL_part nd w
  unfold bothIn
  rw [List.any_eq_true]
  constructor
  · rintro ⟨r, hr, h⟩
    obtain ⟨h1, h2⟩ := Bool.and_eq_true_iff.mp h
    exact p.con r hr _ (of_decide_eq_true h1) _ (of_decide_eq_true h2)
  · intro c
    obtain ⟨r, hr, h1⟩ := List.mem_flatten.mp (p.perm.mem_iff.mpr h1)
    exact ⟨r, hr, by rw [decide_eq_true h1, decide_eq_true (p.cls hr h1 c)]; rfl⟩
/-- rows depend on what is joined alone -/
theorem joined_congr {ns : List Str} {ls ms : List Lk3} (nd : ns.Nodup) (w : Within ns ls) (w2 : Within ns ms) (h1 : ∀ l ∈ ls, Con ms l.1 l.2.1) (h2 : ∀ l ∈ ms, Con ls l.1 l.2.1) : joinedL ns ls = joinedL ns ms := by
  have p := joinedL_part nd w
  have p2 := joinedL_part nd w2
  refine part_uniq nd ⟨p.perm, fun q hq a ha b hb => (p.con q hq a ha b hb).mono h1, fun q hq a ha b hb => p.cls hq ha ((Con.one hb).mono h2), p.ne⟩ p2 joinedL_sorted joinedL_sorted (joinedL_heads nd) (joinedL_heads nd)
theorem joined_con {ns : List Str} {ls ms : List Lk3} (nd : ns.Nodup) (w : Within ns ls) (w2 : Within ns ms) (e : joinedL ns ls = joinedL ns ms) : ∀ l ∈ ms, Con ls l.1 l.2.1 := fun l hl => by
  have p := joinedL_part nd w
  have p2 := joinedL_part nd w2
  obtain ⟨r, hr, h1⟩ := List.mem_flatten.mp (p2.perm.mem_iff.mpr (w2 l hl).1)
  have h2 := p2.cls hr h1 (Con.link hl)
  exact p.con r (e ▸ hr) _ h1 _ h2
theorem sub_flatten {A B : List (List Str)} (h : A.Sublist B) : A.flatten.Sublist B.flatten := by
  induction h with
  | slnil => exact List.Sublist.refl _
  | cons a _ ih => rw [List.flatten_cons]; exact ih.trans (List.sublist_append_right _ _)
  | cons_cons a _ ih => rw [List.flatten_cons, List.flatten_cons]; exact List.Sublist.append (List.Sublist.refl _) ih
/-! weak -/
def lawWeak (ns : List Str) (ls : List Lk3) (n : Str) : Bool := decide (1 < ((joinedL (ns.filter fun x => !decide (x = n)) (restW ls n)).filter fun p => decide (p.headD (S []) ∈ rowOf (joinedL ns ls) n)).length)
theorem mem_restW {ls : List Lk3} {n : Str} {l : Lk3} : l ∈ restW ls n ↔ l ∈ ls ∧ l.1 ≠ n ∧ l.2.1 ≠ n := by
  unfold restW
  rw [List.mem_filter]
  simp only [List.mem_cons, List.not_mem_nil, or_false, Bool.not_eq_true', decide_eq_false_iff_not, not_or]
  exact and_congr Iff.rfl ⟨fun h => ⟨Ne.symm h.1, Ne.symm h.2⟩, fun h => ⟨Ne.symm h.1, Ne.symm h.2⟩⟩
theorem weak_same {ns : List Str} {ls : List Lk3} {n : Str} (nd : ns.Nodup) (w : Within ns ls) (hn : n ∈ ns) : isWeak (joinedL ns ls) ls n = lawWeak ns ls n := by
  have p := joinedL_part nd w
  have fnd := p.nd nd
  obtain ⟨m1, m2⟩ := rowOf_mem (p.perm.mem_iff.mpr hn)
  unfold isWeak lawWeak
  generalize hG : joinedL ns ls = G at *
  generalize hM : rowOf G n = mine at *
  have hrow : ∀ x, x ∈ rowW G n ↔ x ∈ mine ∧ x ≠ n := fun x => by
    unfold rowW
    rw [List.mem_flatMap]
    constructor
    · rintro ⟨g, hg, hx⟩
      obtain ⟨hx, hb⟩ := List.mem_filter.mp hx
      obtain ⟨h1, h2⟩ := Bool.and_eq_true_iff.mp hb
      have h1 := of_decide_eq_true h1
      rw [flat_uniq fnd hg m1 h1 m2] at hx
      exact ⟨hx, by simpa using h2⟩
    · rintro ⟨hx, hxn⟩
      exact ⟨mine, m1, List.mem_filter.mpr ⟨hx, by rw [decide_eq_true m2, decide_eq_false hxn]; rfl⟩⟩
  have rnd : (rowW G n).Nodup := rowW_sub.nodup fnd
  have nd2 : (ns.filter fun x => !decide (x = n)).Nodup := nd.filter _
  have w2 : Within (ns.filter fun x => !decide (x = n)) (restW ls n) := fun l hl => by
    obtain ⟨h0, h1, h2⟩ := mem_restW.mp hl
    exact ⟨List.mem_filter.mpr ⟨(w l h0).1, by simpa using h1⟩, List.mem_filter.mpr ⟨(w l h0).2, by simpa using h2⟩⟩
  have pp := joinedL_part nd2 w2
  have inMine : ∀ {a b}, a ∈ mine → Con (restW ls n) a b → b ∈ mine := fun ha c => p.cls m1 ha (c.sub fun l hl => (mem_restW.mp hl).1)
  have mIn : ∀ {l : Lk3}, l ∈ inW (restW ls n) (rowW G n) ↔ l ∈ restW ls n ∧ l.1 ∈ rowW G n := fun {l} => by
    unfold inW
    rw [List.mem_filter, decide_eq_true_eq]
  have w3 : Within (rowW G n) (inW (restW ls n) (rowW G n)) := fun l hl => by
    obtain ⟨h0, h1⟩ := mIn.mp hl
    exact ⟨h1, (hrow _).mpr ⟨inMine ((hrow _).mp h1).1 (Con.link h0), (mem_restW.mp h0).2.2⟩⟩
  have e : joinedL (rowW G n) (inW (restW ls n) (rowW G n)) = (joinedL (ns.filter fun x => !decide (x = n)) (restW ls n)).filter fun p => decide (p.headD (S []) ∈ mine) := by
    have hsub : ((joinedL (ns.filter fun x => !decide (x = n)) (restW ls n)).filter fun p => decide (p.headD (S []) ∈ mine)).Sublist (joinedL (ns.filter fun x => !decide (x = n)) (restW ls n)) := List.filter_sublist
    have hh := (joinedL_heads (ls := restW ls n) nd2).sublist hsub
    have hs : ∀ r ∈ (joinedL (ns.filter fun x => !decide (x = n)) (restW ls n)).filter fun p => decide (p.headD (S []) ∈ mine), sortS r = r := fun r hr => joinedL_sorted r (hsub.subset hr)
    refine part_uniq rnd (joinedL_part rnd w3) ?_ joinedL_sorted hs (joinedL_heads rnd) hh
    generalize joinedL (ns.filter fun x => !decide (x = n)) (restW ls n) = PP at *
    have hd : ∀ r ∈ PP, ∀ x ∈ r, (r.headD (S []) ∈ mine ↔ x ∈ mine) := fun r hr x hx => by
      cases r with
      | nil => cases hx
      | cons a t => exact ⟨fun h => inMine h (pp.con _ hr a List.mem_cons_self x hx), fun h => inMine h (pp.con _ hr x hx a List.mem_cons_self)⟩
    have mf : ∀ {r}, r ∈ PP.filter (fun p => decide (p.headD (S []) ∈ mine)) ↔ r ∈ PP ∧ r.headD (S []) ∈ mine := fun {r} => by rw [List.mem_filter, decide_eq_true_eq]
    refine ⟨?_, fun r hr a ha b hb => ?_, fun r hr a ha b hb => ?_, fun r hr => pp.ne r (mf.mp hr).1⟩
    · have fl : (PP.filter fun p => decide (p.headD (S []) ∈ mine)).flatten.Nodup := (sub_flatten hsub).nodup (pp.nd nd2)
      refine (List.perm_ext_iff_of_nodup fl rnd).mpr fun x => ?_
      rw [hrow, List.mem_flatten]
      constructor
      · rintro ⟨r, hr, hx⟩
        obtain ⟨r1, r2⟩ := mf.mp hr
        have hxn := pp.perm.mem_iff.mp (List.mem_flatten.mpr ⟨r, r1, hx⟩)
        exact ⟨(hd r r1 x hx).mp r2, by simpa using (List.mem_filter.mp hxn).2⟩
      · rintro ⟨hx, hxn⟩
        have hns : x ∈ ns := p.perm.mem_iff.mp (List.mem_flatten.mpr ⟨mine, m1, hx⟩)
        obtain ⟨r, hr, hxr⟩ := List.mem_flatten.mp (pp.perm.mem_iff.mpr (List.mem_filter.mpr ⟨hns, by simpa using hxn⟩))
        exact ⟨r, mf.mpr ⟨hr, (hd r hr x hxr).mpr hx⟩, hxr⟩
    · obtain ⟨r1, r2⟩ := mf.mp hr
      have ham : a ∈ mine := (hd r r1 a ha).mp r2
      have han : a ≠ n := by
        have := pp.perm.mem_iff.mp (List.mem_flatten.mpr ⟨r, r1, ha⟩)
        simpa using (List.mem_filter.mp this).2
      have key : ∀ {c}, Con (restW ls n) a c → Con (inW (restW ls n) (rowW G n)) a c ∧ c ∈ rowW G n := fun {c} h => by
        induction h with
        | refl => exact ⟨.refl _, (hrow _).mpr ⟨ham, han⟩⟩
        | @tail b c _ z ih =>
          obtain ⟨i1, i2⟩ := ih
          obtain ⟨l, hl, z⟩ := z
          obtain ⟨l0, l1, l2⟩ := mem_restW.mp hl
          rcases z with ⟨rfl, rfl⟩ | ⟨rfl, rfl⟩
          · have hli := mIn.mpr ⟨hl, i2⟩
            exact ⟨i1.tail ⟨l, hli, .inl ⟨rfl, rfl⟩⟩, (w3 l hli).2⟩
          · have hc : l.1 ∈ rowW G n := (hrow _).mpr ⟨inMine ((hrow _).mp i2).1 (Con.link hl).symm, l1⟩
            have hli := mIn.mpr ⟨hl, hc⟩
            exact ⟨i1.tail ⟨l, hli, .inr ⟨rfl, rfl⟩⟩, hc⟩
      exact (key (pp.con r r1 a ha b hb)).1
    · obtain ⟨l, hl, z⟩ := hb
      exact pp.cl r (mf.mp hr).1 a ha b ⟨l, (mIn.mp hl).1, z⟩
  rw [e]
/-! the least sum -/
def sumFar (ls : List Lk3) : Int := (ls.map fun l => l.2.2).sum
theorem sumFar_cons (l : Lk3) (ls : List Lk3) : sumFar (l :: ls) = l.2.2 + sumFar ls := by unfold sumFar; rw [List.map_cons, List.sum_cons]
theorem sumFar_app (a b : List Lk3) : sumFar (a ++ b) = sumFar a + sumFar b := by unfold sumFar; rw [List.map_append, List.sum_append]
theorem sumFar_perm {a b : List Lk3} (h : a.Perm b) : sumFar a = sumFar b := by
  induction h with
  | nil => rfl
  | cons x _ ih => rw [sumFar_cons, sumFar_cons, ih]
  | swap x y l => rw [sumFar_cons, sumFar_cons, sumFar_cons, sumFar_cons]; omega
  | trans _ _ i1 i2 => exact i1.trans i2
theorem sumFar_nn {ls : List Lk3} (h : ∀ l ∈ ls, 0 ≤ l.2.2) : 0 ≤ sumFar ls := by
  induction ls with
  | nil => exact Int.le_refl _
  | cons x r ih =>
    rw [sumFar_cons]
    have := h x List.mem_cons_self
    have := ih fun l hl => h l (List.mem_cons_of_mem _ hl)
    omega
/-- without x the sum is no more; where x was there, less by it at least -/
theorem sumFar_drop {ls : List Lk3} (x : Lk3) (h : ∀ l ∈ ls, 0 ≤ l.2.2) : sumFar (ls.filter fun l => !decide (l = x)) ≤ sumFar ls ∧ (x ∈ ls → sumFar (ls.filter fun l => !decide (l = x)) + x.2.2 ≤ sumFar ls) := by
  induction ls with
  | nil => exact ⟨Int.le_refl _, fun h => by cases h⟩
  | cons y r ih =>
    obtain ⟨i1, i2⟩ := ih fun l hl => h l (List.mem_cons_of_mem _ hl)
    have hy := h y List.mem_cons_self
    by_cases e : y = x
    · rw [List.filter_cons_of_neg (by simp [e]), sumFar_cons]
      subst e
      exact ⟨by omega, fun _ => by omega⟩
    · rw [List.filter_cons_of_pos (by simp [e]), sumFar_cons, sumFar_cons]
      refine ⟨by omega, fun hx => ?_⟩
      rcases List.mem_cons.mp hx with z | z
      · exact absurd z.symm e
      · have := i2 z; omega
theorem con_snoc {ls : List Lk3} {l : Lk3} {a b : Str} (h : Con (ls ++ [l]) a b) : Con ls a b ∨ (Con ls a l.1 ∧ Con ls l.2.1 b) ∨ (Con ls a l.2.1 ∧ Con ls l.1 b) := by
  induction h with
  | refl => exact .inl (.refl _)
  | @tail b c _ z ih =>
    rcases adj_snoc z with z | ⟨rfl, rfl⟩ | ⟨rfl, rfl⟩
    · rcases ih with q | ⟨q1, q2⟩ | ⟨q1, q2⟩
      · exact .inl (q.tail z)
      · exact .inr (.inl ⟨q1, q2.tail z⟩)
      · exact .inr (.inr ⟨q1, q2.tail z⟩)
    · rcases ih with q | ⟨q1, q2⟩ | ⟨q1, q2⟩
      · exact .inr (.inl ⟨q, .refl _⟩)
      · exact .inr (.inl ⟨q1, .refl _⟩)
      · exact .inl q1
    · rcases ih with q | ⟨q1, q2⟩ | ⟨q1, q2⟩
      · exact .inr (.inr ⟨q, .refl _⟩)
      · exact .inl q1
      · exact .inr (.inr ⟨q1, .refl _⟩)
/-- one of those that join both ends may go for the link itself -/
theorem exch (x : Lk3) : ∀ (S F : List Lk3), ¬ Con F x.1 x.2.1 → Con (F ++ S) x.1 x.2.1 → ∃ m S', S.Perm (m :: S') ∧ Con (F ++ x :: S') m.1 m.2.1
  | [], F, h, k => by rw [List.append_nil] at k; exact absurd k h
  | s :: S, F, h, k => by
    by_cases c : Con (F ++ [s]) x.1 x.2.1
    · refine ⟨s, S, List.Perm.refl _, ?_⟩
      have up : ∀ {a b}, Con F a b → Con (F ++ x :: S) a b := fun h => h.sub fun l hl => List.mem_append_left _ hl
      have hx : Con (F ++ x :: S) x.1 x.2.1 := .link (List.mem_append_right _ List.mem_cons_self)
      rcases con_snoc c with q | ⟨q1, q2⟩ | ⟨q1, q2⟩
      · exact absurd q h
      · exact ((up q1).symm.trans hx).trans (up q2).symm
      · exact ((up q2).trans hx.symm).trans (up q1)
    · obtain ⟨m, S', h1, h2⟩ := exch x S (F ++ [s]) c (by rw [List.append_assoc]; exact k)
      refine ⟨m, s :: S', (h1.cons s).trans (List.Perm.swap _ _ _), h2.sub fun l hl => ?_⟩
      simp only [List.mem_append, List.mem_cons, List.not_mem_nil, or_false] at hl ⊢
      rcases hl with (hl | hl) | hl | hl
      · exact .inl hl
      · exact .inr (.inr (.inl hl))
      · exact .inr (.inl hl)
      · exact .inr (.inr (.inr hl))
theorem within_snoc {ns : List Str} {F : List Lk3} {x : Lk3} (w : Within ns F) (h : x.1 ∈ ns ∧ x.2.1 ∈ ns) : Within ns (F ++ [x]) := fun l hl => by
  rcases List.mem_append.mp hl with hl | hl
  · exact w l hl
  · rw [List.mem_singleton.mp hl]; exact h
theorem kru_le {ns : List Str} (nd : ns.Nodup) : ∀ (xs F S : List Lk3), xs.Pairwise (fun a b => a.2.2 ≤ b.2.2) → (∀ l ∈ xs, 0 ≤ l.2.2) → Within ns F → Within ns xs → (∀ l ∈ S, l ∈ xs) → (∀ l ∈ xs, Con (F ++ S) l.1 l.2.1) → sumFar (kru ns F xs) ≤ sumFar F + sumFar S
  | [], F, S, _, _, _, _, hS, _ => by
    have : S = [] := by
      cases S with
      | nil => rfl
      | cons a r => cases hS a List.mem_cons_self
    subst this
    show sumFar F ≤ sumFar F + sumFar []
    show sumFar F ≤ sumFar F + 0
    omega
  | x :: r, F, S, hp, hn, wF, wx, hS, hc => by
    obtain ⟨p1, p2⟩ := List.pairwise_cons.mp hp
    have wr : Within ns r := fun l hl => wx l (List.mem_cons_of_mem _ hl)
    have nr : ∀ l ∈ r, 0 ≤ l.2.2 := fun l hl => hn l (List.mem_cons_of_mem _ hl)
    have nS : ∀ l ∈ S, 0 ≤ l.2.2 := fun l hl => hn l (hS l hl)
    have w1 := wx x List.mem_cons_self
    obtain ⟨d1, d2⟩ := sumFar_drop (ls := S) x nS
    have hD : ∀ l ∈ S.filter (fun l => !decide (l = x)), l ∈ r := fun l hl => by
      obtain ⟨h1, h2⟩ := List.mem_filter.mp hl
      exact (List.mem_cons.mp (hS l h1)).resolve_left (by simpa using h2)
    unfold kru
    by_cases b : bothIn (joinedL ns F) x = true
    · rw [if_pos b]
      have cx := (both_con nd wF w1.1).mp b
      have := kru_le nd r F _ p2 nr wF wr hD fun l hl => (hc l (List.mem_cons_of_mem _ hl)).mono fun k hk => by
        rcases List.mem_append.mp hk with hk | hk
        · exact .link (List.mem_append_left _ hk)
        · by_cases e : k = x
          · rw [e]; exact cx.sub fun k hk => List.mem_append_left _ hk
          · exact .link (List.mem_append_right _ (List.mem_filter.mpr ⟨hk, by simpa using e⟩))
      omega
    · rw [if_neg b]
      have ncx : ¬ Con F x.1 x.2.1 := fun c => b ((both_con nd wF w1.1).mpr c)
      by_cases hx : x ∈ S
      · have := kru_le nd r (F ++ [x]) _ p2 nr (within_snoc wF w1) wr hD fun l hl => (hc l (List.mem_cons_of_mem _ hl)).mono fun k hk => by
          rcases List.mem_append.mp hk with hk | hk
          · exact .link (List.mem_append_left _ (List.mem_append_left _ hk))
          · by_cases e : k = x
            · rw [e]; exact .link (List.mem_append_left _ (List.mem_append_right _ List.mem_cons_self))
            · exact .link (List.mem_append_right _ (List.mem_filter.mpr ⟨hk, by simpa using e⟩))
        rw [sumFar_app, sumFar_cons] at this
        have z : sumFar [] = 0 := rfl
        have := d2 hx
        omega
      · obtain ⟨m, S', hm, hmc⟩ := exch x S F ncx (hc x List.mem_cons_self)
        have hS' : ∀ l ∈ m :: S', l ∈ r := fun l hl => by
          have h1 := hm.mem_iff.mpr hl
          refine (List.mem_cons.mp (hS l h1)).resolve_left fun e => hx (e ▸ h1)
        have := kru_le nd r (F ++ [x]) S' p2 nr (within_snoc wF w1) wr (fun l hl => hS' l (List.mem_cons_of_mem _ hl)) fun l hl => (hc l (List.mem_cons_of_mem _ hl)).mono fun k hk => by
          rw [List.append_assoc]
          rcases List.mem_append.mp hk with hk | hk
          · exact .link (List.mem_append_left _ hk)
          · rcases List.mem_cons.mp (hm.mem_iff.mp hk) with e | hk
            · rw [e]; exact hmc
            · exact .link (List.mem_append_right _ (List.mem_cons_of_mem _ hk))
        rw [sumFar_app, sumFar_cons] at this
        have z : sumFar [] = 0 := rfl
        have h2 := p1 m (hS' m List.mem_cons_self)
        rw [sumFar_perm hm, sumFar_cons]
        omega
theorem kru_pre (ns : List Str) : ∀ (xs F : List Lk3), ∀ l ∈ F, l ∈ kru ns F xs
  | [], F, l, h => h
  | x :: r, F, l, h => by
    unfold kru
    by_cases b : bothIn (joinedL ns F) x = true
    · rw [if_pos b]; exact kru_pre ns r F l h
    · rw [if_neg b]; exact kru_pre ns r _ l (List.mem_append_left _ h)
theorem kru_con {ns : List Str} (nd : ns.Nodup) : ∀ (xs F : List Lk3), Within ns F → Within ns xs → ∀ l ∈ xs, Con (kru ns F xs) l.1 l.2.1
  | x :: r, F, wF, wx, l, hl => by
    have wr : Within ns r := fun l hl => wx l (List.mem_cons_of_mem _ hl)
    have w1 := wx x List.mem_cons_self
    unfold kru
    by_cases b : bothIn (joinedL ns F) x = true
    · rw [if_pos b]
      rcases List.mem_cons.mp hl with rfl | hl
      · exact ((both_con nd wF w1.1).mp b).sub (kru_pre ns r F)
      · exact kru_con nd r F wF wr l hl
    · rw [if_neg b]
      rcases List.mem_cons.mp hl with rfl | hl
      · exact .link (kru_pre ns r _ _ (List.mem_append_right _ List.mem_cons_self))
      · exact kru_con nd r _ (within_snoc wF w1) wr l hl
theorem kru_sublist (ns : List Str) : ∀ (xs F : List Lk3), ∃ A, kru ns F xs = F ++ A ∧ A.Sublist xs
  | [], F => ⟨[], (List.append_nil F).symm, List.Sublist.refl _⟩
  | x :: r, F => by
    unfold kru
    by_cases b : bothIn (joinedL ns F) x = true
    · rw [if_pos b]
      obtain ⟨A, h1, h2⟩ := kru_sublist ns r F
      exact ⟨A, h1, h2.cons x⟩
    · rw [if_neg b]
      obtain ⟨A, h1, h2⟩ := kru_sublist ns r (F ++ [x])
      exact ⟨x :: A, by rw [h1, List.append_assoc]; rfl, h2.cons_cons x⟩
theorem lsort_far (ls : List Lk3) : (lsort ls).Pairwise (fun a b => a.2.2 ≤ b.2.2) := by
  have := List.pairwise_mergeSort (le := PySem.W.dataLe false lkKey) (fun a b c => dle_trans lkKey a b c) (dle_total lkKey) ls
  refine List.Pairwise.imp (fun {a b} h => ?_) this
  rw [PySem.W.dataLe_eq] at h
  have h : (!PySem.W.dataLt (lkKey b) (lkKey a)) = true := h
  by_cases e : a.2.2 ≤ b.2.2
  · exact e
  · unfold lkKey at h
    rw [PySem.W.dataLt_tuple, PySem.W.dataLt_cons (by rfl), if_neg, PySem.W.dataLt_int, decide_eq_true (show b.2.2 < a.2.2 by omega)] at h
    · cases h
    · intro z
      have : (b.2.2 == a.2.2) = true := z
      have := eq_of_beq this
      omega
def cheapL (ns : List Str) (ls : List Lk3) : List Lk3 := kru ns [] (lsort ls)
/-- the cheapest net: as much joined as all do, and no set that joins as much has a lesser sum -/
theorem cheap_least {ns : List Str} {ls : List Lk3} (nd : ns.Nodup) (w : Within ns ls) (hn : ∀ l ∈ ls, 0 ≤ l.2.2) :
    (∃ S ∈ lsets ls, joinedL ns S = joinedL ns ls ∧ sumFar S = sumFar (cheapL ns ls)) ∧ ∀ S ∈ lsets ls, joinedL ns S = joinedL ns ls → sumFar (cheapL ns ls) ≤ sumFar S := by
  have hp := lsort_perm ls
  have ws : Within ns (lsort ls) := fun l hl => w l (hp.mem_iff.mp hl)
  have w0 : Within ns [] := fun l hl => by cases hl
  refine ⟨?_, fun S hS e => ?_⟩
  · obtain ⟨A, h1, h2⟩ := kru_sublist ns (lsort ls) []
    rw [List.nil_append] at h1
    obtain ⟨S, s1, s2⟩ := List.exists_perm_sublist h2 hp
    have hc := kru_con nd (lsort ls) [] w0 ws
    refine ⟨S, (mem_lsets _ _).mpr s2, joined_congr nd (fun l hl => w l (s2.subset hl)) w (fun l hl => .link (s2.subset hl)) (fun l hl => ?_), by rw [sumFar_perm s1]; unfold cheapL; rw [h1]⟩
    have := hc l (hp.mem_iff.mpr hl)
    rw [h1] at this
    exact this.sub fun k hk => s1.mem_iff.mpr hk
  · have hsub := (mem_lsets _ _).mp hS
    have hc := joined_con nd (fun l hl => w l (hsub.subset hl)) w e
    have := kru_le nd (lsort ls) [] S (lsort_far ls) (fun l hl => hn l (hp.mem_iff.mp hl)) w0 ws (fun l hl => hp.mem_iff.mpr (hsub.subset hl)) (fun l hl => hc l (hp.mem_iff.mp hl))
    have z : sumFar [] = 0 := rfl
    unfold cheapL
    omega
end
end K2

-- text K2Me
set_option maxRecDepth 100000
set_option maxHeartbeats 4000000
namespace K2
open PySem PySem.Spec PyProof.Rows L2 LamX GX
section
variable {P : Program} {w : World} {K : PySem.W.Frag} {mg : Str → Option Value} {base : Heap}
/-! ### the law's sight is the program's; sight is mutual -/
theorem iabs_cases (n : Int) : (n < 0 ∧ iabs n = -n) ∨ (0 ≤ n ∧ iabs n = n) := by
  unfold iabs
  by_cases h : n < 0
  · rw [if_pos h]; exact .inl ⟨h, rfl⟩
  · rw [if_neg h]; exact .inr ⟨by omega, rfl⟩
/-- one way: u along, v across, W and G the ways to go, S steps -/
def onW (W G S s u v : Int) : Prop := u = (if 0 < W then s else 0 - s) ∧ 2 * (G * s) - S ≤ v * (2 * S) ∧ v * (2 * S) ≤ 2 * (G * s) + S
theorem off_iff {G S s v : Int} : 2 * iabs (v * S - G * s) ≤ S ↔ 2 * (G * s) - S ≤ v * (2 * S) ∧ v * (2 * S) ≤ 2 * (G * s) + S := by
  have e : v * (2 * S) = 2 * (v * S) := by rw [← Int.mul_assoc, Int.mul_comm v 2, Int.mul_assoc]
  rw [e]
  generalize v * S = A
  generalize G * s = B
  rcases iabs_cases (A - B) with ⟨h, e⟩ | ⟨h, e⟩ <;> rw [e] <;> omega
theorem along_iff {W S s u : Int} (hS : S = iabs W) (h0 : 0 < s) (h1 : s < S) : (iabs u = s ∧ 0 ≤ u * W) ↔ u = (if 0 < W then s else 0 - s) := by
  have hW : W ≠ 0 := fun z => by rw [z] at hS; have : iabs 0 = 0 := rfl; omega
  constructor
  · rintro ⟨e, h⟩
    by_cases w : 0 < W
    · rw [if_pos w]
      rcases iabs_cases u with ⟨hu, eu⟩ | ⟨hu, eu⟩
      · have := Int.mul_neg_of_neg_of_pos hu w
        omega
      · omega
    · rw [if_neg w]
      rcases iabs_cases u with ⟨hu, eu⟩ | ⟨hu, eu⟩
      · omega
      · have := Int.mul_neg_of_pos_of_neg (show 0 < u by omega) (show W < 0 by omega)
        omega
  · intro e
    by_cases w : 0 < W
    · rw [if_pos w] at e
      refine ⟨?_, Int.mul_nonneg (by omega) (by omega)⟩
      rcases iabs_cases u with ⟨hu, eu⟩ | ⟨hu, eu⟩ <;> omega
    · rw [if_neg w] at e
      refine ⟨?_, Int.mul_nonneg_of_nonpos_of_nonpos (by omega) (by omega)⟩
      rcases iabs_cases u with ⟨hu, eu⟩ | ⟨hu, eu⟩ <;> omega
theorem near_side {G S s v : Int} (h0 : 0 < s) (h1 : s < S) (h : v ∈ near (G * s) S) : 0 ≤ v * G := by
  obtain ⟨m1, m2⟩ := near_mid h0 h1 h
  rcases Int.le_total 0 G with z | z
  · exact Int.mul_nonneg (m1 z).1 z
  · exact Int.mul_nonneg_of_nonpos_of_nonpos (m2 z).2 z
theorem on_iff {a b : Tw} {s x y : Int} (h0 : 0 < s) (h1 : s < stepsOf a b) : (lOn a b s x y && decide (2 * lOff a b s x y ≤ stepsOf a b)) = true ↔ (x, y) ∈ ptsOf a b s := by
  unfold lOn lOff lAl ptsOf btw
  by_cases hw : iabs (b.2.1 - a.2.1) ≤ iabs (b.1 - a.1)
  · have hS : stepsOf a b = iabs (b.1 - a.1) := by unfold stepsOf mx; rw [if_neg (by omega)]
    rw [if_pos hw, if_pos hw, if_pos hw]
    simp only [Bool.and_eq_true, decide_eq_true_eq, List.mem_map]
    constructor
    · rintro ⟨⟨e, hu, hv⟩, ho⟩
      have hu2 := (along_iff hS h0 h1).mp ⟨e, hu⟩
      refine ⟨y - a.2.1, (near_iff (by omega)).mpr (off_iff.mp ho), ?_⟩
      rw [← hu2]
      exact Prod.ext (by show a.1 + (x - a.1) = x; omega) (by show a.2.1 + (y - a.2.1) = y; omega)
    · rintro ⟨f, hf, e⟩
      have e1 : a.1 + (if 0 < b.1 - a.1 then s else 0 - s) = x := congrArg Prod.fst e
      have e2 : a.2.1 + f = y := congrArg Prod.snd e
      have ey : y - a.2.1 = f := by omega
      have ex : x - a.1 = (if 0 < b.1 - a.1 then s else 0 - s) := by omega
      obtain ⟨k1, k2⟩ := (along_iff hS h0 h1).mpr ex
      rw [ey]
      exact ⟨⟨k1, k2, near_side h0 h1 hf⟩, off_iff.mpr ((near_iff (by omega)).mp hf)⟩
  · have hS : stepsOf a b = iabs (b.2.1 - a.2.1) := by unfold stepsOf mx; rw [if_pos (by omega)]
    rw [if_neg hw, if_neg hw, if_neg hw]
    simp only [Bool.and_eq_true, decide_eq_true_eq, List.mem_map]
    constructor
    · rintro ⟨⟨e, hu, hv⟩, ho⟩
      have hv2 := (along_iff hS h0 h1).mp ⟨e, hv⟩
      refine ⟨x - a.1, (near_iff (by omega)).mpr (off_iff.mp ho), ?_⟩
      rw [← hv2]
      exact Prod.ext (by show a.1 + (x - a.1) = x; omega) (by show a.2.1 + (y - a.2.1) = y; omega)
    · rintro ⟨f, hf, e⟩
      have e1 : a.1 + f = x := congrArg Prod.fst e
      have e2 : a.2.1 + (if 0 < b.2.1 - a.2.1 then s else 0 - s) = y := congrArg Prod.snd e
      have ex : x - a.1 = f := by omega
      have ey : y - a.2.1 = (if 0 < b.2.1 - a.2.1 then s else 0 - s) := by omega
      obtain ⟨k1, k2⟩ := (along_iff hS h0 h1).mpr ey
      rw [ex]
      exact ⟨⟨k1, near_side h0 h1 hf, k2⟩, off_iff.mpr ((near_iff (by omega)).mp hf)⟩
theorem seesB_iff {rs : List (List Int)} {a b : Tw} : seesB rs a b = true ↔ ∀ s, 0 < s → s < stepsOf a b → ∀ p ∈ ptsOf a b s, blk rs a b s p = false := by
  unfold seesB
  rw [List.all_eq_true]
  constructor
  · intro h s h0 h1 p hp
    have h2 := h (s - 1).toNat (List.mem_range.mpr (by omega))
    rw [List.all_eq_true] at h2
    have e : (1 : Int) + ((s - 1).toNat : Int) = s := by omega
    rw [e] at h2
    simpa using h2 p hp
  · intro h k hk
    have hk := List.mem_range.mp hk
    rw [List.all_eq_true]
    intro p hp
    rw [h _ (by omega) (by omega) p hp]
    rfl
theorem lSees_eq {rs : List (List Int)} {a b : Tw} (ha : inT rs a) (hb : inT rs b) : lSees rs a b = seesB rs a b := by
  refine Bool.eq_iff_iff.mpr ?_
  rw [seesB_iff]
  unfold lSees
  simp only [List.all_eq_true, List.mem_range]
  constructor
  · intro h s h0 h1 p hp
    obtain ⟨⟨y0, y1⟩, x0, x1⟩ := pts_in ha hb h0 h1 p hp
    have h2 := h (s - 1).toNat (by omega) p.2.toNat (by omega) p.1.toNat (by omega)
    have e : (1 : Int) + ((s - 1).toNat : Int) = s := by omega
    rw [e, Int.toNat_of_nonneg y0, Int.toNat_of_nonneg x0] at h2
    have ho := (on_iff (a := a) (b := b) (x := p.1) (y := p.2) h0 h1).mpr hp
    have h2 : (!(lOn a b s p.1 p.2 && (decide (2 * lOff a b s p.1 p.2 ≤ stepsOf a b) && blk rs a b s (p.1, p.2)))) = true := h2
    rw [← Bool.and_assoc, ho, Bool.true_and] at h2
    simpa using h2
  · intro h k hk y hy x hx
    show (!(lOn a b (1 + (k : Int)) x y && (decide (2 * lOff a b (1 + (k : Int)) x y ≤ stepsOf a b) && blk rs a b (1 + (k : Int)) (x, y)))) = true
    rw [← Bool.and_assoc]
    cases hon : (lOn a b (1 + (k : Int)) x y && decide (2 * lOff a b (1 + (k : Int)) x y ≤ stepsOf a b)) with
    | false => rfl
    | true =>
      rw [h _ (by omega) (by omega) _ ((on_iff (by omega) (by omega)).mp hon)]
      rfl
/-! mutual -/
theorem iabs_neg (n : Int) : iabs (-n) = iabs n := by
  rcases iabs_cases n with ⟨h, e⟩ | ⟨h, e⟩ <;> rcases iabs_cases (-n) with ⟨h2, e2⟩ | ⟨h2, e2⟩ <;> rw [e, e2] <;> omega
theorem steps_sym (a b : Tw) : stepsOf b a = stepsOf a b := by
  unfold stepsOf
  rw [show a.1 - b.1 = -(b.1 - a.1) by omega, show a.2.1 - b.2.1 = -(b.2.1 - a.2.1) by omega, iabs_neg, iabs_neg]
theorem near_sym {G S s v : Int} (h0 : 0 < S) (h : v ∈ near (G * s) S) : v - G ∈ near (-G * (S - s)) S := by
  obtain ⟨h1, h2⟩ := (near_iff h0).mp h
  refine (near_iff h0).mpr ?_
  have e1 : -G * (S - s) = G * s - G * S := by rw [Int.neg_mul, Int.mul_sub]; omega
  have e2 : (v - G) * (2 * S) = v * (2 * S) - 2 * (G * S) := by
    rw [Int.sub_mul, ← Int.mul_assoc G 2 S, Int.mul_comm G 2, Int.mul_assoc]
  rw [e1, e2]
  omega
theorem pts_sym {a b : Tw} {s : Int} (h0 : 0 < s) (h1 : s < stepsOf a b) {p : Pt} (h : p ∈ ptsOf a b s) : p ∈ ptsOf b a (stepsOf a b - s) := by
  unfold ptsOf btw at h ⊢
  rw [steps_sym a b]
  have n1 : a.1 - b.1 = -(b.1 - a.1) := by omega
  have n2 : a.2.1 - b.2.1 = -(b.2.1 - a.2.1) := by omega
  rw [n1, n2, iabs_neg, iabs_neg]
  by_cases hw : iabs (b.2.1 - a.2.1) ≤ iabs (b.1 - a.1)
  · have hS : stepsOf a b = iabs (b.1 - a.1) := by unfold stepsOf mx; rw [if_neg (by omega)]
    rw [if_pos hw] at h ⊢
    obtain ⟨f, hf, rfl⟩ := List.mem_map.mp h
    refine List.mem_map.mpr ⟨f - (b.2.1 - a.2.1), near_sym (by omega) hf, Prod.ext ?_ ?_⟩
    · show b.1 + (if 0 < -(b.1 - a.1) then stepsOf a b - s else 0 - (stepsOf a b - s)) = a.1 + (if 0 < b.1 - a.1 then s else 0 - s)
      rw [hS] at h1 ⊢
      rcases iabs_cases (b.1 - a.1) with ⟨z, e⟩ | ⟨z, e⟩ <;> rw [e] at h1 ⊢
      · rw [if_pos (by omega), if_neg (by omega)]; omega
      · rw [if_neg (by omega), if_pos (by omega)]; omega
    · show b.2.1 + (f - (b.2.1 - a.2.1)) = a.2.1 + f
      omega
  · have hS : stepsOf a b = iabs (b.2.1 - a.2.1) := by unfold stepsOf mx; rw [if_pos (by omega)]
    rw [if_neg hw] at h ⊢
    obtain ⟨f, hf, rfl⟩ := List.mem_map.mp h
    refine List.mem_map.mpr ⟨f - (b.1 - a.1), near_sym (by omega) hf, Prod.ext ?_ ?_⟩
    · show b.1 + (f - (b.1 - a.1)) = a.1 + f
      omega
    · show b.2.1 + (if 0 < -(b.2.1 - a.2.1) then stepsOf a b - s else 0 - (stepsOf a b - s)) = a.2.1 + (if 0 < b.2.1 - a.2.1 then s else 0 - s)
      rw [hS] at h1 ⊢
      rcases iabs_cases (b.2.1 - a.2.1) with ⟨z, e⟩ | ⟨z, e⟩ <;> rw [e] at h1 ⊢
      · rw [if_pos (by omega), if_neg (by omega)]; omega
      · rw [if_neg (by omega), if_pos (by omega)]; omega
theorem blk_sym {rs : List (List Int)} {a b : Tw} {s : Int} {p : Pt} : blk rs b a (stepsOf a b - s) p = blk rs a b s p := by
  unfold blk
  rw [steps_sym a b, show stepsOf a b - (stepsOf a b - s) = s by omega, Int.add_comm (topOf rs b * s)]
theorem sees_half {rs : List (List Int)} {a b : Tw} (h : seesB rs a b = true) : seesB rs b a = true := by
  rw [seesB_iff] at h ⊢
  intro s h0 h1 p hp
  have h2 := pts_sym h0 h1 hp
  have e := steps_sym a b
  have h3 := h (stepsOf b a - s) (by omega) (by omega) p h2
  rw [← blk_sym (a := b) (b := a)]
  exact h3
theorem sees_sym (rs : List (List Int)) (a b : Tw) : seesB rs b a = seesB rs a b := Bool.eq_iff_iff.mpr ⟨sees_half, sees_half⟩
/-! the nearest -/
def offs (n p : Int) : List (Int × Int) := (List.range 63).map fun k : Nat => (iabs ((-31 + (k : Int)) * p - n), -31 + (k : Int))
def leastO (xs : List (Int × Int)) : Int := xs.foldl (fun m x => if x.1 < m then x.1 else m) ((xs.headD (0, 0)).1)
def nearBy (n p : Int) : List Int := ((offs n p).filter fun x => decide (x.1 = leastO (offs n p))).map (·.2)
theorem near_all : (List.range 9).all (fun p => (List.range 60).all fun n => decide (near ((n : Int) - 30) (1 + (p : Int)) = nearBy ((n : Int) - 30) (1 + (p : Int)))) = true := by decide +kernel
theorem near_least {n p : Int} (h0 : 0 ≤ n) (h1 : n < 60) (p0 : 0 ≤ p) (p1 : p < 9) : near (n - 30) (1 + p) = nearBy (n - 30) (1 + p) := by
  have h := List.all_eq_true.mp (List.all_eq_true.mp near_all p.toNat (List.mem_range.mpr (by omega))) n.toNat (List.mem_range.mpr (by omega))
  rw [Int.toNat_of_nonneg h0, Int.toNat_of_nonneg p0] at h
  exact of_decide_eq_true h
end
end K2

-- text LamV
set_option maxRecDepth 100000
set_option maxHeartbeats 4000000
/-! LamV: lambdas without parameters as values, and a def that is handed one of them from within a list comprehension. -/
namespace GX
open PySem PySem.Spec PyProof.Rows L2 LamX
/-- the object at f is that lambda -/
def LamO (f : Addr) (q : Str) (params : Arguments) (body : Expr) (scope : Scope) (cl : List (Str × Addr)) (c : Addr) : HO :=
  .ext fun h => ∃ pm ctv : Value, h.get? f = some (PySem.W.kla_obj "<lambda>" q params body scope cl pm c ctv)
section
variable {X : Cx} {pins : List (Addr × Obj)} {σ : L2.St} {H HZ : Hp} {s : Shared}
theorem inv_lamO {q : Str} {params : Arguments} {body : Expr} {scope : Scope} {cl : List (Str × Addr)} {pm ctv : Value} {c' : Addr} {t' : Nat} (I : Inv X pins σ H s) :
    Inv X pins σ (upd H s.heap.objs.size (LamO s.heap.objs.size q params body scope cl c')) { s with heap := s.heap.push (PySem.W.kla_obj "<lambda>" q params body scope cl pm c' ctv), toks := t' } := by
  refine I.laid (a := s.heap.objs.size) (fun b u e => Heap.get?_push_of_some _ e) (Nat.le_refl _) ?_
  have e : (s.heap.push (PySem.W.kla_obj "<lambda>" q params body scope cl pm c' ctv)).get? s.heap.objs.size = some (PySem.W.kla_obj "<lambda>" q params body scope cl pm c' ctv) := Heap.get?_push_size _ rfl
  exact ⟨⟨pm, ctv, e⟩, ⟨_, e⟩, fun h1 h2 ⟨pm, ctv, z⟩ st => ⟨pm, ctv, st _ z⟩⟩
/-- the reading of a lambda as a value -/
def tLamV (X : Cx) (T : List (Addr × Str)) (params : Arguments) (body : Expr) (scope : Scope) : TE := fun _ H Q => Tabs T H ∧ ∀ (f c' : Addr) (H1 : Hp), Le T H H1 → H f = none →
  H1 f = some (LamO f (X.env.qual ++ "<lambda>") params body scope (cloFrom X.env.cells scope.names []) c') → H1 c' = some (CodeO c' (X.env.qual ++ "<lambda>")) → Q (.ref f) H1
theorem pe_lam {T : List (Addr × Str)} {c P : Addr} {params : Arguments} {body : Expr} {scope : Scope} {pos : Pos} (TB : TabB X.base X.mg c P) (hcode : X.env.code = .ref c) (hmT : (P, X.env.qual ++ "<lambda>") ∈ T) (hu : ∀ p ∈ T, p.1 = P → p.2 = X.env.qual ++ "<lambda>")
    (L : LamS X.env.scope scope) (hdef : defaultsOf params X.env = ([], [])) : PE X (.Lambda params body scope pos) (tLamV X T params body scope) := by
  refine ⟨fun pins s σ H Q I h => ?_⟩
  obtain ⟨hT, h⟩ := h
  obtain ⟨ps, hP, ht, ha⟩ := hT _ hmT
  refine PySem.W.kla_eval hdef ?_
  have bP : s.heap.BuiltinsAt X.mg P := TB.bm.keeps I.bk
  have hP' : s.heap.get? P = some { cls := .none, data := .fields ps } := I.hok P _ hP
  cases hc : codeAmong pos ps.toList with
  | none =>
    refine PySem.W.kla_makeFunction (mg := X.mg) (c := c) (P := P) (ps := ps) (closure_ok (L.has I.ok)) I.ok.glob (I.mod.glob.keeps I.bk) hcode (TB.code.keeps I.bk) hP' ht hc TB.gP bP fun c' ctv h' tk hx hge hlt hrec htb => ?_
    obtain ⟨c2, oc, vs, t, e2, hoc, hd, hv⟩ := hrec
    cases e2
    have nC : H c' = none := I.hok.fresh hge
    have I1 := inv_table (t' := tk) (more := #[rawInt pos.line, rawInt pos.col, .ref c']) (h' := h') I hP (fun b o hb e => hx b o hb e) htb hge ⟨oc, vs, t, hoc, hd, hv⟩
    have hE : ExtN H (upd (upd H P (.tbl (ps ++ #[rawInt pos.line, rawInt pos.col, .ref c']))) c' (CodeO c' (X.env.qual ++ "<lambda>"))) := fun b o e n => by
      rw [upd_ne (ne_of_none e nC), upd_ne (fun z => n ps (Option.some.inj (e.symm.trans (by rw [z]; exact hP))))]
      exact e
    have eL : (ps ++ #[rawInt pos.line, rawInt pos.col, .ref c']).toList = ps.toList ++ [rawInt pos.line, rawInt pos.col, .ref c'] := by simp
    have T1 : Tabs T (upd (upd H P (.tbl (ps ++ #[rawInt pos.line, rawInt pos.col, .ref c']))) c' (CodeO c' (X.env.qual ++ "<lambda>"))) := fun p hp => by
      by_cases hb : p.1 = P
      · rw [hu p hp hb, hb]
        refine ⟨_, by rw [upd_ne (ne_of_none hP nC), upd_same], by rw [eL]; exact PySem.TriplesOk_snoc _ _ _ _ ht, fun p' cv hcv => ?_⟩
        rw [eL] at hcv
        rcases among_app _ ht hcv with z | z
        · obtain ⟨c0, e1, e2⟩ := ha p' cv z
          exact ⟨c0, e1, hE _ _ e2 codeO_ne⟩
        · exact ⟨c', z, upd_same⟩
      · obtain ⟨ps', a1, a2, a3⟩ := hT p hp
        refine ⟨ps', by rw [upd_ne (ne_of_none a1 nC), upd_ne hb]; exact a1, a2, fun p' cv hcv => ?_⟩
        obtain ⟨c0, e1, e2⟩ := a3 p' cv hcv
        exact ⟨c0, e1, hE _ _ e2 codeO_ne⟩
    have nF := I1.hok.fresh (Nat.le_refl _)
    have L1 : Le T H (upd (upd H P (.tbl (ps ++ #[rawInt pos.line, rawInt pos.col, .ref c']))) c' (CodeO c' (X.env.qual ++ "<lambda>"))) := ⟨hE, T1, fun b e => by
      have e1 : upd H P (.tbl (ps ++ #[rawInt pos.line, rawInt pos.col, .ref c'])) b = none := upd_none2 e
      exact upd_none2 e1⟩
    refine ⟨.ref h'.objs.size, _, inv_lamO (t' := tk) I1, rfl, h h'.objs.size c' _ (L1.new nF) (I.hok.fresh (Nat.le_trans hge (Nat.le_of_lt hlt))) upd_same ?_⟩
    exact (upd_ne (Nat.ne_of_lt hlt)).trans upd_same
  | some cv =>
    obtain ⟨c', e, hco⟩ := ha pos cv hc
    subst e
    refine PySem.W.kla_makeFunctionHit (mg := X.mg) (c := c) (P := P) (ps := ps) (closure_ok (L.has I.ok)) I.ok.glob (I.mod.glob.keeps I.bk) hcode (TB.code.keeps I.bk) hP' ht hc bP fun ctv h' tk hx hsz => ?_
    have I1 : Inv X pins σ H { s with heap := h', toks := tk } := I.kept hx
    have nF : H h'.objs.size = none := I1.hok.fresh (Nat.le_refl _)
    refine ⟨.ref h'.objs.size, _, inv_lamO (t' := tk) I1, rfl, h h'.objs.size c' _ ((Le.refl hT).new nF) nF upd_same ?_⟩
    exact (upd_ne (ne_of_none hco nF)).trans hco
/-- x(), in the def that got the lambda, the lambda's object known -/
theorem pe_actV {CXg : CXT} {Eg : XK} {Ng : List Str} {qg : Str} {sg : Scope} {g f c' : Addr} {cdg : Value} {params : Arguments} {body : Expr} {scope : Scope} {k i : Nat} {a : Str} {pn : List (Addr × Obj)} {xe : Value → Shared → Prop} {W : WX} {E : XK} {tb : TE} {p1 p2 : Pos}
    (I : Inv X pins σ H s) (L : LamS X.env.scope scope) (hbind : ∀ pm ctv, bindArgs (PySem.W.kla_fn "<lambda>" (X.env.qual ++ "<lambda>") params body scope (cloFrom X.env.cells scope.names []) pm (.ref c') ctv) ⟨[], []⟩ = pure [])
    (tk : L2.Takes ((cxOf CXg X.prog X.w X.K X.mg X.base Ng qg sg g cdg X.A X.stack s H Eg).tr pn xe) W) (hW : ∀ cls d σ' H', E cls d H' → W cls d σ' H') (hr : Room (k + 1) (X.A.deeper (envOfC qg sg s.heap.objs.size g cdg)))
    (hbody : ∀ (A : Around) (outer : List Env) (s : Shared) (H : Hp), Room k (A.deeper (lamEnv X scope s.heap.objs.size f c')) → PE (lamCx X A outer s H E scope f c') body tb)
    (hN : Ng[i]? = some a) (hv : Vis sg a) (hd : (a == ("__debug__" : Str)) = false := by decide) (hcd : (a == ("__classdict__" : Str)) = false := by decide) :
    PE ((cxOf CXg X.prog X.w X.K X.mg X.base Ng qg sg g cdg X.A X.stack s H Eg).tr pn xe) (.Call (.Name a p1) [] [] p2)
      (fun σZ HZ Q => σZ[i]? = some (some (.ref f)) ∧ HZ c' = some (CodeO c' (X.env.qual ++ "<lambda>")) ∧ HZ f = some (LamO f (X.env.qual ++ "<lambda>") params body scope (cloFrom X.env.cells scope.names []) c') ∧ tb σ HZ Q) := by
  refine ⟨fun pinsZ sZ σZ HZ Q IZ h => ?_⟩
  obtain ⟨hs, hc, hl, ht⟩ := h
  refine wpAny_Call_Name_kw (thn ((pe_var (pos := p1) (i := i) hN hv hd hcd).run pinsZ sZ σZ HZ (fun v H1 => v = .ref f ∧ H1 = HZ) IZ ⟨.ref f, hs, rfl, rfl⟩) fun u s1 ⟨v, H1, I1, r1, ev, eH⟩ => ?_)
  subst ev
  rw [eH] at I1
  obtain rfl : u = Value.ref f := r1
  obtain ⟨⟨pm, ctv, of1⟩, _, _⟩ := I1.hok f _ hl
  refine PySem.W.callWith_F0 ⟨_, _, _, _, of1⟩ ?_
  obtain ⟨⟨oc, vs, t, hoc, hdc, hvc⟩, _, _⟩ := I1.hok c' _ hc
  have rc : codeAny (model X.prog X.w) (X.A.deeper (envOfC qg sg s.heap.objs.size g cdg)) (.call (.ref f) ⟨[], []⟩) (CR (L2.CX X.prog X.w) (envOfC qg sg s.heap.objs.size g cdg :: X.stack) X.prog X.w HZ s1 Q E) s1 := by
    refine PySem.W.kla_callFunE hr.depth of1 rfl L.co L.gen rfl ⟨c', oc, vs, t, rfl, hoc, hdc, hvc⟩ ?_
    rw [hbind]
    refine wpAny_pure (wpAny_newFunctionEnv (fun y hy => (L.own y hy).2) (fun y hy => absurd hy (by simp)) (fun h₁ hns hsb => ⟨I1.nolimit.fresh _ hsb, ?_⟩) L.kind)
    show codeAny _ _ (.expr body (lamEnv X scope s1.heap.objs.size f c')) _ _
    have J := lam_start2 (E := E) (f := f) (c' := c') (tk := s1.toks + ([] : List (Str × Value)).length) I L I1.env0 hr.hd I1.base hns fun b o e => hsb.extBut b o (Nat.ne_of_lt (Heap.lt_size e)) (Heap.get?_push_of_some _ e)
    refine PySem.W.kla_codeExpr (wpAny_mono ((hbody _ _ s1 HZ (hr.deeper _)).run [] _ _ HZ Q J ht) (fun v s' hq => ?_) fun e s' hq => hq)
    obtain ⟨w', H', J', rv, q⟩ := hq
    exact ⟨w', H', J'.os, J'.bare, J'.base, J'.hok, rv, q⟩
  have hx : Passes (L2.CX X.prog X.w) ((cxOf CXg X.prog X.w X.K X.mg X.base Ng qg sg g cdg X.A X.stack s H Eg).tr pn xe) E := L2.passes_call tk hW
  refine wpAny_call (codeAny_mono rc fun r s' hq => ?_)
  match r, hq with
  | .error e, hq => exact hx pinsZ σZ HZ s1 e s' I1 hq
  | .ok (.ret u), hq => exact I1.after hq
  | .ok .next, hq => exact False.elim hq
  | .ok .brk, hq => exact False.elim hq
  | .ok .cont, hq => exact False.elim hq
end
/-- a lambda's words, and what its body's reading is when E is let out -/
structure LamD where
  params : Arguments
  body : Expr
  scope : Scope
  t : XK → TE
section
variable {X : Cx}
abbrev lamAt (X : Cx) (d : LamD) (f c' : Addr) : HO := LamO f (X.env.qual ++ "<lambda>") d.params d.body d.scope (cloFrom X.env.cells d.scope.names []) c'
/-- the reading of told(f), f one of the lambdas Fam; σ the outer def's names -/
def tTold (X : Cx) (Fam : List LamD) (TT : (XK → Hp → VK → Prop) → Hp → VK → Prop) (σ : L2.St) (j : Nat) : TE := fun σb H Q => ∃ (f c' : Addr) (d : LamD), σb[j]? = some (some (.ref f)) ∧ d ∈ Fam ∧ H f = some (lamAt X d f c') ∧ H c' = some (CodeO c' (X.env.qual ++ "<lambda>")) ∧
  TT (fun E H' Q' => H' f = some (lamAt X d f c') ∧ d.t E σ H' Q') H Q
/-- what is asked of each lambda -/
structure LamOk (X : Cx) (k : Nat) (d : LamD) : Prop where
  s : LamS X.env.scope d.scope
  bind : ∀ (q : Str) (cl : List (Str × Addr)) (pm cv ctv : Value), bindArgs (PySem.W.kla_fn "<lambda>" q d.params d.body d.scope cl pm cv ctv) ⟨[], []⟩ = pure []
  run : ∀ (A : Around) (outer : List Env) (s : Shared) (H : Hp) (E : XK) (f c' : Addr), Room k (A.deeper (lamEnv X d.scope s.heap.objs.size f c')) → PE (lamCx X A outer s H E d.scope f c') d.body (d.t E)
theorem pe_toldV {s0 : Shared} {H0 : Hp} {scope0 : Scope} {ce : Env} {fp : List Addr} {σ : L2.St} {Fam : List LamD} {TT : (XK → Hp → VK → Prop) → Hp → VK → Prop} {x a fn : Str} {g : Addr} {k j : Nat} {pg : Arguments} {bg : List Stmt} {sg : Scope} {dV kV doc pm cdv ct oc : Value} {an od : Option Addr} {osl : Array (Option Value)} {Ng : List Str} {p p2 pos : Pos}
    (back : ∀ pn σ' H' z, Inv (X.blk s0 H0 scope0 ce fp) pn σ' H' z → ∃ ps, Inv X ps σ H' z) (hF : ∀ d ∈ Fam, LamOk X k d)
    (hg : Gl (X.blk s0 H0 scope0 ce fp) x) (hm : X.mg x = some (.ref g)) (hk : PySem.W.keepIn X.K (.ref g) = true)
    (lk : X.K.lookup g = some ⟨oc, od, .func (PySem.W.fnOf x x pg bg sg dV kV doc pm an cdv ct), osl⟩) (hcg : PySem.W.codeIn X.K cdv x = true) (hb : L2.Binds X.K (PySem.W.fnOf x x pg bg sg dV kV doc pm an cdv ct) [a] []) (Sg : FnScope Ng [a] sg) (hNg : Ng[0]? = some a) (hva : Vis sg a)
    (hG : GivesTo X Ng x sg g cdv bg a (X.env.qual ++ "<lambda>") TT) (hr : Room (k + 2) X.A) (hN : X.N[j]? = some fn) (hv : Vis ce.scope fn)
    (hdb : (x == ("__debug__" : Str)) = false := by decide) (hd : (a == ("__debug__" : Str)) = false := by decide) (hcd : (a == ("__classdict__" : Str)) = false := by decide) (hd2 : (fn == ("__debug__" : Str)) = false := by decide) (hcd2 : (fn == ("__classdict__" : Str)) = false := by decide) :
    PE (X.blk s0 H0 scope0 ce fp) (.Call (.Name x p) [.Name fn p2] [] pos) (tTold X Fam TT σ j) := by
  refine ⟨fun pins s σb H Q I h => ?_⟩
  obtain ⟨f, c', d, hs, hdF, hl, hco, h⟩ := h
  have D := hF d hdF
  refine wpAny_Call_Name_kw (ld_glob I hg hm ?_ hdb)
  refine PySem.W.callWith_K (h₀ := X.base) I.ok.mod.kin hk ?_ (by rfl) (by rfl)
  show wpAny _ _ (spliced ((false, eval (.Name fn p2) ce) :: backTo pos (starEach [] ce))) _ _ s
  refine Calls.spliced_cons (thn ((pe_var (X := X.blk s0 H0 scope0 ce fp) (pos := p2) (i := j) hN hv hd2 hcd2).run pins s σb H (fun v H1 => v = .ref f ∧ H1 = H) I ⟨.ref f, hs, rfl, rfl⟩) fun u s1 ⟨v, H1, I1, r1, ev, eH⟩ => ?_)
  subst ev
  rw [eH] at I1
  obtain rfl : u = Value.ref f := r1
  refine Calls.spliced_nil ⟨I1.kIn, ?_⟩
  obtain ⟨ps, IX⟩ := back _ _ _ _ I1
  have rc : codeAny (model X.prog X.w) X.A (.call (.ref g) ⟨[.ref f], []⟩) (CR C8.CX0 X.stack X.prog X.w H s1 Q C8.E0) s1 := by
    refine run_ofS (N := Ng) (ps := [a]) (us := [.ref f]) (vs := [.ref f]) lk hcg Sg hr I1.env0 (hb s1 [.ref f] I1.kIn rfl) (.cons rfl .nil) rfl fun hr' => ?_
    obtain ⟨t', ht', hq'⟩ := hG f c' s1 H Q (fun E H' Q' => H' f = some (lamAt X d f c') ∧ d.t E σ H' Q') (fun W pn xe E p1 p2 tk hW => pe_actV (i := 0) IX D.s (fun _ _ => D.bind _ _ _ _ _) tk hW hr' (fun A outer s H hr2 => D.run A outer s H E f c' hr2) hNg hva hd hcd) hco h
    exact ⟨t', ht'.nox, hq'⟩
  refine wpAny_call (codeAny_mono rc fun r s2 hq => ?_)
  match r, hq with
  | .error e, hq => exact (show False from hq).elim
  | .ok (.ret u), hq => exact I1.after hq
  | .ok .next, hq => exact False.elim hq
  | .ok .brk, hq => exact False.elim hq
  | .ok .cont, hq => exact False.elim hq
end
end GX

-- text LamW
set_option maxRecDepth 100000
set_option maxHeartbeats 4000000
/-! LamW: told(lambda: ..) in a def's own body, the heap behind it known to have grown alone. -/
namespace GX
open PySem PySem.Spec PyProof.Rows L2 LamX
section
variable {X : Cx}
def tToldL (X : Cx) (T : List (Addr × Str)) (d : LamD) (TT : (XK → Hp → VK → Prop) → Hp → VK → Prop) : TE := fun σ H Q => Tabs T H ∧ ∀ (f c' : Addr) (H1 : Hp), Le T H H1 → H f = none →
  H1 f = some (lamAt X d f c') → H1 c' = some (CodeO c' (X.env.qual ++ "<lambda>")) → TT (fun E H' Q' => H' f = some (lamAt X d f c') ∧ d.t E σ H' Q') H1 Q
theorem pe_toldL {T : List (Addr × Str)} {TT : (XK → Hp → VK → Prop) → Hp → VK → Prop} {x a : Str} {g c P : Addr} {k : Nat} {pg : Arguments} {bg : List Stmt} {sg : Scope} {dV kV doc pm cdv ct oc : Value} {an od : Option Addr} {osl : Array (Option Value)} {Ng : List Str} {p lpos pos : Pos}
    (d : LamD) (D : LamOk X k d) (TB : TabB X.base X.mg c P) (hcode : X.env.code = .ref c) (hmT : (P, X.env.qual ++ "<lambda>") ∈ T) (hu : ∀ p ∈ T, p.1 = P → p.2 = X.env.qual ++ "<lambda>") (hdef : defaultsOf d.params X.env = ([], []))
    (hg : Gl X x) (hm : X.mg x = some (.ref g)) (hk : PySem.W.keepIn X.K (.ref g) = true)
    (lk : X.K.lookup g = some ⟨oc, od, .func (PySem.W.fnOf x x pg bg sg dV kV doc pm an cdv ct), osl⟩) (hcg : PySem.W.codeIn X.K cdv x = true) (hb : L2.Binds X.K (PySem.W.fnOf x x pg bg sg dV kV doc pm an cdv ct) [a] []) (Sg : FnScope Ng [a] sg) (hNg : Ng[0]? = some a) (hva : Vis sg a)
    (hG : GivesTo X Ng x sg g cdv bg a (X.env.qual ++ "<lambda>") TT) (hr : Room (k + 2) X.A)
    (hdb : (x == ("__debug__" : Str)) = false := by decide) (hd : (a == ("__debug__" : Str)) = false := by decide) (hcd : (a == ("__classdict__" : Str)) = false := by decide) :
    PE X (.Call (.Name x p) [.Lambda d.params d.body d.scope lpos] [] pos) (tToldL X T d TT) := by
  refine ⟨fun pins s σ H Q I h => ?_⟩
  refine wpAny_Call_Name_kw (ld_glob I hg hm ?_ hdb)
  refine PySem.W.callWith_K (h₀ := X.base) I.ok.mod.kin hk ?_ (by rfl) (by rfl)
  show wpAny _ _ (spliced ((false, eval (.Lambda d.params d.body d.scope lpos) X.env) :: backTo pos (starEach [] X.env))) _ _ s
  refine Calls.spliced_cons (thn ((pe_lam (pos := lpos) TB hcode hmT hu D.s hdef).run pins s σ H (fun v H1 => ∃ f c', v = .ref f ∧ H1 f = some (lamAt X d f c') ∧ H1 c' = some (CodeO c' (X.env.qual ++ "<lambda>")) ∧ TT (fun E H' Q' => H' f = some (lamAt X d f c') ∧ d.t E σ H' Q') H1 Q) I
    ⟨h.1, fun f c' H1 L n e1 e2 => ⟨f, c', rfl, e1, e2, h.2 f c' H1 L n e1 e2⟩⟩) fun u s1 ⟨v, H1, I1, r1, f, c', ev, hl, hco, h⟩ => ?_)
  subst ev
  obtain rfl : u = Value.ref f := r1
  refine Calls.spliced_nil ⟨I1.kIn, ?_⟩
  have rc : codeAny (model X.prog X.w) X.A (.call (.ref g) ⟨[.ref f], []⟩) (CR C8.CX0 X.stack X.prog X.w H1 s1 Q C8.E0) s1 := by
    refine run_ofS (N := Ng) (ps := [a]) (us := [.ref f]) (vs := [.ref f]) lk hcg Sg hr I1.env0 (hb s1 [.ref f] I1.kIn rfl) (.cons rfl .nil) rfl fun hr' => ?_
    obtain ⟨t', ht', hq'⟩ := hG f c' s1 H1 Q (fun E H' Q' => H' f = some (lamAt X d f c') ∧ d.t E σ H' Q') (fun W pn xe E p1 p2 tk hW => pe_actV (i := 0) I1 D.s (fun _ _ => D.bind _ _ _ _ _) tk hW hr' (fun A outer s H hr2 => D.run A outer s H E f c' hr2) hNg hva hd hcd) hco h
    exact ⟨t', ht'.nox, hq'⟩
  refine wpAny_call (codeAny_mono rc fun r s2 hq => ?_)
  match r, hq with
  | .error e, hq => exact (show False from hq).elim
  | .ok (.ret u), hq => exact I1.after hq
  | .ok .next, hq => exact False.elim hq
  | .ok .brk, hq => exact False.elim hq
  | .ok .cont, hq => exact False.elim hq
end
end GX

-- text K2P
set_option maxRecDepth 100000
set_option maxHeartbeats 4000000
namespace K2
open PySem PySem.Spec PyProof.Rows L2 LamX GX
section
variable {P : Program} {w : World} {K : PySem.W.Frag} {mg : Str → Option Value} {base : Heap}
variable {f : Addr} {cd : Value} {A : Around} {outer : List Env} {s : Shared} {H0 : Hp} {E : XK}
/-! ### _law_net: its state -/
abbrev XN (P : Program) (w : World) (K : PySem.W.Frag) (mg : Str → Option Value) (base : Heap) (f : Addr) (cd : Value) (A : Around) (outer : List Env) (s : Shared) (H : Hp) (E : XK) : Cx := XA P w K mg base n_l_net "_law_net" (defScope s_l_net) f cd A outer s H E
abbrev fN (K : PySem.W.Frag) : Addr := He.fAd K ("_law_net", none)
abbrev cdN (K : PySem.W.Frag) : Value := .ref (He.cT K ("_law_net", none)).1
def NB : List Stmt := defBody s_l_net
def sn (i : Nat) : Stmt := (NB[i]?).getD (.Pass default)
theorem NB_len : NB.length = 14 := by decide +kernel
theorem ex32 {σ : L2.St} (h : σ.length = 32) : ∃ a0 a1 a2 a3 a4 a5 a6 a7 a8 a9 a10 a11 a12 a13 a14 a15 a16 a17 a18 a19 a20 a21 a22 a23 a24 a25 a26 a27 a28 a29 a30 a31, σ = a0 :: a1 :: a2 :: a3 :: a4 :: a5 :: a6 :: a7 :: a8 :: a9 :: a10 :: a11 :: a12 :: a13 :: a14 :: a15 :: a16 :: a17 :: a18 :: a19 :: a20 :: a21 :: a22 :: a23 :: a24 :: a25 :: a26 :: a27 :: a28 :: a29 :: a30 :: a31 :: [] := by
  obtain ⟨a0, t0, rfl, h0⟩ := ex1 h
  obtain ⟨a1, t1, rfl, h1⟩ := ex1 h0
  obtain ⟨a2, t2, rfl, h2⟩ := ex1 h1
  obtain ⟨a3, t3, rfl, h3⟩ := ex1 h2
  obtain ⟨a4, t4, rfl, h4⟩ := ex1 h3
  obtain ⟨a5, t5, rfl, h5⟩ := ex1 h4
  obtain ⟨a6, t6, rfl, h6⟩ := ex1 h5
  obtain ⟨a7, t7, rfl, h7⟩ := ex1 h6
  obtain ⟨a8, t8, rfl, h8⟩ := ex1 h7
  obtain ⟨a9, t9, rfl, h9⟩ := ex1 h8
  obtain ⟨a10, t10, rfl, h10⟩ := ex1 h9
  obtain ⟨a11, t11, rfl, h11⟩ := ex1 h10
  obtain ⟨a12, t12, rfl, h12⟩ := ex1 h11
  obtain ⟨a13, t13, rfl, h13⟩ := ex1 h12
  obtain ⟨a14, t14, rfl, h14⟩ := ex1 h13
  obtain ⟨a15, t15, rfl, h15⟩ := ex1 h14
  obtain ⟨a16, t16, rfl, h16⟩ := ex1 h15
  obtain ⟨a17, t17, rfl, h17⟩ := ex1 h16
  obtain ⟨a18, t18, rfl, h18⟩ := ex1 h17
  obtain ⟨a19, t19, rfl, h19⟩ := ex1 h18
  obtain ⟨a20, t20, rfl, h20⟩ := ex1 h19
  obtain ⟨a21, t21, rfl, h21⟩ := ex1 h20
  obtain ⟨a22, t22, rfl, h22⟩ := ex1 h21
  obtain ⟨a23, t23, rfl, h23⟩ := ex1 h22
  obtain ⟨a24, t24, rfl, h24⟩ := ex1 h23
  obtain ⟨a25, t25, rfl, h25⟩ := ex1 h24
  obtain ⟨a26, t26, rfl, h26⟩ := ex1 h25
  obtain ⟨a27, t27, rfl, h27⟩ := ex1 h26
  obtain ⟨a28, t28, rfl, h28⟩ := ex1 h27
  obtain ⟨a29, t29, rfl, h29⟩ := ex1 h28
  obtain ⟨a30, t30, rfl, h30⟩ := ex1 h29
  obtain ⟨a31, t31, rfl, h31⟩ := ex1 h30
  have := List.length_eq_zero_iff.mp h31
  subst this
  exact ⟨a0, a1, a2, a3, a4, a5, a6, a7, a8, a9, a10, a11, a12, a13, a14, a15, a16, a17, a18, a19, a20, a21, a22, a23, a24, a25, a26, a27, a28, a29, a30, a31, rfl⟩
/-- d the dice, dt the net's towers: all else in H stands upon B -/
structure Nw (K : PySem.W.Frag) (d dt : Addr) (TS : TSt) (B H : Hp) : Prop where
  nd : B d = none
  nt : B dt = none
  ne : d ≠ dt
  le : Le (T K) B H
  dice : ∃ x y z, H d = some (dV x y z)
  net : H dt = some (dT TS)
section
variable {d dt : Addr} {TS : TSt} {B H H' : Hp} {p : Addr} {o : HO}
theorem Nw.tab (h : Nw K d dt TS B H) : Tabs (T K) H := h.le.tab
theorem Nw.to (h : Nw K d dt TS B H) (l : Le (T K) H H') : Nw K d dt TS B H' := by
  obtain ⟨a, b, c, e, ⟨x, y, z, g⟩, n⟩ := h
  exact ⟨a, b, c, e.trans l, ⟨x, y, z, l.at g⟩, l.at n⟩
theorem Nw.new (h : Nw K d dt TS B H) (n : H p = none) : Nw K d dt TS B (upd H p o) := h.to ((Le.refl h.le.tab).new n)
theorem Nw.roll (h : Nw K d dt TS B H) (x y z : Int) : Nw K d dt TS B (upd H d (dV x y z)) := by
  obtain ⟨a, b, c, e, ⟨x', y', z', g⟩, n⟩ := h
  exact ⟨a, b, c, e.set a g, ⟨x, y, z, upd_same⟩, (upd_ne (Ne.symm c)).trans n⟩
theorem Nw.plain (h : Nw K d dt TS B H) : ∀ q ∈ [d, dt], ∀ u, H q = some u → PlainO u := fun q hq u hu => by
  obtain ⟨a, b, c, e, ⟨x, y, z, g⟩, n⟩ := h
  simp only [List.mem_cons, List.not_mem_nil, or_false] at hq
  rcases hq with rfl | rfl
  · rw [g] at hu; cases hu; trivial
  · rw [n] at hu; cases hu; trivial
/-- all that stands now, but the dice and the towers, as the ground -/
theorem Nw.rebase (h : Nw K d dt TS B H) : Nw K d dt TS (hid H [d, dt]) H ∧ Le (T K) B (hid H [d, dt]) :=
  ⟨⟨hid_no (by simp), hid_no (by simp), h.ne, hid_le h.tab, h.dice, h.net⟩, h.le.hid (fun q hq => by
    simp only [List.mem_cons, List.not_mem_nil, or_false] at hq
    rcases hq with rfl | rfl
    · exact h.nd
    · exact h.nt) h.plain⟩
theorem Nw.off (h : Nw K d dt TS B H) {a : Addr} {v : HO} (hv : H a = some v) (h1 : ∀ x y z, v ≠ dV x y z) (h2 : v ≠ dT TS) : a ∉ [d, dt] := fun hq => by
  obtain ⟨_, _, _, _, ⟨x, y, z, g⟩, n⟩ := h
  simp only [List.mem_cons, List.not_mem_nil, or_false] at hq
  rcases hq with rfl | rfl
  · rw [g] at hv; exact h1 x y z (Option.some.inj hv).symm
  · rw [n] at hv; exact h2 (Option.some.inj hv).symm
theorem Nw.off_new (h : Nw K d dt TS B H) {a : Addr} (hv : H a = none) : a ∉ [d, dt] := fun hq => by
  obtain ⟨_, _, _, _, ⟨x, y, z, g⟩, n⟩ := h
  simp only [List.mem_cons, List.not_mem_nil, or_false] at hq
  rcases hq with rfl | rfl
  · rw [g] at hv; cases hv
  · rw [n] at hv; cases hv
end
/-- the law's land, the program's, the net on it -/
structure Gd (K : PySem.W.Frag) (p0 d r n l dt : Addr) (rs : List (List Int)) (B : Hp) : Prop where
  grid : isGrid B r rs
  good : GoodL rs
  land : isLand K B l rs
  net : ∃ dx, B n = some (.ins (aNt K) dx (netF l dt))
  h7 : rs.length ≤ 7
  w7 : (rs.headD []).length ≤ 7
  w1 : 0 < (rs.headD []).length
  lp : B p0 = some (.lst [.ref d])
theorem Gd.to {p0 d r n l dt : Addr} {rs : List (List Int)} {B B' : Hp} (g : Gd K p0 d r n l dt rs B) (x : Le (T K) B B') : Gd K p0 d r n l dt rs B' := by
  obtain ⟨a, b, c, ⟨dx, e⟩, h, k, m, u⟩ := g
  exact ⟨Le.grid x a, b, Le.land x c, ⟨dx, x.at e⟩, h, k, m, x.at u⟩
def vals (TS : TSt) : List (Str × Tw) := TS.map fun p => (p.1, p.2.2)
/-- the law's own towers: the same as the net's -/
structure Ow (rs : List (List Int)) (TS OS : TSt) (o : Addr) (B : Hp) : Prop where
  at_ : B o = some (dT OS)
  tow : ∀ p ∈ OS, B p.2.1 = some (.tup (tupT p.2.2))
  net : ∀ p ∈ TS, B p.2.1 = some (.tup (tupT p.2.2))
  same : vals TS = vals OS
  good : GoodT rs OS
  l5 : OS.length ≤ 5
theorem Ow.to {T : List (Addr × Str)} {rs : List (List Int)} {TS OS : TSt} {o : Addr} {B B' : Hp} (h : Ow rs TS OS o B) (x : Le T B B') : Ow rs TS OS o B' := ⟨x.at h.at_, fun p hp => x.at (h.tow p hp), fun p hp => x.at (h.net p hp), h.same, h.good, h.l5⟩
def N0 (K : PySem.W.Frag) (p0 d r n l dt : Addr) (rs : List (List Int)) : L2.St → Hp → Prop := fun σ H => ∃ B, σ.length = 32 ∧ At σ 0 (.ref d) ∧ At σ 1 (.ref r) ∧ At σ 2 (.ref n) ∧ Nw K d dt [] B H ∧ Gd K p0 d r n l dt rs B
def N1 (K : PySem.W.Frag) (p0 d r n l dt : Addr) (rs : List (List Int)) : L2.St → Hp → Prop := fun σ H => ∃ B TS OS o, σ.length = 32 ∧ At σ 0 (.ref d) ∧ At σ 1 (.ref r) ∧ At σ 2 (.ref n) ∧ At σ 3 (.int (((rs.headD []).length : Nat) : Int)) ∧ At σ 4 (.int ((rs.length : Nat) : Int)) ∧ At σ 5 (.ref o) ∧ Nw K d dt TS B H ∧ Gd K p0 d r n l dt rs B ∧ Ow rs TS OS o B
variable {p0 d r n l dt : Addr} {rs : List (List Int)}
theorem ns0 (C : Ctx K mg base) (hr : Room 9 (XN P w K mg base f cd A outer s H0 E).A) : Step (XN P w K mg base f cd A outer s H0 E) (sn 0) (N0 K p0 d r n l dt rs) (N1 K p0 d r n l dt rs) := by
  have nn := sc_l_net.nd
  refine ⟨_, ps_asg (pe_tup (pa_cons (pe_callB call_len_seq (by rfl) C.t.b_len PySem.boot_len (pa_cons (pe_ix ix_list (pv 1) pe_int (fun _ _ => rfl)) pa_nil)) (pa_cons (pe_callB call_len_seq (by rfl) C.t.b_len PySem.boot_len (pa_cons (pv 1) pa_nil)) (pa_cons pe_dnewK pa_nil)))) (pg_tup rfl (pgs_cons (pg_name (i := 3) nn rfl (by first | exact Or.inl rfl | exact Or.inr rfl)) (pgs_cons (pg_name (i := 4) nn rfl (by first | exact Or.inl rfl | exact Or.inr rfl)) (pgs_cons (pg_name (i := 5) nn rfl (by first | exact Or.inl rfl | exact Or.inr rfl)) pgs_nil)))), fun D σ H hM hq => ?_⟩
  obtain ⟨B, hl, h0, h1, h2, L, G⟩ := hM
  obtain ⟨a0, a1, a2, a3, a4, a5, a6, a7, a8, a9, a10, a11, a12, a13, a14, a15, a16, a17, a18, a19, a20, a21, a22, a23, a24, a25, a26, a27, a28, a29, a30, a31, rfl⟩ := ex32 hl
  cases h0; cases h1; cases h2
  obtain ⟨Lr, hL, hLl, cell, u0, hu01, hu02⟩ := grid_cell G.good G.grid
  refine ⟨_, rfl, r, _, _, _, rfl, rfl, SqL.of (L.le.at hL), hu01, u0, _, rfl, .inl (SqL.of (L.le.at hu02)), _, rfl, r, _, rfl, .inl (SqL.of (L.le.at hL)), fun o ho => ?_⟩
  have L1 := L.new (o := .dK []) ho
  have ho1 : upd H o (.dK []) o = some (dT []) := upd_same
  have hod := L.off_new ho
  generalize upd H o (.dK []) = H1 at L1 ho1 ⊢
  refine ⟨by show 3 ≤ sizeLine; decide, fun t ht => ?_⟩
  have L2 := L1.new (o := .tup [.int (((rs.headD []).map V.int).length : Nat), .int ((Lr.map fun x => V.ref x.1).length : Nat), .ref o]) ht
  have ho2 := (upd_ne (o := .tup [.int (((rs.headD []).map V.int).length : Nat), .int ((Lr.map fun x => V.ref x.1).length : Nat), .ref o]) (ne_of_none ho1 ht)).trans ho1
  refine ⟨t, _, rfl, SqT.of upd_same, rfl, _, _, rfl, _, _, rfl, _, _, rfl, rfl, ?_⟩
  obtain ⟨L3, L4⟩ := L2.rebase
  refine hq _ _ ⟨_, [], [], o, rfl, rfl, rfl, rfl, ?_, ?_, rfl, L3, G.to L4, ⟨hid_at ho2 hod, (fun p hp => by cases hp), (fun p hp => by cases hp), rfl, ⟨List.nodup_nil, Nat.zero_le _, (fun p hp => by cases hp), (fun p hp => by cases hp)⟩, Nat.zero_le _⟩⟩
  · show some (some _) = _
    rw [List.length_map]
  · show some (some _) = _
    rw [List.length_map, hLl]
end
end K2

-- text K2Q
set_option maxRecDepth 100000
set_option maxHeartbeats 4000000
namespace K2
open PySem PySem.Spec PyProof.Rows L2 LamX GX
section
variable {P : Program} {w : World} {K : PySem.W.Frag} {mg : Str → Option Value} {base : Heap}
variable {f : Addr} {cd : Value} {A : Around} {outer : List Env} {s : Shared} {H0 : Hp} {E : XK}
/-! ### _law_net: towers are built -/
def forB : Stmt → List Stmt
  | .For _ _ b _ _ => b
  | _ => []
def fb (i j : Nat) : Stmt := ((forB (sn i))[j]?).getD (.Pass default)
theorem fb1_len : (forB (sn 1)).length = 4 := by decide +kernel
def tn (k : Nat) : Str := S [116, 48 + k]
theorem tn_str : ∀ k, k < 7 → (Str.ofString (toString ((k : Nat) : Int)) : Str) = S [48 + k] := by decide +kernel
theorem tn_ok : ∀ k, k < 7 → (PyData.str (tn k)).canLay0 = true := by decide +kernel
theorem tn_ne : ∀ k, k < 7 → tn k ≠ "" := by decide +kernel
theorem S_app (a b : List Nat) : S a ++ S b = S (a ++ b) := by
  apply str_ext
  show (a.toArray ++ b.toArray).toList = (a ++ b).toArray.toList
  simp
def N1a (K : PySem.W.Frag) (p0 d r n l dt : Addr) (rs : List (List Int)) : L2.St → Hp → Prop := fun σ H => ∃ B TS OS o, ∃ k x y h : Nat, σ.length = 32 ∧ At σ 0 (.ref d) ∧ At σ 1 (.ref r) ∧ At σ 2 (.ref n) ∧ At σ 3 (.int (((rs.headD []).length : Nat) : Int)) ∧ At σ 4 (.int ((rs.length : Nat) : Int)) ∧ At σ 5 (.ref o) ∧
  At σ 7 (.str (tn k)) ∧ At σ 8 (.int (x : Int)) ∧ At σ 9 (.int (y : Int)) ∧ At σ 10 (.int (h : Int)) ∧ k < 7 ∧ x ≤ (rs.headD []).length ∧ y < rs.length ∧ h < 12 ∧ Nw K d dt TS B H ∧ Gd K p0 d r n l dt rs B ∧ Ow rs TS OS o B
variable {p0 d r n l dt : Addr} {rs : List (List Int)}
theorem bs0 (C : Ctx K mg base) (hr : Room 9 (XN P w K mg base f cd A outer s H0 E).A) : Step (XN P w K mg base f cd A outer s H0 E) (fb 1 0) (N1 K p0 d r n l dt rs) (N1a K p0 d r n l dt rs) := by
  have nn := sc_l_net.nd
  refine ⟨_, ps_asg (pe_tup (pa_cons (pe_op op_add_str pe_str (pe_callTy call_str_int (by rfl) C.t.b_str (by decide +kernel) (pa_cons (pe_cx (ok_roll (P := P) (w := w) C) hr (by decide) rfl passA (pa_cons (pv 0) (pa_cons pe_int pa_nil))) pa_nil)))
      (pa_cons (pe_cx (ok_roll (P := P) (w := w) C) hr (by decide) rfl passA (pa_cons (pv 0) (pa_cons (pe_op op_add (pv 3) pe_int) pa_nil)))
      (pa_cons (pe_cx (ok_roll (P := P) (w := w) C) hr (by decide) rfl passA (pa_cons (pv 0) (pa_cons (pv 4) pa_nil)))
      (pa_cons (pe_cx (ok_roll (P := P) (w := w) C) hr (by decide) rfl passA (pa_cons (pv 0) (pa_cons pe_int pa_nil))) pa_nil)))))
    (pg_tup rfl (pgs_cons (pg_name (i := 7) nn rfl (by first | exact Or.inl rfl | exact Or.inr rfl)) (pgs_cons (pg_name (i := 8) nn rfl (by first | exact Or.inl rfl | exact Or.inr rfl)) (pgs_cons (pg_name (i := 9) nn rfl (by first | exact Or.inl rfl | exact Or.inr rfl)) (pgs_cons (pg_name (i := 10) nn rfl (by first | exact Or.inl rfl | exact Or.inr rfl)) pgs_nil))))), fun D σ H hM hq => ?_⟩
  obtain ⟨B, TS, OS, o, hl, h0, h1, h2, h3, h4, h5, L, G, O⟩ := hM
  obtain ⟨a0, a1, a2, a3, a4, a5, a6, a7, a8, a9, a10, a11, a12, a13, a14, a15, a16, a17, a18, a19, a20, a21, a22, a23, a24, a25, a26, a27, a28, a29, a30, a31, rfl⟩ := ex32 hl
  cases h0; cases h1; cases h2; cases h3; cases h4; cases h5
  have g7 := G.h7
  have w7 := G.w7
  have g1 := G.good.h1
  obtain ⟨qx, qy, qz, qd⟩ := L.dice
  refine ⟨_, rfl, d, qx, qy, qz, _, rfl, qd, by omega, by omega, fun qx qy qz qr q0 q1 => ?_⟩
  obtain ⟨k, hk, rfl⟩ : ∃ k : Nat, k < 7 ∧ qr = (k : Int) := ⟨qr.toNat, by omega, by omega⟩
  have L1 := L.roll qx qy qz
  generalize upd H d (dV qx qy qz) = H1 at L1 ⊢
  clear q0 q1 qd
  have hlog : ((k : Nat) : Int).natAbs.log2 < 1920 := by
    have : k = 0 ∨ k = 1 ∨ k = 2 ∨ k = 3 ∨ k = 4 ∨ k = 5 ∨ k = 6 := by omega
    rcases this with rfl | rfl | rfl | rfl | rfl | rfl | rfl <;> decide
  have es : ("t" : Str) = S [116] := by decide +kernel
  refine ⟨_, rfl, hlog, _, _, rfl, rfl, ?_, ?_⟩
  · rw [tn_str k hk, es, S_len, S_len]
    exact Nat.le_trans (Nat.le_refl 2) (by decide)
  rw [tn_str k hk, es, S_app]
  obtain ⟨qx, qy, qz, qd⟩ := L1.dice
  refine ⟨_, rfl, _, rfl, _, _, rfl, rfl, d, qx, qy, qz, _, rfl, qd, by omega, by omega, fun qx qy qz qr q0 q1 => ?_⟩
  obtain ⟨x, hx, rfl⟩ : ∃ k : Nat, k < (rs.headD []).length + 1 ∧ qr = (k : Int) := ⟨qr.toNat, by omega, by omega⟩
  have L2 := L1.roll qx qy qz
  generalize upd H1 d (dV qx qy qz) = H2 at L2 ⊢
  clear q0 q1 qd
  obtain ⟨qx, qy, qz, qd⟩ := L2.dice
  refine ⟨_, rfl, _, rfl, d, qx, qy, qz, _, rfl, qd, by omega, by omega, fun qx qy qz qr q0 q1 => ?_⟩
  obtain ⟨y, hy, rfl⟩ : ∃ k : Nat, k < rs.length ∧ qr = (k : Int) := ⟨qr.toNat, by omega, by omega⟩
  have L3 := L2.roll qx qy qz
  generalize upd H2 d (dV qx qy qz) = H3 at L3 ⊢
  clear q0 q1 qd
  obtain ⟨qx, qy, qz, qd⟩ := L3.dice
  refine ⟨_, rfl, d, qx, qy, qz, _, rfl, qd, by omega, by omega, fun qx qy qz qr q0 q1 => ?_⟩
  obtain ⟨h, hh, rfl⟩ : ∃ k : Nat, k < 12 ∧ qr = (k : Int) := ⟨qr.toNat, by omega, by omega⟩
  have L4 := L3.roll qx qy qz
  generalize upd H3 d (dV qx qy qz) = H4 at L4 ⊢
  clear q0 q1 qd
  refine ⟨by show 4 ≤ sizeLine; decide, fun t ht => ?_⟩
  have L5 := L4.new (o := .tup [.str (tn k), .int (x : Int), .int (y : Int), .int (h : Int)]) ht
  refine ⟨t, _, rfl, SqT.of upd_same, rfl, _, _, rfl, _, _, rfl, _, _, rfl, _, _, rfl, rfl, ?_⟩
  exact hq _ _ ⟨B, TS, OS, o, k, x, y, h, rfl, rfl, rfl, rfl, rfl, rfl, rfl, rfl, rfl, rfl, rfl, hk, by omega, hy, hh, L5, G, O⟩
end
end K2

-- text K2R
set_option maxRecDepth 100000
set_option maxHeartbeats 4000000
namespace K2
open PySem PySem.Spec PyProof.Rows L2 LamX GX
section
variable {P : Program} {w : World} {K : PySem.W.Frag} {mg : Str → Option Value} {base : Heap}
variable {f : Addr} {cd : Value} {A : Around} {outer : List Env} {s : Shared} {H0 : Hp} {E : XK}
/-! ### whether a tower may be built -/
def ptD (p : Pt) : PyData := .tuple [.int p.1, .int p.2]
theorem dp_pts {H : Hp} : ∀ {L : List (Addr × Pt)}, isPts H L → DpAll K H (refsOf L) (L.map fun x => ptD x.2)
  | [], _ => .nil
  | x :: r, h => .cons (.tup (SqT.of (h x List.mem_cons_self)) (.cons (.int _) (.cons (.int _) .nil))) (dp_pts fun y hy => h y (List.mem_cons_of_mem _ hy))
theorem lay_pt (p : Pt) : (ptD p).canLay0 = true ∧ (ptD p).depth ≤ 1 := by
  have := lay_tuple (ds := [.int p.1, .int p.2]) (n := 0) fun d hd => by
    simp only [List.mem_cons, List.not_mem_nil, or_false] at hd
    rcases hd with rfl | rfl <;> exact ⟨rfl, Nat.le_refl _⟩
  exact this
theorem shaped_pt (p : Pt) : SeqAt.shaped (ptD p) = true := shaped_of (lay_pt p) (by decide)
theorem shaped_pts (L : List (Addr × Pt)) : SeqAt.shaped (.list (L.map fun x => ptD x.2)) = true := shaped_rows fun d hd => by
  obtain ⟨x, _, rfl⟩ := List.mem_map.mp hd
  exact lay_pt x.2
theorem any_pts (q : Pt) : ∀ L : List (Addr × Pt), ((L.map fun x => ptD x.2).any fun z => PyData.eqv z (ptD q)) = ((L.map (·.2)).any fun p => decide (p.1 = q.1 ∧ p.2 = q.2))
  | [] => rfl
  | x :: r => by
    rw [List.map_cons, List.map_cons, List.any_cons, List.any_cons, any_pts q r]
    show (PyData.eqv (.tuple [.int x.2.1, .int x.2.2]) (.tuple [.int q.1, .int q.2]) || _) = _
    rw [eqv_pt]
def ptOf (a : Tw) : Pt := (a.1, a.2.1)
def takenB (OS : TSt) (q : Pt) : Bool := (OS.map fun p => ptOf p.2.2).any fun p => decide (p.1 = q.1 ∧ p.2 = q.2)
def goodB (rs : List (List Int)) (OS : TSt) (nm : Str) (x y : Nat) : Bool := decide (x < (rs.headD []).length) && (decide (nm ∉ OS.map (·.1)) && (!takenB OS ((x : Int), (y : Int)) && decide (OS.length < 5)))
def N1b (K : PySem.W.Frag) (p0 d r n l dt : Addr) (rs : List (List Int)) : L2.St → Hp → Prop := fun σ H => ∃ B TS OS o, ∃ k x y h : Nat, σ.length = 32 ∧ At σ 0 (.ref d) ∧ At σ 1 (.ref r) ∧ At σ 2 (.ref n) ∧ At σ 3 (.int (((rs.headD []).length : Nat) : Int)) ∧ At σ 4 (.int ((rs.length : Nat) : Int)) ∧ At σ 5 (.ref o) ∧
  At σ 7 (.str (tn k)) ∧ At σ 8 (.int (x : Int)) ∧ At σ 9 (.int (y : Int)) ∧ At σ 10 (.int (h : Int)) ∧ At σ 11 (.bl (goodB rs OS (tn k) x y)) ∧ k < 7 ∧ x ≤ (rs.headD []).length ∧ y < rs.length ∧ h < 12 ∧ Nw K d dt TS B H ∧ Gd K p0 d r n l dt rs B ∧ Ow rs TS OS o B
variable {p0 d r n l dt : Addr} {rs : List (List Int)}
theorem bs1 (C : Ctx K mg base) (hr : Room 9 (XN P w K mg base f cd A outer s H0 E).A) : Step (XN P w K mg base f cd A outer s H0 E) (fb 1 1) (N1a K p0 d r n l dt rs) (N1b K p0 d r n l dt rs) := by
  have nn := sc_l_net.nd
  refine ⟨_, ps_set (i := 11) nn rfl (by first | exact Or.inl rfl | exact Or.inr rfl) (pe_and (pe_cmpR op_lt (pv 8) (pv 3) (nomark _)) (pe_and (pe_cmp (pc_dnotin (hu_of hr) (pv 7) (pv 5)) rfl)
    (pe_and (pe_cmpR (r := rNotInD K) (op_notInD (hu65 hr)) (pe_tup (pa_cons (pv 8) (pa_cons (pv 9) pa_nil))) (pe_lock (pe_lc (own := [("one", 15)]) (g := gName 15) rfl nn (pi_keys (pv 5)) (blkOk_by (N := n_l_net) (sc := defScope s_l_net) (by decide +kernel)) (fun _ _ _ _ _ => (pg_name (i := 15) nn rfl (by first | exact Or.inl rfl | exact Or.inr rfl))) (fun _ _ _ _ _ => pts_nil)
        (fun _ _ _ _ _ => by exact pe_slice (r := rSlT K) sl_tup (pe_dget (hu_of hr) (pv 5) (pv 15) (fun _ _ => rfl)) po_none (po_some pe_int)))) rfl)
      (pe_one (pe_cmpR op_lt (pe_callB call_lenD (by rfl) C.t.b_len PySem.boot_len (pa_cons (pv 5) pa_nil)) pe_int (nomark _)))))), fun D σ H hM hq => ?_⟩
  obtain ⟨B, TS, OS, o, k, x, y, h, hl, h0, h1, h2, h3, h4, h5, h7, h8, h9, h10, hk, hx, hy, hh, L, G, O⟩ := hM
  obtain ⟨a0, a1, a2, a3, a4, a5, a6, a7, a8, a9, a10, a11, a12, a13, a14, a15, a16, a17, a18, a19, a20, a21, a22, a23, a24, a25, a26, a27, a28, a29, a30, a31, rfl⟩ := ex32 hl
  cases h0; cases h1; cases h2; cases h3; cases h4; cases h5; cases h7; cases h8; cases h9; cases h10
  have hoH := L.le.at O.at_
  have l5 := O.l5
  refine ⟨_, rfl, _, rfl, _, _, rfl, rfl, _, rfl, ?_⟩
  by_cases cx : x < (rs.headD []).length
  case neg =>
    rw [decide_eq_false (show ¬ ((x : Nat) : Int) < (((rs.headD []).length : Nat) : Int) by omega)]
    refine iteF (hq _ _ ⟨B, TS, OS, o, k, x, y, h, rfl, rfl, rfl, rfl, rfl, rfl, rfl, rfl, rfl, rfl, rfl, ?_, hk, hx, hy, hh, L, G, O⟩)
    unfold goodB
    rw [decide_eq_false cx]
    rfl
  rw [decide_eq_true (show ((x : Nat) : Int) < (((rs.headD []).length : Nat) : Int) by omega)]
  refine iteT ⟨_, rfl, _, rfl, o, _, rfl, DGet.k (k := Sum.inr (tn k)) hoH, _, rfl, ?_⟩
  rw [valV_ents]
  by_cases cn : tn k ∈ OS.map (·.1)
  · obtain ⟨v, hv, _⟩ := look_mem cn
    rw [hv]
    refine iteF (hq _ _ ⟨B, TS, OS, o, k, x, y, h, rfl, rfl, rfl, rfl, rfl, rfl, rfl, rfl, rfl, rfl, rfl, ?_, hk, hx, hy, hh, L, G, O⟩)
    unfold goodB
    rw [decide_eq_false (show ¬ (tn k ∉ OS.map (·.1)) from fun z => z cn), Bool.false_and, Bool.and_false]
    rfl
  rw [look_none cn]
  refine iteT ⟨_, rfl, _, rfl, by show 2 ≤ sizeLine; decide, fun q hqn => ?_⟩
  have L1 := L.new (o := .tup [.int (x : Int), .int (y : Int)]) hqn
  have hq1 : upd H q (.tup [.int (x : Int), .int (y : Int)]) q = some (.tup [.int (x : Int), .int (y : Int)]) := upd_same
  have ho1 := L1.le.at O.at_
  generalize upd H q (.tup [.int (x : Int), .int (y : Int)]) = H1 at L1 hq1 ho1 ⊢
  refine ⟨o, _, ho1, trivial, fun od => ?_⟩
  have TL := tabs_lock (o := od) L1.tab ho1 trivial
  have hqo : q ≠ o := fun z => by rw [z, ho1] at hq1; cases hq1
  have hqL : upd H1 o (.frz od (dT OS)) q = some (.tup [.int (x : Int), .int (y : Int)]) := at_lock hq1 hqo
  refine ⟨_, rfl, o, od, rfl, .inl ⟨_, upd_same, fun D1 hD => ?_⟩⟩
  refine lc_n OS.length (fun i H' => Le (T K) (upd H1 o (.frz od (dT OS))) H' ∧ ∃ A : List (Addr × Pt), A.map (·.2) = (OS.take i).map (fun p => ptOf p.2.2) ∧ H' D1 = some (.lst (refsOf A)) ∧ isPts H' A) ⟨(Le.refl TL).new hD, [], rfl, upd_same, (fun p hp => by cases hp)⟩
    (fun i H2 hi ⟨L2, A, e1, e2, e3⟩ => ⟨⟨L2.at upd_same, by rw [ents_len]; exact hi⟩, ?_⟩) (fun H2 ⟨L2, A, e1, e2, e3⟩ => ⟨⟨L2.at upd_same, by rw [ents_len]; exact Nat.le_refl _⟩, L2.at upd_same, ?_⟩)
  · rintro v H3 ⟨rfl, kk, v2, hkk, rfl⟩
    unfold ents at hkk
    rw [List.getElem?_map] at hkk
    obtain ⟨p1, hp1, e⟩ := Option.map_eq_some_iff.mp hkk
    cases e
    have hm := List.mem_of_getElem? hp1
    have htB := L1.le.at (O.tow p1 hm)
    have htu : H3 p1.2.1 = some (.tup (tupT p1.2.2)) := L2.at (at_lock htB fun z => by rw [z, ho1] at htB; cases htB)
    refine ⟨rfl, ?_⟩
    refine yes_ (iteT ⟨_, rfl, _, rfl, o, _, rfl, dget_rd (.inr ⟨od, L2.at upd_same⟩) (look_of O.good.nd hm), _, rfl, p1.2.1, _, rfl, SqT.of htu, (fun z => absurd z.2 (by show ¬ (2 : Nat) = 3; decide)), fun t ht => ?_⟩)
    have ecut : cutV (tupT p1.2.2) none (some 2) = [V.int (ptOf p1.2.2).1, V.int (ptOf p1.2.2).2] := rfl
    rw [ecut]
    have e4 := (upd_ne (o := .tup [V.int (ptOf p1.2.2).1, V.int (ptOf p1.2.2).2]) (ne_of_none e2 ht)).trans e2
    refine ⟨_, e4, ?_, (L2.new ht).set hD e4, A ++ [(t, ptOf p1.2.2)], ?_, ?_, fun z hz => ?_⟩
    · have := congrArg List.length e1
      rw [List.length_map, List.length_map, List.length_take] at this
      unfold refsOf
      rw [List.length_map]
      exact Nat.lt_of_le_of_lt (show A.length ≤ 5 by omega) (by decide)
    · rw [List.map_append, e1, GX.take_snoc hp1, List.map_append]
      rfl
    · rw [upd_same]
      unfold refsOf
      rw [List.map_append]
      rfl
    · rcases List.mem_append.mp hz with hz | hz
      · have h7 := e3 z hz
        have h8 := (upd_ne (o := .tup [V.int (ptOf p1.2.2).1, V.int (ptOf p1.2.2).2]) (ne_of_none h7 ht)).trans h7
        exact (upd_ne (fun z => by rw [z, e4] at h8; cases h8)).trans h8
      · rw [List.mem_singleton.mp hz]
        exact (upd_ne (ne_of_none e2 ht).symm).trans upd_same
  · rw [List.take_of_length_le (Nat.le_refl _)] at e1
    have L3 := L1.to (Le.unlock ho1 trivial L2)
    have hD3 : D1 ≠ o := fun z => by rw [z, upd_same] at hD; cases hD
    have hq3 : upd H2 o (dT OS) q = some (.tup [.int (x : Int), .int (y : Int)]) := (upd_ne hqo).trans (L2.at hqL)
    have e4 : upd H2 o (dT OS) D1 = some (.lst (refsOf A)) := (upd_ne hD3).trans e2
    have e5 : isPts (upd H2 o (dT OS)) A := fun z hz => (upd_ne (fun e => by
      have := e3 z hz
      rw [e, L2.at upd_same] at this
      cases this)).trans (e3 z hz)
    have ho3 : upd H2 o (dT OS) o = some (dT OS) := upd_same
    generalize upd H2 o (dT OS) = H4 at L3 hq3 e4 e5 ho3 ⊢
    refine ⟨ptD ((x : Int), (y : Int)), A.map fun x => ptD x.2, .tup (SqT.of hq3) (.cons (.int _) (.cons (.int _) .nil)), .lst (SqL.of e4) (dp_pts e5), shaped_pt _, shaped_pts A, _, rfl, ?_⟩
    rw [any_pts, e1]
    show (if (!takenB OS ((x : Int), (y : Int))) = true then _ else _)
    cases ct : takenB OS ((x : Int), (y : Int)) with
    | true =>
      refine iteF (hq _ _ ⟨B, TS, OS, o, k, x, y, h, rfl, rfl, rfl, rfl, rfl, rfl, rfl, rfl, rfl, rfl, rfl, ?_, hk, hx, hy, hh, L3, G, O⟩)
      unfold goodB
      rw [ct, Bool.not_true, Bool.false_and, Bool.and_false, Bool.and_false]
      rfl
    | false =>
      refine iteT ⟨_, rfl, o, _, rfl, ho3, _, _, rfl, rfl, hq _ _ ⟨B, TS, OS, o, k, x, y, h, rfl, rfl, rfl, rfl, rfl, rfl, rfl, rfl, rfl, rfl, rfl, ?_, hk, hx, hy, hh, L3, G, O⟩⟩
      unfold goodB
      rw [ct, decide_eq_true cx, decide_eq_true cn, ents_len, Bool.not_false, Bool.true_and, Bool.true_and, Bool.true_and]
      show some (some (V.bl (decide (((OS.length : Nat) : Int) < 5)))) = _
      exact congrArg (fun b => some (some (V.bl b))) (decide_eq_decide.mpr (by omega))
end
end K2

-- text LamY
set_option maxRecDepth 100000
set_option maxHeartbeats 4000000
/-! LamY: told(lambda: ..), its words as they stand. -/
namespace GX
open PySem PySem.Spec PyProof.Rows L2 LamX
section
variable {X : Cx}
theorem pe_told2 {T : List (Addr × Str)} {TT : (XK → Hp → VK → Prop) → Hp → VK → Prop} {x a : Str} {g c P : Addr} {k : Nat} {pg : Arguments} {bg : List Stmt} {sg : Scope} {dV kV doc pm cdv ct oc : Value} {an od : Option Addr} {osl : Array (Option Value)} {Ng : List Str} {p lpos pos : Pos}
    {params : Arguments} {body : Expr} {scope : Scope} {t : XK → TE} (hg : Gl X x) (hm : X.mg x = some (.ref g)) (hk : PySem.W.keepIn X.K (.ref g) = true)
    (lk : X.K.lookup g = some ⟨oc, od, .func (PySem.W.fnOf x x pg bg sg dV kV doc pm an cdv ct), osl⟩) (hcg : PySem.W.codeIn X.K cdv x = true) (hb : L2.Binds X.K (PySem.W.fnOf x x pg bg sg dV kV doc pm an cdv ct) [a] []) (Sg : FnScope Ng [a] sg) (hNg : Ng[0]? = some a) (hva : Vis sg a)
    (hG : GivesTo X Ng x sg g cdv bg a (X.env.qual ++ "<lambda>") TT)
    (TB : TabB X.base X.mg c P) (hcode : X.env.code = .ref c) (hmT : (P, X.env.qual ++ "<lambda>") ∈ T) (hu : ∀ p ∈ T, p.1 = P → p.2 = X.env.qual ++ "<lambda>") (hr : Room (k + 2) X.A) (L : LamS X.env.scope scope) (hdef : defaultsOf params X.env = ([], []))
    (hbind : ∀ (q : Str) (cl : List (Str × Addr)) (pm cv ctv : Value), bindArgs (PySem.W.kla_fn "<lambda>" q params body scope cl pm cv ctv) ⟨[], []⟩ = pure [])
    (hbody : ∀ (A : Around) (outer : List Env) (s : Shared) (H : Hp) (E : XK) (f c' : Addr), Room k (A.deeper (lamEnv X scope s.heap.objs.size f c')) → PE (lamCx X A outer s H E scope f c') body (t E))
    (hdb : (x == ("__debug__" : Str)) = false := by decide) (hd : (a == ("__debug__" : Str)) = false := by decide) (hcd : (a == ("__classdict__" : Str)) = false := by decide) :
    PE X (.Call (.Name x p) [.Lambda params body scope lpos] [] pos) (tToldL X T ⟨params, body, scope, t⟩ TT) :=
  pe_toldL ⟨params, body, scope, t⟩ ⟨L, hbind, hbody⟩ TB hcode hmT hu hdef hg hm hk lk hcg hb Sg hNg hva hG hr hdb hd hcd
theorem takesL {X : Cx} {A : Around} {outer : List Env} {s : Shared} {H : Hp} {E : XK} {scope : Scope} {f c' : Addr} : L2.Takes (lamCx X A outer s H E scope f c') (fun cls d _ H => E cls d H) := takes_of rfl rfl rfl rfl
theorem passLm {X : Cx} {A : Around} {outer : List Env} {s : Shared} {H : Hp} {E : XK} {scope : Scope} {f c' : Addr} : Passes (L2.CX X.prog X.w) (lamCx X A outer s H E scope f c') E := passes_call takesL fun _ _ _ _ h => h
end
end GX

-- text K2S
set_option maxRecDepth 100000
set_option maxHeartbeats 4000000
namespace K2
open PySem PySem.Spec PyProof.Rows L2 LamX GX
section
variable {P : Program} {w : World} {K : PySem.W.Frag} {mg : Str → Option Value} {base : Heap}
variable {f : Addr} {cd : Value} {A : Around} {outer : List Env} {s : Shared} {H0 : Hp} {E : XK}
/-! ### the net's tower is built -/
structure Oc (rs : List (List Int)) (TS OS : TSt) (o : Addr) (B : Hp) (nm : Str) (x y h : Nat) : Prop where
  at_ : B o = some (dT OS)
  tow : ∀ p ∈ OS, B p.2.1 = some (.tup (tupT p.2.2))
  net : ∀ p ∈ TS, B p.2.1 = some (.tup (tupT p.2.2))
  same : vals TS = vals OS ++ (if goodB rs OS nm x y = true then [(nm, ((x : Int), (y : Int), (h : Int)))] else [])
  good : GoodT rs OS
  l5 : OS.length ≤ 5
def N1c (K : PySem.W.Frag) (p0 d r n l dt : Addr) (rs : List (List Int)) : L2.St → Hp → Prop := fun σ H => ∃ B TS OS o, ∃ k x y h : Nat, σ.length = 32 ∧ At σ 0 (.ref d) ∧ At σ 1 (.ref r) ∧ At σ 2 (.ref n) ∧ At σ 3 (.int (((rs.headD []).length : Nat) : Int)) ∧ At σ 4 (.int ((rs.length : Nat) : Int)) ∧ At σ 5 (.ref o) ∧
  At σ 7 (.str (tn k)) ∧ At σ 8 (.int (x : Int)) ∧ At σ 9 (.int (y : Int)) ∧ At σ 10 (.int (h : Int)) ∧ At σ 11 (.bl (goodB rs OS (tn k) x y)) ∧ k < 7 ∧ x ≤ (rs.headD []).length ∧ y < rs.length ∧ h < 12 ∧ Nw K d dt TS B H ∧ Gd K p0 d r n l dt rs B ∧ Oc rs TS OS o B (tn k) x y h
theorem vals_names {TS OS : TSt} (h : vals TS = vals OS) : TS.map (·.1) = OS.map (·.1) := by
  have := congrArg (fun L => L.map (·.1)) h
  unfold vals at this
  rwa [List.map_map, List.map_map] at this
theorem vals_pts {TS OS : TSt} (h : vals TS = vals OS) : (TS.map fun p => ptOf p.2.2) = OS.map fun p => ptOf p.2.2 := by
  have := congrArg (fun L => L.map (fun p : Str × Tw => ptOf p.2)) h
  unfold vals at this
  rwa [List.map_map, List.map_map] at this
theorem no_iff {rs : List (List Int)} {TS OS : TSt} {k x y h : Nat} (hs : vals TS = vals OS) (hk : k < 7) (hx : x ≤ (rs.headD []).length) (hy : y < rs.length) (hh : h < 12) (l5 : OS.length < 5) :
    noBuild rs TS (tn k) (x : Int) (y : Int) (h : Int) ↔ goodB rs OS (tn k) x y = false := by
  have e1 := vals_names hs
  have e2 := vals_pts hs
  have e3 : TS.length = OS.length := by have := congrArg List.length e1; rwa [List.length_map, List.length_map] at this
  have ht : takenB OS ((x : Int), (y : Int)) = true ↔ ∃ p ∈ TS, p.2.2.1 = (x : Int) ∧ p.2.2.2.1 = (y : Int) := by
    unfold takenB
    rw [← e2, List.any_eq_true]
    constructor
    · rintro ⟨q, hq, hd⟩
      obtain ⟨p, hp, rfl⟩ := List.mem_map.mp hq
      exact ⟨p, hp, of_decide_eq_true hd⟩
    · rintro ⟨p, hp, hd⟩
      exact ⟨_, List.mem_map.mpr ⟨p, hp, rfl⟩, decide_eq_true hd⟩
  constructor
  · intro hn
    cases hg : goodB rs OS (tn k) x y with
    | false => rfl
    | true =>
      exfalso
      unfold goodB at hg
      simp only [Bool.and_eq_true, decide_eq_true_eq, Bool.not_eq_true'] at hg
      obtain ⟨g1, g2, g3, g4⟩ := hg
      rcases hn with z | z | z | z | z | z
      · exact z ⟨⟨by omega, by omega⟩, by omega, by omega⟩
      · rw [e1] at z; exact g2 z
      · exact tn_ne k hk z
      · exact z ⟨by omega, by omega⟩
      · omega
      · rw [ht.mpr z] at g3; cases g3
  · intro hg
    by_cases c1 : x < (rs.headD []).length
    case neg => exact .inl fun z => c1 (by have := z.2.2; omega)
    by_cases c2 : tn k ∈ OS.map (·.1)
    · rw [← e1] at c2; exact .inr (.inl c2)
    cases c3 : takenB OS ((x : Int), (y : Int)) with
    | true => exact .inr (.inr (.inr (.inr (.inr (ht.mp c3)))))
    | false =>
      exfalso
      unfold goodB at hg
      rw [decide_eq_true c1, decide_eq_true c2, c3, decide_eq_true l5] at hg
      cases hg
variable {p0 d r n l dt : Addr} {rs : List (List Int)}
theorem bs2 (C : Ctx K mg base) (hr : Room 9 (XN P w K mg base f (cdN K) A outer s H0 E).A) : Step (XN P w K mg base f (cdN K) A outer s H0 E) (fb 1 2) (N1b K p0 d r n l dt rs) (N1c K p0 d r n l dt rs) := by
  have nn := sc_l_net.nd
  obtain ⟨fB, fdB, FB, bB, mB, cB⟩ := ok_build (P := P) (w := w) C
  obtain ⟨gd, G⟩ := C.d.d_l_told
  have gb := G.funD.bindsN (ps := ["what"]) fun _ _ _ _ _ _ us hl => (match us, hl with | [_], _ => rfl)
  have gkp := G.kp
  obtain ⟨oc, od, dfv, kV, doc, pm, an, ct, osl, ge, glk, ghcd, ghd, ghk⟩ := G.ex
  subst ge
  refine ⟨_, ps_if (PW.pt (pw_and (pt_cmpR op_lt (pe_callB call_lenD (by rfl) C.t.b_len PySem.boot_len (pa_cons (pv 5) pa_nil)) pe_int (nomark _)) (pw_and1 (pt_cmpR op_eq (pe_cmpR op_eq
      (pe_told2 (T := T K) (k := 6) (by rfl) C.t.m_l_told gkp glk ghcd gb sc_l_told rfl (.inl rfl) (told_gives (by rfl) C.t.m_TowerError (by decide) fun _ => rfl) (C.b _ (tf_mem 4)) rfl (T_mem 4) (T_uniq C.u 4) (hr.mono (by decide)) (lamS_by (sc := defScope s_l_net) (by rfl)) rfl (fun _ _ _ _ _ => rfl)
        (fun A2 outer2 s2 H2 E2 f2 c2 hr2 => pe_meth (pv 2) cB mB FB (hr2.mono (by decide)) bB .nil passLm (pa_cons (pv 7) (pa_cons (pv 8) (pa_cons (pv 9) (pa_cons (pv 10) pa_nil)))))) pe_str (nomark _)) (pv 11) (nomark _)))))
    (pss_one (ps_ret pe_bl)) pss_nil, fun D σ H hM hq => ?_⟩
  obtain ⟨B, TS, OS, o, k, x, y, h, hl, h0, h1, h2, h3, h4, h5, h7, h8, h9, h10, h11, hk, hx, hy, hh, L, G, O⟩ := hM
  have hoH := L.le.at O.at_
  have l5 := O.l5
  refine ⟨_, h5, o, _, rfl, hoH, _, _, rfl, rfl, _, rfl, ?_⟩
  rw [ents_len]
  by_cases c5 : OS.length < 5
  case neg =>
    rw [decide_eq_false (show ¬ ((OS.length : Nat) : Int) < 5 by omega)]
    refine iteF (iteF (hq _ _ ⟨B, TS, OS, o, k, x, y, h, hl, h0, h1, h2, h3, h4, h5, h7, h8, h9, h10, h11, hk, hx, hy, hh, L, G, O.at_, O.tow, O.net, ?_, O.good, O.l5⟩))
    have e : goodB rs OS (tn k) x y = false := by
      unfold goodB
      rw [decide_eq_false c5]
      simp
    rw [e, if_neg (by decide), List.append_nil]
    exact O.same
  rw [decide_eq_true (show ((OS.length : Nat) : Int) < 5 by omega)]
  refine iteT ⟨L.tab, fun f1 c1 H1 L1 hf1 hlam hcode => ?_⟩
  have M1 := L.to L1
  have niff := no_iff (TS := TS) O.same hk hx hy hh c5
  have lT : TS.length = OS.length := by have := congrArg List.length (vals_names O.same); rwa [List.length_map, List.length_map] at this
  obtain ⟨dx, hnB⟩ := G.net
  have hn1 := M1.le.at hnB
  have htB : ∀ p ∈ TS, H1 p.2.1 = some (.tup (tupT p.2.2)) := fun p hp => M1.le.at (O.net p hp)
  have hnt : n ≠ dt := fun z => by rw [z, M1.nt] at hnB; cases hnB
  refine ⟨hlam, _, h2, n, dx, _, rfl, hn1, rfl, _, h7, _, h8, _, h9, _, h10, n, l, dt, rs, TS, tn k, (x : Int), (y : Int), (h : Int), hid H1 [dt], rfl, ⟨⟨dx, hn1⟩, M1.net, htB⟩, Le.land M1.le G.land, G.good, by rw [vals_names O.same]; exact O.good.nd, M1.tab, by omega, hid_no (by simp), hid_le M1.tab, fun hno H2 L2 => ?_, fun hno H2 u L2 hu hnet => ?_⟩
  · refine ⟨true, C.t.x_TowerError_TowerError, fun _ => ?_, fun z => by cases z⟩
    have hg := niff.mp hno
    refine ⟨rfl, _, h11, rfl, _, rfl, ?_⟩
    rw [hg]
    refine iteDF (fun z => by have := V.bl.inj z; rw [decide_eq_true rfl] at this; cases this) ((hq _ _ ⟨B, TS, OS, o, k, x, y, h, hl, h0, h1, h2, h3, h4, h5, h7, h8, h9, h10, h11, hk, hx, hy, hh, M1.to L2, G, O.at_, O.tow, O.net, ?_, O.good, O.l5⟩))
    rw [hg, if_neg (by decide), List.append_nil]
    exact O.same
  · have hg : goodB rs OS (tn k) x y = true := by
      cases hg : goodB rs OS (tn k) x y with
      | true => rfl
      | false => exact absurd (niff.mpr hg) hno
    refine ⟨rfl, _, h11, rfl, _, rfl, ?_⟩
    rw [hg]
    obtain ⟨_, hd2, ht2⟩ := hnet
    obtain ⟨dx0, dy0, dz0, hdd⟩ := M1.dice
    have hdd2 : H2 d = some (dV dx0 dy0 dz0) := L2.at (hid_at hdd (by simpa using M1.ne))
    have LB : Le (T K) B (hid H1 [dt]) := M1.le.hid (fun q hq => by rw [List.mem_singleton.mp hq]; exact M1.nt) (fun q hq u hu => by rw [List.mem_singleton.mp hq, M1.net] at hu; cases hu; trivial)
    have L3 : Nw K d dt (TS ++ [(tn k, u, ((x : Int), (y : Int), (h : Int)))]) B H2 := ⟨M1.nd, M1.nt, M1.ne, LB.trans L2, ⟨_, _, _, hdd2⟩, hd2⟩
    obtain ⟨L4, L5⟩ := L3.rebase
    refine iteDF (fun z => by have := of_decide_eq_true (V.bl.inj z); cases this) ((hq _ _ ⟨_, _, OS, o, k, x, y, h, hl, h0, h1, h2, h3, h4, h5, h7, h8, h9, h10, h11, hk, hx, hy, hh, L4, G.to L5, L5.at O.at_, fun p hp => L5.at (O.tow p hp), fun p hp => ?_, ?_, O.good, O.l5⟩))
    · exact hid_at (ht2 p hp) (L3.off (ht2 p hp) (fun _ _ _ z => by cases z) (fun z => by cases z))
    · rw [hg, if_pos rfl]
      unfold vals
      rw [List.map_append]
      exact congrArg (· ++ _) O.same
end
end K2

-- text Gen3
set_option maxRecDepth 100000
set_option maxHeartbeats 4000000
/-! Gen3: dicts put together, heaps that keep all. -/
namespace GX
open PySem PySem.Spec PyProof.Rows L2 LamX
theorem put_ents {α : Type} (f : α → V) {cs : SD α} {n : Str} (h : ¬ n ∈ cs.map (·.1)) (v : α) : putK (ents f cs) (Sum.inr n) (f v) = ents f (cs ++ [(n, v)]) := by
  rw [putK_new _ (by rw [valV_ents, look_none h]; rfl)]
  unfold ents
  rw [List.map_append]
  rfl
theorem merge_ents {α : Type} (f : α → V) : ∀ (more cs : SD α), ((cs ++ more).map (·.1)).Nodup → mergeK (ents f cs) (ents f more) = ents f (cs ++ more)
  | [], cs, _ => by rw [List.append_nil]; rfl
  | p :: r, cs, h => by
    show mergeK (putK (ents f cs) (Sum.inr p.1) (f p.2)) (ents f r) = _
    have hn : ¬ p.1 ∈ cs.map (·.1) := by
      rw [List.map_append, List.map_cons] at h
      exact fun z => (List.nodup_append.mp h).2.2 _ z _ List.mem_cons_self rfl
    rw [put_ents f hn p.2, merge_ents f r _ (by rw [List.append_assoc]; exact h), List.append_assoc]
    rfl
/-- {..}: n turns -/
theorem dc_n {J : It} {g : TG} {tt : TT} {tk tv : TE} {vs : List Nat} {σ : L2.St} {H1 : Hp} {D : Addr} {Qd : Hp → Prop} (n : Nat) (Pv : Nat → Hp → Prop) (h0 : Pv 0 (upd H1 D (.dK [])))
    (hs : ∀ i H, i < n → Pv i H → J.go i H ∧ ∀ x H', J.yld i H x H' → g x (wipe σ vs) H' fun σ2 H2 => wipe σ2 vs = wipe σ vs ∧ tt σ2 H2 fun b H3 =>
      if b = true then tk σ2 H3 fun y H4 => tv σ2 H4 fun z H5 => ∃ kvs k, y = kV k ∧ H5 D = some (.dK kvs) ∧ kvs.length < sizeLine ∧ Pv (i + 1) (upd H5 D (.dK (putK kvs k z))) else Pv (i + 1) H3)
    (hd : ∀ H, Pv n H → J.stop n H ∧ Qd H) :
    ∃ W : Nat → Nat → Hp → Prop, (∃ m, W 0 m (upd H1 D (.dK []))) ∧ ∀ i m H, W i m H →
      (J.stop i H ∧ Qd H) ∨ (J.go i H ∧ ∃ Nx : Hp → Prop, (∀ H', Nx H' → ∃ m', m' < m ∧ W (i + 1) m' H') ∧ ∀ x H', J.yld i H x H' → g x (wipe σ vs) H' fun σ2 H2 => wipe σ2 vs = wipe σ vs ∧ tt σ2 H2 fun b H3 =>
        if b = true then tk σ2 H3 fun y H4 => tv σ2 H4 fun z H5 => ∃ kvs k, y = kV k ∧ H5 D = some (.dK kvs) ∧ kvs.length < sizeLine ∧ Nx (upd H5 D (.dK (putK kvs k z))) else Nx H3) := by
  refine ⟨fun i m H => m = n - i ∧ i ≤ n ∧ Pv i H, ⟨n, by simp, Nat.zero_le _, h0⟩, ?_⟩
  rintro i m H ⟨rfl, hi, p⟩
  by_cases hlt : i < n
  · obtain ⟨q1, q2⟩ := hs i H hlt p
    exact .inr ⟨q1, Pv (i + 1), fun H' p' => ⟨n - (i + 1), by omega, rfl, hlt, p'⟩, q2⟩
  · have e : i = n := by omega
    rw [e] at p ⊢
    exact .inl (hd H p)
theorem paired_map {α β γ : Type} {F : β → γ → Prop} {f : α → β} {g : α → γ} : ∀ {L : List α}, (∀ x ∈ L, F (f x) (g x)) → Paired F (L.map f) (L.map g)
  | [], _ => .nil
  | x :: r, h => .cons (h x List.mem_cons_self) (paired_map fun y hy => h y (List.mem_cons_of_mem _ hy))
/-- all that stood stands -/
theorem le_keep {T : List (Addr × Str)} {H H' : Hp} (keep : ∀ b o, H b = some o → H' b = some o) (t : Tabs T H) : Le T H H' :=
  ⟨fun b o h _ => keep b o h, fun q hq => by
    obtain ⟨ps, h1, h2, h3⟩ := t q hq
    refine ⟨ps, keep _ _ h1, h2, fun pos cv hc => ?_⟩
    obtain ⟨c, e1, e2⟩ := h3 pos cv hc
    exact ⟨c, e1, keep _ _ e2⟩, fun b e => by
    cases h : H b with
    | none => rfl
    | some o => rw [keep b o h] at e; cases e⟩
theorem yes_ {σ : L2.St} {H : Hp} {Q : Bool → Hp → Prop} (h : Q true H) : tYes σ H Q := h
end GX

-- text K2T
set_option maxRecDepth 100000
set_option maxHeartbeats 4000000
namespace K2
open PySem PySem.Spec PyProof.Rows L2 LamX GX
section
variable {P : Program} {w : World} {K : PySem.W.Frag} {mg : Str → Option Value} {base : Heap}
variable {f : Addr} {cd : Value} {A : Around} {outer : List Env} {s : Shared} {H0 : Hp} {E : XK}
/-! ### the law's own towers -/
theorem paired_snoc {α β : Type} {F : α → β → Prop} : ∀ {xs : List α} {ys : List β} {x : α} {y : β}, Paired F xs ys → F x y → Paired F (xs ++ [x]) (ys ++ [y])
  | _, _, _, _, .nil, h => .cons h .nil
  | _, _, _, _, .cons a b, h => .cons a (paired_snoc b h)
theorem paired_mono {α β : Type} {F G : α → β → Prop} (m : ∀ x y, F x y → G x y) : ∀ {xs : List α} {ys : List β}, Paired F xs ys → Paired G xs ys
  | _, _, .nil => .nil
  | _, _, .cons a b => .cons (m _ _ a) (paired_mono m b)
theorem merge0 {α : Type} {f : α → V} {cs : SD α} (nd : (cs.map (·.1)).Nodup) : mergeK [] (ents f cs) = ents f cs := merge_ents f cs [] (by simpa using nd)
variable {p0 d r n l dt : Addr} {rs : List (List Int)}
theorem bs3 (C : Ctx K mg base) (hr : Room 9 (XN P w K mg base f cd A outer s H0 E).A) : Step (XN P w K mg base f cd A outer s H0 E) (fb 1 3) (N1c K p0 d r n l dt rs) (N1 K p0 d r n l dt rs) := by
  have nn := sc_l_net.nd
  refine ⟨_, ps_set (i := 5) nn rfl (by first | exact Or.inl rfl | exact Or.inr rfl) (pe_callTy (call_dictP rfl) (by rfl) C.t.b_dict (by decide +kernel) (pa_cons (pe_op op_cat (LiI.pe_listItems rfl (pv 5) (by rfl) C.t.b_list (by decide +kernel))
    (pe_op op_rep (pe_lst (pa_cons (pe_tup (pa_cons (pv 7) (pa_cons (pe_tup (pa_cons (pv 8) (pa_cons (pv 9) (pa_cons (pv 10) pa_nil)))) pa_nil))) pa_nil)) (pe_callTy call_int1 (by rfl) C.t.b_int (by decide +kernel) (pa_cons (pv 11) pa_nil)))) pa_nil)), fun D σ H hM hq => ?_⟩
  obtain ⟨B, TS, OS, o, k, x, y, h, hl, h0, h1, h2, h3, h4, h5, h7, h8, h9, h10, h11, hk, hx, hy, hh, L, G, O⟩ := hM
  obtain ⟨a0, a1, a2, a3, a4, a5, a6, a7, a8, a9, a10, a11, a12, a13, a14, a15, a16, a17, a18, a19, a20, a21, a22, a23, a24, a25, a26, a27, a28, a29, a30, a31, rfl⟩ := ex32 hl
  cases h0; cases h1; cases h2; cases h3; cases h4; cases h5; cases h7; cases h8; cases h9; cases h10; cases h11
  have hoH := L.le.at O.at_
  have l5 := O.l5
  refine ⟨_, rfl, o, _, rfl, hoH, fun H1 p ts keep np nts pts hp1 pair => ?_⟩
  have L1 := L.to (le_keep keep L.tab)
  refine ⟨_, rfl, _, rfl, _, rfl, _, rfl, by show 3 ≤ sizeLine; decide, fun u hu => ?_⟩
  have U1 := (Le.refl (L1.tab)).new (o := .tup [.int (x : Int), .int (y : Int), .int (h : Int)]) hu
  have hu2 : upd H1 u (.tup [.int (x : Int), .int (y : Int), .int (h : Int)]) u = some (.tup (tupT ((x : Int), (y : Int), (h : Int)))) := upd_same
  generalize upd H1 u (.tup [.int (x : Int), .int (y : Int), .int (h : Int)]) = H2 at U1 hu2 ⊢
  refine ⟨by show 2 ≤ sizeLine; decide, fun q hqn => ?_⟩
  have U2 := U1.new (o := .tup [.str (tn k), .ref u]) hqn
  have hq3 : upd H2 q (.tup [.str (tn k), .ref u]) q = some (.tup [.str (tn k), .ref u]) := upd_same
  have hu3 := (upd_ne (o := .tup [.str (tn k), .ref u]) (ne_of_none hu2 hqn)).trans hu2
  generalize upd H2 q (.tup [.str (tn k), .ref u]) = H3 at U2 hq3 hu3 ⊢
  refine ⟨by show 1 ≤ sizeLine; decide, fun e he => ?_⟩
  have U3 := U2.new (o := .lst [.ref q]) he
  have he4 : upd H3 e (.lst [.ref q]) e = some (.lst [.ref q]) := upd_same
  have hq4 := (upd_ne (o := .lst [.ref q]) (ne_of_none hq3 he)).trans hq3
  have hu4 := (upd_ne (o := .lst [.ref q]) (ne_of_none hu3 he)).trans hu3
  generalize upd H3 e (.lst [.ref q]) = H4 at U3 he4 hq4 hu4 ⊢
  have lts : ts.length = OS.length := (Paired.length pair).trans (ents_len _ _)
  have pair4 : Paired (fun (t : Addr) (pr : _root_.L2.Key × V) => H4 t = some (.tup [kV pr.1, pr.2])) ts (ents tV OS) := paired_mono (fun t pr ht => U3.at ht) pair
  have hp4 := U3.at hp1
  have L4 := L1.to U3
  refine ⟨_, rfl, .inr ⟨_, rfl, ?_⟩⟩
  cases hg : goodB rs OS (tn k) x y with
  | false =>
    have same := O.same
    rw [hg, if_neg (by decide), List.append_nil] at same
    refine ⟨_, _, _, rfl, rfl, he4, by decide, by decide, Nat.zero_le _, fun b hb => ?_⟩
    have hp5 := (upd_ne (o := .lst (List.replicate ((if false = true then (1 : Int) else 0).toNat) [V.ref q]).flatten) (ne_of_none hp4 hb)).trans hp4
    have pair5 := paired_mono (fun (t : Addr) (pr : _root_.L2.Key × V) (ht : H4 t = some (.tup [kV pr.1, pr.2])) => (upd_ne (o := .lst (List.replicate ((if false = true then (1 : Int) else 0).toNat) [V.ref q]).flatten) (ne_of_none ht hb)).trans ht) pair4
    have L5 := L4.new (o := .lst (List.replicate ((if false = true then (1 : Int) else 0).toNat) [V.ref q]).flatten) hb
    have hb5 : upd H4 b (.lst (List.replicate ((if false = true then (1 : Int) else 0).toNat) [V.ref q]).flatten) b = some (.lst []) := upd_same
    generalize upd H4 b (.lst (List.replicate ((if false = true then (1 : Int) else 0).toNat) [V.ref q]).flatten) = H5 at L5 hb5 hp5 pair5 ⊢
    refine ⟨p, b, _, _, rfl, rfl, hp5, hb5, by rw [List.length_map, lts]; exact Nat.le_trans (show OS.length + 0 ≤ 64 by omega) (by decide), fun c hc => ?_⟩
    have hc6 : upd H5 c (.lst (ts.map V.ref ++ [])) c = some (.lst (ts.map V.ref)) := upd_same.trans (by rw [List.append_nil])
    have pair6 := paired_mono (fun (t : Addr) (pr : _root_.L2.Key × V) (ht : H5 t = some (.tup [kV pr.1, pr.2])) => (upd_ne (o := .lst (ts.map V.ref ++ [])) (ne_of_none ht hc)).trans ht) pair5
    have L6 := L5.new (o := .lst (ts.map V.ref ++ [])) hc
    generalize upd H5 c (.lst (ts.map V.ref ++ [])) = H6 at L6 hc6 pair6 ⊢
    refine ⟨c, ts, ents tV OS, rfl, SqL.of hc6, paired_mono (fun _ _ z => SqT.of z) pair6, fun o2 ho2 => ?_⟩
    rw [merge0 O.good.nd]
    have L7 := L6.new (o := dT OS) ho2
    obtain ⟨L8, L9⟩ := L7.rebase
    exact hq _ _ ⟨_, TS, OS, o2, rfl, rfl, rfl, rfl, rfl, rfl, rfl, L8, G.to L9, hid_at upd_same (L6.off_new ho2), fun z hz => L9.at (O.tow z hz), fun z hz => L9.at (O.net z hz), same, O.good, O.l5⟩
  | true =>
    have same := O.same
    rw [hg, if_pos rfl] at same
    have gb := hg
    unfold goodB at gb
    simp only [Bool.and_eq_true, decide_eq_true_eq, Bool.not_eq_true'] at gb
    obtain ⟨b1, b2, b3, b4⟩ := gb
    refine ⟨_, _, _, rfl, rfl, he4, by decide, by decide, by show 1 * 1 ≤ sizeLine; decide, fun b hb => ?_⟩
    have hp5 := (upd_ne (o := .lst (List.replicate ((if true = true then (1 : Int) else 0).toNat) [V.ref q]).flatten) (ne_of_none hp4 hb)).trans hp4
    have hq5 := (upd_ne (o := .lst (List.replicate ((if true = true then (1 : Int) else 0).toNat) [V.ref q]).flatten) (ne_of_none hq4 hb)).trans hq4
    have hu5 := (upd_ne (o := .lst (List.replicate ((if true = true then (1 : Int) else 0).toNat) [V.ref q]).flatten) (ne_of_none hu4 hb)).trans hu4
    have pair5 := paired_mono (fun (t : Addr) (pr : _root_.L2.Key × V) (ht : H4 t = some (.tup [kV pr.1, pr.2])) => (upd_ne (o := .lst (List.replicate ((if true = true then (1 : Int) else 0).toNat) [V.ref q]).flatten) (ne_of_none ht hb)).trans ht) pair4
    have L5 := L4.new (o := .lst (List.replicate ((if true = true then (1 : Int) else 0).toNat) [V.ref q]).flatten) hb
    have hb5 : upd H4 b (.lst (List.replicate ((if true = true then (1 : Int) else 0).toNat) [V.ref q]).flatten) b = some (.lst [.ref q]) := upd_same
    generalize upd H4 b (.lst (List.replicate ((if true = true then (1 : Int) else 0).toNat) [V.ref q]).flatten) = H5 at L5 hb5 hp5 hq5 hu5 pair5 ⊢
    refine ⟨p, b, _, _, rfl, rfl, hp5, hb5, by rw [List.length_map, lts]; exact Nat.le_trans (show OS.length + 1 ≤ 64 by omega) (by decide), fun c hc => ?_⟩
    have hc6 : upd H5 c (.lst (ts.map V.ref ++ [V.ref q])) c = some (.lst ((ts ++ [q]).map V.ref)) := upd_same.trans (by rw [List.map_append]; rfl)
    have pair6 := paired_mono (fun (t : Addr) (pr : _root_.L2.Key × V) (ht : H5 t = some (.tup [kV pr.1, pr.2])) => (upd_ne (o := .lst (ts.map V.ref ++ [V.ref q])) (ne_of_none ht hc)).trans ht) pair5
    have hq6 := (upd_ne (o := .lst (ts.map V.ref ++ [V.ref q])) (ne_of_none hq5 hc)).trans hq5
    have hu6 := (upd_ne (o := .lst (ts.map V.ref ++ [V.ref q])) (ne_of_none hu5 hc)).trans hu5
    have L6 := L5.new (o := .lst (ts.map V.ref ++ [V.ref q])) hc
    generalize upd H5 c (.lst (ts.map V.ref ++ [V.ref q])) = H6 at L6 hc6 hq6 hu6 pair6 ⊢
    have nd2 : ((OS ++ [(tn k, u, ((x : Int), (y : Int), (h : Int)))]).map (·.1)).Nodup := by
      rw [List.map_append]
      exact List.nodup_append.mpr ⟨O.good.nd, List.pairwise_singleton _ _, fun a ha b hb => by
        rw [List.mem_singleton.mp hb]
        exact fun z => b2 (by rw [z] at ha; exact ha)⟩
    have good2 : GoodT rs (OS ++ [(tn k, u, ((x : Int), (y : Int), (h : Int)))]) := ⟨nd2, by rw [List.length_append]; show OS.length + 1 ≤ 30; omega, fun z hz => by
      rcases List.mem_append.mp hz with hz | hz
      · exact O.good.inn z hz
      · rw [List.mem_singleton.mp hz]
        exact ⟨⟨by show (0 : Int) ≤ (y : Int); omega, by show (y : Int) < _; omega⟩, by show (0 : Int) ≤ (x : Int); omega, by show (x : Int) < _; omega⟩, fun z hz => by
      rcases List.mem_append.mp hz with hz | hz
      · exact O.good.ok z hz
      · rw [List.mem_singleton.mp hz]
        exact tn_ok k hk⟩
    have pair7 : Paired (fun (t : Addr) (pr : _root_.L2.Key × V) => H6 t = some (.tup [kV pr.1, pr.2])) (ts ++ [q]) (ents tV (OS ++ [(tn k, u, ((x : Int), (y : Int), (h : Int)))])) := by
      unfold ents
      rw [List.map_append]
      exact paired_snoc pair6 hq6
    refine ⟨c, ts ++ [q], ents tV (OS ++ [(tn k, u, ((x : Int), (y : Int), (h : Int)))]), rfl, SqL.of hc6, paired_mono (fun _ _ z => SqT.of z) pair7, fun o2 ho2 => ?_⟩
    rw [merge0 nd2]
    have L7 := L6.new (o := dT (OS ++ [(tn k, u, ((x : Int), (y : Int), (h : Int)))])) ho2
    have hu7 := (upd_ne (o := dT (OS ++ [(tn k, u, ((x : Int), (y : Int), (h : Int)))])) (ne_of_none hu6 ho2)).trans hu6
    obtain ⟨L8, L9⟩ := L7.rebase
    refine hq _ _ ⟨_, TS, OS ++ [(tn k, u, ((x : Int), (y : Int), (h : Int)))], o2, rfl, rfl, rfl, rfl, rfl, rfl, rfl, L8, G.to L9, hid_at upd_same (L6.off_new ho2), fun z hz => ?_, fun z hz => L9.at (O.net z hz), ?_, good2, by rw [List.length_append]; show OS.length + 1 ≤ 5; omega⟩
    · rcases List.mem_append.mp hz with hz | hz
      · exact L9.at (O.tow z hz)
      · rw [List.mem_singleton.mp hz]
        exact hid_at hu7 (L7.off hu7 (fun _ _ _ z => by cases z) (fun z => by cases z))
    · rw [same]
      unfold vals
      rw [List.map_append]
      rfl
end
end K2

-- text K2U
set_option maxRecDepth 100000
set_option maxHeartbeats 4000000
namespace K2
open PySem PySem.Spec PyProof.Rows L2 LamX GX
section
variable {P : Program} {w : World} {K : PySem.W.Frag} {mg : Str → Option Value} {base : Heap}
variable {f : Addr} {cd : Value} {A : Around} {outer : List Env} {s : Shared} {H0 : Hp} {E : XK}
/-! ### names and links of the law -/
theorem at_set {σ : L2.St} {i j : Nat} {v : V} {x : Option V} (h : At σ i v) (n : i ≠ j) : At (σ.set j x) i v := by
  unfold At at h ⊢
  rw [List.getElem?_set_ne (Ne.symm n)]; exact h
theorem at_self {σ : L2.St} {j : Nat} {v : V} (h : j < σ.length) : At (σ.set j (some v)) j v := by
  unfold At
  rw [List.getElem?_set_self h]
variable {p0 d r n l dt : Addr} {rs : List (List Int)}
theorem nbody (C : Ctx K mg base) (hr : Room 9 (XN P w K mg base f (cdN K) A outer s H0 E).A) : Steps (XN P w K mg base f (cdN K) A outer s H0 E) [fb 1 0, fb 1 1, fb 1 2, fb 1 3] (N1 K p0 d r n l dt rs) (N1 K p0 d r n l dt rs) :=
  (bs0 C hr).cons ((bs1 C hr).cons ((bs2 C hr).cons ((bs3 C hr).cons .nil)))
theorem N1.tgt {σ : L2.St} {H : Hp} {v : Option V} (h : N1 K p0 d r n l dt rs σ H) : N1 K p0 d r n l dt rs (σ.set 6 v) H := by
  obtain ⟨B, TS, OS, o, hl, h0, h1, h2, h3, h4, h5, L, G, O⟩ := h
  exact ⟨B, TS, OS, o, by rw [List.length_set]; exact hl, at_set h0 (by decide), at_set h1 (by decide), at_set h2 (by decide), at_set h3 (by decide), at_set h4 (by decide), at_set h5 (by decide), L, G, O⟩
theorem ns1 (C : Ctx K mg base) (hr : Room 9 (XN P w K mg base f (cdN K) A outer s H0 E).A) : Step (XN P w K mg base f (cdN K) A outer s H0 E) (sn 1) (N1 K p0 d r n l dt rs) (N1 K p0 d r n l dt rs) := by
  have nn := sc_l_net.nd
  obtain ⟨tb, hb1, hb2⟩ := nbody (P := P) (w := w) (f := f) (A := A) (outer := outer) (s := s) (H0 := H0) (E := E) (p0 := p0) (d := d) (r := r) (n := n) (l := l) (dt := dt) (rs := rs) C hr
  refine ⟨_, ps_for (body := forB (sn 1)) ownsA rfl (pi_range1 (by rfl) C.t.b_range (pa_cons (pe_cx (ok_roll (P := P) (w := w) C) hr (by decide) rfl passA (pa_cons (pv 0) (pa_cons pe_int pa_nil))) pa_nil)) (pg_name (i := 6) nn rfl (by first | exact Or.inl rfl | exact Or.inr rfl)) hb1, fun D σ H hM hq => ?_⟩
  obtain ⟨B, TS, OS, o, hl, h0, h1, h2, h3, h4, h5, L, G, O⟩ := hM
  obtain ⟨qx, qy, qz, qd⟩ := L.dice
  refine ⟨_, h0, d, qx, qy, qz, _, rfl, qd, by omega, by omega, fun qx qy qz qr q0 q1 => ?_⟩
  obtain ⟨k, hk, rfl⟩ : ∃ k : Nat, k < 9 ∧ qr = (k : Int) := ⟨qr.toNat, by omega, by omega⟩
  have L1 := L.roll qx qy qz
  generalize upd H d (dV qx qy qz) = H1 at L1 ⊢
  clear q0 q1 qd
  refine ⟨_, rfl, by omega, by omega, ?_⟩
  refine for_range (lo := 0) (n := k) (fun i σ' H' => N1 K p0 d r n l dt rs σ' H') ⟨B, TS, OS, o, hl, h0, h1, h2, h3, h4, h5, L1, G, O⟩ (fun i σ' H' hi hP => ?_) (fun σ' H' hP => hq _ _ hP)
  exact hb2 _ _ _ hP.tgt fun σ'' H'' h => h
/-! ### from now on the net stands -/
structure Nx (K : PySem.W.Frag) (d : Addr) (B H : Hp) : Prop where
  nd : B d = none
  le : Le (T K) B H
  dice : ∃ x y z, H d = some (dV x y z)
section
variable {B H H' : Hp} {p : Addr} {o : HO}
theorem Nx.tab (h : Nx K d B H) : Tabs (T K) H := h.le.tab
theorem Nx.to (h : Nx K d B H) (l : Le (T K) H H') : Nx K d B H' := by
  obtain ⟨a, e, ⟨x, y, z, g⟩⟩ := h
  exact ⟨a, e.trans l, ⟨x, y, z, l.at g⟩⟩
theorem Nx.new (h : Nx K d B H) (n : H p = none) : Nx K d B (upd H p o) := h.to ((Le.refl h.le.tab).new n)
theorem Nx.roll (h : Nx K d B H) (x y z : Int) : Nx K d B (upd H d (dV x y z)) := by
  obtain ⟨a, e, ⟨x', y', z', g⟩⟩ := h
  exact ⟨a, e.set a g, ⟨x, y, z, upd_same⟩⟩
theorem Nx.rebase (h : Nx K d B H) : Nx K d (hid H [d]) H ∧ Le (T K) B (hid H [d]) :=
  ⟨⟨hid_no (by simp), hid_le h.tab, h.dice⟩, h.le.hid (fun q hq => by rw [List.mem_singleton.mp hq]; exact h.nd) (fun q hq u hu => by
    obtain ⟨a, e, ⟨x, y, z, g⟩⟩ := h
    rw [List.mem_singleton.mp hq, g] at hu; cases hu; trivial)⟩
theorem Nx.off (h : Nx K d B H) {a : Addr} {v : HO} (hv : H a = some v) (h1 : ∀ x y z, v ≠ dV x y z) : a ∉ [d] := fun hq => by
  obtain ⟨_, _, ⟨x, y, z, g⟩⟩ := h
  rw [List.mem_singleton.mp hq, g] at hv; exact h1 x y z (Option.some.inj hv).symm
theorem Nx.off_new (h : Nx K d B H) {a : Addr} (hv : H a = none) : a ∉ [d] := fun hq => by
  obtain ⟨_, _, ⟨x, y, z, g⟩⟩ := h
  rw [List.mem_singleton.mp hq, g] at hv; cases hv
end
/-- the towers that stand -/
structure Tn (K : PySem.W.Frag) (p0 d r n l dt o : Addr) (rs : List (List Int)) (TS OS : TSt) (B : Hp) : Prop where
  grid : isGrid B r rs
  good : GoodL rs
  land : isLand K B l rs
  net : isNet K B n l dt TS
  h7 : rs.length ≤ 7
  w7 : (rs.headD []).length ≤ 7
  at_ : B o = some (dT OS)
  tow : ∀ p ∈ OS, B p.2.1 = some (.tup (tupT p.2.2))
  same : vals TS = vals OS
  gt : GoodT rs OS
  l5 : OS.length ≤ 5
  ne : dt ≠ o
  lp : B p0 = some (.lst [.ref d])
theorem Tn.to {p0 d r n l dt o : Addr} {rs : List (List Int)} {TS OS : TSt} {B B' : Hp} (h : Tn K p0 d r n l dt o rs TS OS B) (x : Le (T K) B B') : Tn K p0 d r n l dt o rs TS OS B' :=
  ⟨Le.grid x h.grid, h.good, Le.land x h.land, Le.net x h.net, h.h7, h.w7, x.at h.at_, fun p hp => x.at (h.tow p hp), h.same, h.gt, h.l5, h.ne, x.at h.lp⟩
def N2 (K : PySem.W.Frag) (p0 d r n l dt : Addr) (rs : List (List Int)) : L2.St → Hp → Prop := fun σ H => ∃ B TS OS o na la, σ.length = 32 ∧ At σ 0 (.ref d) ∧ At σ 1 (.ref r) ∧ At σ 2 (.ref n) ∧ At σ 5 (.ref o) ∧ At σ 12 (.ref na) ∧ At σ 13 (.ref la) ∧
  Nx K d B H ∧ Tn K p0 d r n l dt o rs TS OS B ∧ B na = some (.lst ((nsT OS).map V.str)) ∧ B la = some (.lst [])
theorem ns2 (C : Ctx K mg base) (hr : Room 9 (XN P w K mg base f cd A outer s H0 E).A) : Step (XN P w K mg base f cd A outer s H0 E) (sn 2) (N1 K p0 d r n l dt rs) (N2 K p0 d r n l dt rs) := by
  have nn := sc_l_net.nd
  refine ⟨_, ps_asg (pe_tup (pa_cons (pe_callB (call_sortedD rfl) (by rfl) C.t.b_sorted (by decide +kernel) (pa_cons (pv 5) pa_nil)) (pa_cons (pe_lst pa_nil) pa_nil))) (pg_tup rfl (pgs_cons (pg_name (i := 12) nn rfl (by first | exact Or.inl rfl | exact Or.inr rfl)) (pgs_cons (pg_name (i := 13) nn rfl (by first | exact Or.inl rfl | exact Or.inr rfl)) pgs_nil))), fun D σ H hM hq => ?_⟩
  obtain ⟨B, TS, OS, o, hl, h0, h1, h2, h3, h4, h5, L, G, O⟩ := hM
  have hoH := L.le.at O.at_
  have l5 := O.l5
  refine ⟨_, h5, o, _, OS.map (·.1), rfl, sorted_towers hoH, ents_keys _ _, by rw [List.length_map]; omega, fun ys p hp hs hpn => ?_⟩
  have eys := sortS_is hp hs
  subst eys
  have hns : sortS (OS.map (·.1)) = nsT OS := rfl
  rw [hns]
  have L1 := L.new (o := .lst ((nsT OS).map V.str)) hpn
  have hp1 : upd H p (.lst ((nsT OS).map V.str)) p = some (.lst ((nsT OS).map V.str)) := upd_same
  generalize upd H p (.lst ((nsT OS).map V.str)) = H1 at L1 hp1 ⊢
  refine ⟨by show 0 ≤ sizeLine; decide, fun e he => ?_⟩
  have L2 := L1.new (o := .lst []) he
  have hp2 := (upd_ne (o := .lst []) (ne_of_none hp1 he)).trans hp1
  have he2 : upd H1 e (.lst []) e = some (.lst []) := upd_same
  generalize upd H1 e (.lst []) = H2 at L2 hp2 he2 ⊢
  refine ⟨by show 2 ≤ sizeLine; decide, fun t0 ht0 => ?_⟩
  have hp3 := (upd_ne (o := .tup [.ref p, .ref e]) (ne_of_none hp2 ht0)).trans hp2
  have he3 := (upd_ne (o := .tup [.ref p, .ref e]) (ne_of_none he2 ht0)).trans he2
  have L3 := L2.new (o := .tup [.ref p, .ref e]) ht0
  have ht3 : upd H2 t0 (.tup [.ref p, .ref e]) t0 = some (.tup [.ref p, .ref e]) := upd_same
  generalize upd H2 t0 (.tup [.ref p, .ref e]) = H3 at L3 hp3 he3 ht3 ⊢
  refine ⟨t0, _, rfl, SqT.of ht3, rfl, _, _, rfl, _, _, rfl, rfl, ?_⟩
  obtain ⟨dx, hn⟩ := (G.to L3.le).net
  have hndt : H3 dt = some (dT TS) := L3.net
  have hdd : d ≠ dt := L3.ne
  obtain ⟨dx0, dy0, dz0, hdi⟩ := L3.dice
  have X1 : Nx K d (hid H3 [d]) H3 := ⟨hid_no (by simp), hid_le L3.tab, L3.dice⟩
  have LB : Le (T K) B (hid H3 [d]) := L3.le.hid (fun q hq => by rw [List.mem_singleton.mp hq]; exact L3.nd) (fun q hq u hu => by rw [List.mem_singleton.mp hq, hdi] at hu; cases hu; trivial)
  refine hq _ _ ⟨hid H3 [d], TS, OS, o, p, e, by rw [List.length_set, List.length_set]; exact hl, at_set (at_set h0 (by decide)) (by decide), at_set (at_set h1 (by decide)) (by decide), at_set (at_set h2 (by decide)) (by decide), at_set (at_set h5 (by decide)) (by decide), at_set (at_self (by omega)) (by decide), at_self (by rw [List.length_set]; omega), X1,
    ⟨Le.grid LB G.grid, G.good, Le.land LB G.land, ⟨⟨dx, hid_at hn (X1.off hn fun _ _ _ z => by cases z)⟩, hid_at hndt (X1.off hndt fun _ _ _ z => by cases z), fun q hq => LB.at (O.net q hq)⟩, G.h7, G.w7, LB.at O.at_, fun q hq => LB.at (O.tow q hq), O.same, O.good, O.l5, (fun z => by have := O.at_; rw [← z, L.nt] at this; cases this), LB.at G.lp⟩,
    hid_at hp3 (fun hq => L.off_new hpn (List.mem_cons.mpr (Or.inl (List.mem_singleton.mp hq)))), hid_at he3 (fun hq => L1.off_new he (List.mem_cons.mpr (Or.inl (List.mem_singleton.mp hq))))⟩
end
end K2

-- text K2V
set_option maxRecDepth 100000
set_option maxHeartbeats 4000000
namespace K2
open PySem PySem.Spec PyProof.Rows L2 LamX GX
section
variable {P : Program} {w : World} {K : PySem.W.Frag} {mg : Str → Option Value} {base : Heap}
variable {f : Addr} {cd : Value} {A : Around} {outer : List Env} {s : Shared} {H0 : Hp} {E : XK}
/-! ### links of the law -/
def Sl (σ : _root_.L2.St) (d r n o na : Addr) : Prop := σ.length = 32 ∧ At σ 0 (.ref d) ∧ At σ 1 (.ref r) ∧ At σ 2 (.ref n) ∧ At σ 5 (.ref o) ∧ At σ 12 (.ref na)
theorem Sl.set {σ : _root_.L2.St} {d r n o na : Addr} (h : Sl σ d r n o na) {j : Nat} {x : Option V} (hj : j ≠ 0 ∧ j ≠ 1 ∧ j ≠ 2 ∧ j ≠ 5 ∧ j ≠ 12) : Sl (σ.set j x) d r n o na := by
  obtain ⟨a, b, c, e, g, k⟩ := h
  exact ⟨by rw [List.length_set]; exact a, at_set b (Ne.symm hj.1), at_set c (Ne.symm hj.2.1), at_set e (Ne.symm hj.2.2.1), at_set g (Ne.symm hj.2.2.2.1), at_set k (Ne.symm hj.2.2.2.2)⟩
variable {p0 d r n l dt : Addr} {rs : List (List Int)}
def N3 (K : PySem.W.Frag) (p0 d r n l dt : Addr) (rs : List (List Int)) : L2.St → Hp → Prop := fun σ H => ∃ B TS OS o na la L, Sl σ d r n o na ∧ At σ 13 (.ref la) ∧
  Nx K d B H ∧ Tn K p0 d r n l dt o rs TS OS B ∧ B na = some (.lst ((nsT OS).map V.str)) ∧ B la = some (.lst (refsL L)) ∧ isLinks B L ∧ L.map (·.2) = lkT rs OS
theorem ns3 (C : Ctx K mg base) (hr : Room 9 (XN P w K mg base f cd A outer s H0 E).A) : Step (XN P w K mg base f cd A outer s H0 E) (sn 3) (N2 K p0 d r n l dt rs) (N3 K p0 d r n l dt rs) := by
  have nn := sc_l_net.nd
  refine ⟨_, ps_for ownsA rfl (pi_enum (by rfl) C.t.b_enumerate (pa_cons (pv 12) pa_nil)) (pg_tup rfl (pgs_cons (pg_name (i := 14) nn rfl (by first | exact Or.inl rfl | exact Or.inr rfl)) (pgs_cons (pg_name (i := 15) nn rfl (by first | exact Or.inl rfl | exact Or.inr rfl)) pgs_nil)))
    (pss_one (ps_for ownsA rfl (pi_list (pe_slice sl_list (pv 12) (po_some (pe_op op_add (pv 14) pe_int)) po_none)) (pg_name (i := 16) nn rfl (by first | exact Or.inl rfl | exact Or.inr rfl))
      (pss_cons (ps_set (i := 17) nn rfl (by first | exact Or.inl rfl | exact Or.inr rfl) (pe_op op_add (pe_op op_mul (pe_op op_sub (pe_ix ix_tup (pe_dget (hu_of hr) (pv 5) (pv 15) (fun _ _ => rfl)) pe_int (fun _ _ => rfl)) (pe_ix ix_tup (pe_dget (hu_of hr) (pv 5) (pv 16) (fun _ _ => rfl)) pe_int (fun _ _ => rfl))) (pe_op op_sub (pe_ix ix_tup (pe_dget (hu_of hr) (pv 5) (pv 15) (fun _ _ => rfl)) pe_int (fun _ _ => rfl)) (pe_ix ix_tup (pe_dget (hu_of hr) (pv 5) (pv 16) (fun _ _ => rfl)) pe_int (fun _ _ => rfl)))) (pe_op op_mul (pe_op op_sub (pe_ix ix_tup (pe_dget (hu_of hr) (pv 5) (pv 15) (fun _ _ => rfl)) pe_int (fun _ _ => rfl)) (pe_ix ix_tup (pe_dget (hu_of hr) (pv 5) (pv 16) (fun _ _ => rfl)) pe_int (fun _ _ => rfl))) (pe_op op_sub (pe_ix ix_tup (pe_dget (hu_of hr) (pv 5) (pv 15) (fun _ _ => rfl)) pe_int (fun _ _ => rfl)) (pe_ix ix_tup (pe_dget (hu_of hr) (pv 5) (pv 16) (fun _ _ => rfl)) pe_int (fun _ _ => rfl))))))
      (pss_one (ps_set (i := 13) nn rfl (by first | exact Or.inl rfl | exact Or.inr rfl) (pe_op op_cat (pv 13) (pe_op op_rep (pe_lst (pa_cons (pe_tup (pa_cons (pv 15) (pa_cons (pv 16) (pa_cons (pv 17) pa_nil)))) pa_nil)) (pe_callTy call_int1 (by rfl) C.t.b_int (by decide +kernel)
        (pa_cons (pe_cx (ok_lsees (P := P) (w := w) C) hr (by decide) rfl passA (pa_cons (pv 1) (pa_cons (pe_dget (hu_of hr) (pv 5) (pv 15) (fun _ _ => rfl)) (pa_cons (pe_dget (hu_of hr) (pv 5) (pv 16) (fun _ _ => rfl)) pa_nil)))) pa_nil))))))))), fun D σ H hM hq => ?_⟩
  obtain ⟨B, TS, OS, o, na, la, hl, h0, h1, h2, h5, h12, h13, L, O, hna, hla⟩ := hM
  have l5 := O.l5
  have nl := nsT_len (TS := OS)
  have hn1 := L.le.at hna
  have ho1 := L.le.at O.at_
  refine ⟨_, h12, na, _, rfl, SqL.of hn1, ?_⟩
  have mem : ∀ {i : Nat} {x : Str}, (nsT OS)[i]? = some x → x ∈ OS.map (·.1) := fun h => nsT_mem.mp (List.mem_of_getElem? h)
  have w7 := O.w7
  have h7 := O.h7
  refine for_n (nsT OS).length (fun i σ H' => Sl σ d r n o na ∧ Le (T K) H H' ∧ ∃ la L, At σ 13 (.ref la) ∧ H' la = some (.lst (refsL L)) ∧ isLinks H' L ∧ L.map (·.2) = linksT rs OS (nsT OS) i)
    ⟨⟨hl, h0, h1, h2, h5, h12⟩, Le.refl L.tab, la, [], h13, L.le.at hla, (fun x hx => by cases hx), rfl⟩ (fun i σ H3 hi ⟨sl, L3, la, LL, g13, k1, k2, k3⟩ => ⟨⟨_, V.str (nsT OS)[i], SqL.of (L3.at hn1), by rw [List.getElem?_map, List.getElem?_eq_getElem hi]; rfl⟩, ?_⟩)
    (fun σ H3 ⟨sl, L3, la, LL, g13, k1, k2, k3⟩ => ⟨⟨_, SqL.of (L3.at hn1), by rw [List.length_map]; exact Nat.le_refl _⟩, ?_⟩)
  case refine_2 =>
    have X3 := L.to L3
    obtain ⟨X4, X5⟩ := X3.rebase
    have X6 : ∀ {a v}, H3 a = some v → (∀ x y z, v ≠ dV x y z) → hid H3 [d] a = some v := fun ha hv => hid_at ha (X3.off ha hv)
    refine hq _ _ ⟨_, TS, OS, o, na, la, LL, sl, g13, X4, O.to X5, X5.at hna, ?_, fun z hz => X6 (k2 z hz) (fun _ _ _ e => by cases e), k3⟩
    refine X6 k1 fun x y z e => ?_
    have : refsL LL = [V.int x, V.int y, V.int z] := HO.lst.inj e
    cases LL with
    | nil => cases this
    | cons a t => cases this
  rintro v H4 ⟨t, y, rfl, ht, rfl, hy⟩
  obtain ⟨x, hx, rfl⟩ := GX.get_map (hy _ (SqL.of (L3.at hn1)))
  obtain ⟨u, lx, inx, okx, mx⟩ := O.gt.at (mem hx)
  refine ⟨t, _, rfl, SqT.of upd_same, rfl, _, _, rfl, _, _, rfl, rfl, ?_⟩
  have L4 := L3.new (o := .tup [.int (i : Nat), .str x]) ht
  have k14 : upd H3 t (.tup [.int (i : Nat), .str x]) la = some (.lst (refsL LL)) := (upd_ne (ne_of_none k1 ht)).trans k1
  have k24 : isLinks (upd H3 t (.tup [.int (i : Nat), .str x])) LL := fun z hz => (upd_ne (ne_of_none (k2 z hz) ht)).trans (k2 z hz)
  generalize upd H3 t (.tup [.int (i : Nat), .str x]) = H4 at L4 k14 k24 ⊢
  have sl2 := (sl.set (j := 14) (x := some (.int (i : Nat))) (by decide)).set (j := 15) (x := some (.str x)) (by decide)
  have g14 : At ((σ.set 14 (some (.int (i : Nat)))).set 15 (some (.str x))) 14 (.int (i : Nat)) := at_set (at_self (by rw [sl.1]; decide)) (by decide)
  have g15 : At ((σ.set 14 (some (.int (i : Nat)))).set 15 (some (.str x))) 15 (.str x) := at_self (by rw [List.length_set, sl.1]; decide)
  have g13' : At ((σ.set 14 (some (.int (i : Nat)))).set 15 (some (.str x))) 13 (.ref la) := at_set (at_set g13 (by decide)) (by decide)
  generalize (σ.set 14 (some (.int (i : Nat)))).set 15 (some (.str x)) = σ1 at sl2 g14 g15 g13' ⊢
  refine ⟨_, sl2.2.2.2.2.2, _, g14, _, _, rfl, rfl, _, rfl, na, _, rfl, SqL.of (L4.at hn1), fun q hqn => ?_⟩
  rw [show ((i : Nat) : Int) + 1 = ((i + 1 : Nat) : Int) by omega, cutV_drop, ← List.map_drop]
  have L5 := L4.new (o := .lst (((nsT OS).drop (i + 1)).map V.str)) hqn
  have hq5 : upd H4 q (.lst (((nsT OS).drop (i + 1)).map V.str)) q = some (.lst (((nsT OS).drop (i + 1)).map V.str)) := upd_same
  have k15 : upd H4 q (.lst (((nsT OS).drop (i + 1)).map V.str)) la = some (.lst (refsL LL)) := (upd_ne (ne_of_none k14 hqn)).trans k14
  have k25 : isLinks (upd H4 q (.lst (((nsT OS).drop (i + 1)).map V.str))) LL := fun z hz => (upd_ne (ne_of_none (k24 z hz) hqn)).trans (k24 z hz)
  generalize upd H4 q (.lst (((nsT OS).drop (i + 1)).map V.str)) = H5 at L5 hq5 k15 k25 ⊢
  refine ⟨q, rfl, ⟨_, SqL.of hq5⟩, ?_⟩
  refine for_list (xs := ((nsT OS).drop (i + 1)).map V.str) (fun j σ H' => Sl σ d r n o na ∧ At σ 15 (.str x) ∧ Le (T K) H5 H' ∧ ∃ la L, At σ 13 (.ref la) ∧ H' la = some (.lst (refsL L)) ∧ isLinks H' L ∧ L.map (·.2) = linksT rs OS (nsT OS) i ++ rowLk rs OS x (((nsT OS).drop (i + 1)).take j))
    ⟨sl2, g15, Le.refl L5.tab, la, LL, g13', k15, k25, by rw [k3]; exact (List.append_nil _).symm⟩ (fun j σ H' _ hP => SqL.of (hP.2.2.1.at hq5)) (fun j v σ H6 hv ⟨sl6, g156, L6, la6, L6L, g136, m1, m2, m3⟩ => ?_) (fun σ H6 ⟨sl6, g156, L6, la6, L6L, g136, m1, m2, m3⟩ => ?_)
  · obtain ⟨y, hy6, rfl⟩ := GX.get_map hv
    have hyn : y ∈ nsT OS := List.mem_of_mem_drop (List.mem_of_getElem? hy6)
    obtain ⟨u2, ly, iny, oky, my⟩ := O.gt.at (nsT_mem.mp hyn)
    have LA := (L.to L5).to L6
    have tx : H6 u = some (.tup (tupT (twOf OS x))) := LA.le.at (O.tow _ mx)
    have ty : H6 u2 = some (.tup (tupT (twOf OS y))) := LA.le.at (O.tow _ my)
    have ho6 : H6 o = some (dT OS) := LA.le.at O.at_
    have sl7 := sl6.set (j := 16) (x := some (.str y)) (by decide)
    have h15 : At (σ.set 16 (some (.str y))) 15 (.str x) := at_set g156 (by decide)
    have h16 : At (σ.set 16 (some (.str y))) 16 (.str y) := at_self (by rw [sl6.1]; decide)
    have h13 : At (σ.set 16 (some (.str y))) 13 (.ref la6) := at_set g136 (by decide)
    show tSeq _ _ _ (σ.set 16 (some (.str y))) H6
    generalize σ.set 16 (some (.str y)) = σ2 at sl7 h15 h16 h13 ⊢
    obtain ⟨e1, e0, e2, e3, h5, e4⟩ := id sl7
    obtain ⟨⟨x1, x2⟩, x3, x4⟩ := id inx
    obtain ⟨⟨y1, y2⟩, y3, y4⟩ := id iny
    refine ⟨_, h5, _, h15, o, _, rfl, dget_of (f := tV) ho6 lx, _, _, _, _, rfl, rfl, SqT.of tx, atI_nat (j := 0) rfl, _, h5, _, h16, o, _, rfl, dget_of (f := tV) ho6 ly, _, _, _, _, rfl, rfl, SqT.of ty, atI_nat (j := 0) rfl, _, _, rfl, rfl, _, h5, _, h15, o, _, rfl, dget_of (f := tV) ho6 lx, _, _, _, _, rfl, rfl, SqT.of tx, atI_nat (j := 0) rfl, _, h5, _, h16, o, _, rfl, dget_of (f := tV) ho6 ly, _, _, _, _, rfl, rfl, SqT.of ty, atI_nat (j := 0) rfl, _, _, rfl, rfl, _, _, rfl, rfl, .inl ⟨by omega, by omega⟩, _, h5, _, h15, o, _, rfl, dget_of (f := tV) ho6 lx, _, _, _, _, rfl, rfl, SqT.of tx, atI_nat (j := 1) rfl, _, h5, _, h16, o, _, rfl, dget_of (f := tV) ho6 ly, _, _, _, _, rfl, rfl, SqT.of ty, atI_nat (j := 1) rfl, _, _, rfl, rfl, _, h5, _, h15, o, _, rfl, dget_of (f := tV) ho6 lx, _, _, _, _, rfl, rfl, SqT.of tx, atI_nat (j := 1) rfl, _, h5, _, h16, o, _, rfl, dget_of (f := tV) ho6 ly, _, _, _, _, rfl, rfl, SqT.of ty, atI_nat (j := 1) rfl, _, _, rfl, rfl, _, _, rfl, rfl, .inl ⟨by omega, by omega⟩, _, _, rfl, rfl, ?_⟩
    have sl8 := sl7.set (j := 17) (x := some (.int (farOf (twOf OS x) (twOf OS y)))) (by decide)
    have i15 : At (σ2.set 17 (some (.int (farOf (twOf OS x) (twOf OS y))))) 15 (.str x) := at_set h15 (by decide)
    have i16 : At (σ2.set 17 (some (.int (farOf (twOf OS x) (twOf OS y))))) 16 (.str y) := at_set h16 (by decide)
    have i13 : At (σ2.set 17 (some (.int (farOf (twOf OS x) (twOf OS y))))) 13 (.ref la6) := at_set h13 (by decide)
    have i17 : At (σ2.set 17 (some (.int (farOf (twOf OS x) (twOf OS y))))) 17 (.int (farOf (twOf OS x) (twOf OS y))) := at_self (by rw [e1]; decide)
    obtain ⟨f1, f0, f2, f3, f5, f4⟩ := id sl8
    refine ⟨_, i13, _, i15, _, i16, _, i17, by show 3 ≤ sizeLine; decide, fun t1 ht1 => ?_⟩
    have A1 := (Le.refl LA.tab).new (o := .tup [.str x, .str y, .int (farOf (twOf OS x) (twOf OS y))]) ht1
    have ht7 : upd H6 t1 (.tup [.str x, .str y, .int (farOf (twOf OS x) (twOf OS y))]) t1 = some (.tup [.str x, .str y, .int (farOf (twOf OS x) (twOf OS y))]) := upd_same
    generalize upd H6 t1 (.tup [.str x, .str y, .int (farOf (twOf OS x) (twOf OS y))]) = H7 at A1 ht7 ⊢
    refine ⟨by show 1 ≤ sizeLine; decide, fun e he => ?_⟩
    have A2 := A1.new (o := .lst [.ref t1]) he
    have he8 : upd H7 e (.lst [.ref t1]) e = some (.lst [.ref t1]) := upd_same
    have ht8 := (upd_ne (o := .lst [.ref t1]) (ne_of_none ht7 he)).trans ht7
    generalize upd H7 e (.lst [.ref t1]) = H8 at A2 he8 ht8 ⊢
    have LB := LA.to A2
    refine ⟨_, f2, _, f5, _, i15, o, _, rfl, dget_of (f := tV) (A2.at ho6) lx, _, f5, _, i16, o, _, rfl, dget_of (f := tV) (A2.at ho6) ly, r, u, u2, rs, twOf OS x, twOf OS y, rfl, (O.to LB.le).grid, O.good, SqT.of (A2.at tx), SqT.of (A2.at ty), inx, iny, .inr ⟨_, rfl, ?_⟩⟩
    rw [lSees_eq inx iny]
    have lLL : L6L.length ≤ 60 := by
      have c1 := congrArg List.length m3
      rw [List.length_map, List.length_append] at c1
      have c2 := linksT_len rs OS (nsT OS) i
      have c3 := rowLk_len rs OS x (((nsT OS).drop (i + 1)).take j)
      rw [List.length_take, List.length_drop] at c3
      have c4 : i * (nsT OS).length ≤ 5 * 5 := Nat.mul_le_mul (by omega) (by omega)
      omega
    have erow : rowLk rs OS x (((nsT OS).drop (i + 1)).take (j + 1)) = rowLk rs OS x (((nsT OS).drop (i + 1)).take j) ++ (if seesB rs (twOf OS x) (twOf OS y) = true then [(x, y, farOf (twOf OS x) (twOf OS y))] else []) := by
      unfold rowLk
      rw [GX.take_snoc hy6, List.filter_append, List.map_append]
      by_cases e : seesB rs (twOf OS x) (twOf OS y) = true
      · rw [if_pos e, List.filter_cons_of_pos (by simpa using e)]; rfl
      · rw [if_neg e, List.filter_cons_of_neg (by simpa using e)]; rfl
    -- both ways, the list behind
    have way : ∀ (more : List (Addr × Lk3)) (H9 : Hp) (b : Addr), Le (T K) H8 H9 → H9 b = some (.lst (refsL more)) → isLinks H9 more → more.length ≤ 1 → more.map (·.2) = (if seesB rs (twOf OS x) (twOf OS y) = true then [(x, y, farOf (twOf OS x) (twOf OS y))] else []) →
        ∃ l' b' xs zs, V.ref la6 = V.ref l' ∧ V.ref b = V.ref b' ∧ H9 l' = some (.lst xs) ∧ H9 b' = some (.lst zs) ∧ xs.length + zs.length ≤ sizeLine ∧ ∀ p, H9 p = none →
          (Sl ((σ2.set 17 (some (.int (farOf (twOf OS x) (twOf OS y))))).set 13 (some (V.ref p))) d r n o na ∧ At ((σ2.set 17 (some (.int (farOf (twOf OS x) (twOf OS y))))).set 13 (some (V.ref p))) 15 (.str x) ∧ Le (T K) H5 (upd H9 p (.lst (xs ++ zs))) ∧ ∃ la L, At ((σ2.set 17 (some (.int (farOf (twOf OS x) (twOf OS y))))).set 13 (some (V.ref p))) 13 (.ref la) ∧ upd H9 p (.lst (xs ++ zs)) la = some (.lst (refsL L)) ∧ isLinks (upd H9 p (.lst (xs ++ zs))) L ∧ L.map (·.2) = linksT rs OS (nsT OS) i ++ rowLk rs OS x (((nsT OS).drop (i + 1)).take (j + 1))) := by
      intro more H9 b L9 hb hmore lmore emore
      have L59 := (L6.trans A2).trans L9
      have m1' := L9.at (A2.at m1)
      refine ⟨la6, b, _, _, rfl, rfl, m1', hb, ?_, fun p hp => ⟨sl8.set (by decide), at_set i15 (by decide), L59.new hp, p, L6L ++ more, at_self (by rw [f1]; decide), ?_, fun z hz => ?_, ?_⟩⟩
      · unfold refsL
        rw [List.length_map, List.length_map]
        exact Nat.le_trans (show L6L.length + more.length ≤ 64 by omega) (by decide)
      · rw [upd_same]
        unfold refsL
        rw [List.map_append]
      · have hz0 : H9 z.1 = some (.tup [.str z.2.1, .str z.2.2.1, .int z.2.2.2]) := by
          rcases List.mem_append.mp hz with hz | hz
          · exact L9.at (A2.at (m2 z hz))
          · exact hmore z hz
        exact (upd_ne (ne_of_none hz0 hp)).trans hz0
      · rw [List.map_append, m3, erow, emore, List.append_assoc]
    cases hse : seesB rs (twOf OS x) (twOf OS y) with
    | false =>
      refine ⟨_, _, _, rfl, rfl, he8, by decide, by decide, Nat.zero_le _, fun b hb => ?_⟩
      obtain ⟨l', b', xs, zs, z1, z2, z3, z4, z5, z6⟩ := way [] _ b ((Le.refl LB.tab).new hb) upd_same (fun x hx => by cases hx) (by decide) (by rw [hse]; rfl)
      exact ⟨l', b', xs, zs, z1, z2, z3, z4, z5, z6⟩
    | true =>
      refine ⟨_, _, _, rfl, rfl, he8, by decide, by decide, by show 1 * 1 ≤ sizeLine; decide, fun b hb => ?_⟩
      obtain ⟨l', b', xs, zs, z1, z2, z3, z4, z5, z6⟩ := way [(t1, x, y, farOf (twOf OS x) (twOf OS y))] _ b ((Le.refl LB.tab).new hb) upd_same (fun z hz => by
        rw [List.mem_singleton.mp hz]
        exact (upd_ne (ne_of_none ht8 hb)).trans ht8) (Nat.le_refl 1) (by rw [hse]; rfl)
      exact ⟨l', b', xs, zs, z1, z2, z3, z4, z5, z6⟩
  · rw [List.length_map, List.take_of_length_le (Nat.le_refl _)] at m3
    refine ⟨sl6, L5.trans L6, la6, L6L, g136, m1, m2, ?_⟩
    rw [m3, linksT_succ]
    have e : (nsT OS).getD i (S []) = x := GX.getD_of hx
    rw [e]
end
end K2

-- text GenX1
set_option maxRecDepth 100000
set_option maxHeartbeats 4000000
/-! GenX1: sum over a generator expression. -/
namespace GX
open PySem PySem.Spec PyProof.Rows L2 LamX GenW
section
variable {G : GD} {J : It} {tn : Nat → Heap → Prop} {n₀ : Nat} {W : Nat → List V → Hp → Prop} {A : Around} {R : Result → Shared → Prop}
abbrev sumGh (S : Addr) : Nat → Shared → List V → Prop := fun i s ys => ∃ (ns : List Int) (t : Tok) (c : Nat), ys = ns.map V.int ∧ s.heap.get? S = some (lstObj #[.int ns.sum t] c)
abbrev intYd : Nat → List V → V → Hp → Prop := fun _ _ y _ => ∃ n, y = .int n
theorem sum_snoc (ns : List Int) (n : Int) : (ns ++ [n]).sum = ns.sum + n := by rw [List.sum_append, List.sum_singleton]
theorem sum_loop (hA : G.A = A.in1.in1) (hh : A.handled = none) (hr : A.depth < recursionLimit) (hS : G.s.heap.objs.size ≤ G.S) (haS : G.S ≠ G.a) (hiG : ∀ h : Heap, h.get? G.a = some G.go → h.IsGen G.a G.g)
    (hF : ∀ (ns : List Int) (t : Tok) H s1 s2, G.at H s1 → W n₀ (ns.map V.int) H → s2.os = s1.os → AllBare s2.gens → (∀ b o, s1.heap.get? b = some o → s2.heap.get? b = some o) → R (.ok (.ret (.int ns.sum t))) s2) :
    ∀ (n : Nat) (s : Shared) (st : Int) (v0 : Value) (c0 : Nat), (st = 0 ∨ st = 2) → n ≠ 0 → s.heap.get? G.S = some (lstObj #[v0] c0) → G.Wait tn n₀ (sumGh G.S) W intYd yesCt n s → codeAny (model G.X.prog G.X.w) A (.builtin "sum.loop" ⟨[.ref G.a, .ref G.S, rawInt st, rawInt 0], []⟩) R s := by
  intro n
  induction n with
  | zero => exact fun _ _ _ _ _ h => absurd rfl h
  | succ n ih =>
    intro s st v0 c0 hst _ hS0 hw
    refine (codeAny_builtin F.entry_sum_loop ?_)
    rw [Around.under_plainId F.plain_sum_loop _]
    show wpAny _ A.in1 (seqItems? (.ref G.S) >>= _) _ _ s
    refine wpAny_bind (wpAny_seqItems hS0 rfl ?_)
    show wpAny _ A.in1 (tryCatch (pyNext (.ref G.a)) _ >>= _) _ _ s
    refine wpAny_bind (wpAny_tryCatch (next_gen (A := A.in1) (Nat.succ_ne_zero n) hS hA hh hr hiG hw (fun i ys y v H s1 gs' hi hlt hgh rv hat hb hk hyd hk2 => ?_) (fun ys H s1 s2 hn1 hgh hat hk hw2 ho hb hkp => ?_)))
    · obtain ⟨ns, t, c, hys, hSg⟩ := hgh
      have e0 := Option.some.inj (hSg.symm.trans hS0)
      have ev : v0 = .int ns.sum t := by injection e0 with _ _ e1 _; injection e1 with e2 _; have := congrArg Array.toList e2; simpa using this.symm
      subst ev
      have hS1 : s1.heap.get? G.S = some (lstObj #[.int ns.sum t] c0) := hk _ hS0
      obtain ⟨_, _, _, _, ga1, _⟩ := hat.facts
      obtain ⟨m, rfl⟩ := hyd
      obtain ⟨t2, rfl⟩ := rv
      have hn : n ≠ 0 := by omega
      have oth : ∀ (f : Obj → Obj) (h : Heap) b o, b ≠ G.S → h.get? b = some o → (h.update G.S f).get? b = some o := fun f h b o hb e => (Heap.get?_update_other _ _ (fun z => hb z.symm)).trans e
      -- the loop goes on, whatever way the sum was put down
      have next : ∀ (s' : Shared) (st' : Int) (t' : Tok) (c' : Nat), (st' = 0 ∨ st' = 2) → s'.os = s1.os → s'.gens = (s1.setGen G.g gs').gens → (∀ b o, b ≠ G.S → s1.heap.get? b = some o → s'.heap.get? b = some o) → s'.heap.get? G.S = some (lstObj #[.int (ns.sum + m) t'] c') →
          codeAny (model G.X.prog G.X.w) A (.builtin "sum.loop" ⟨[.ref G.a, .ref G.S, rawInt st', rawInt 0], []⟩) R s' := fun s' st' t' c' hst' ho hg hkk hS' => by
        refine ih s' st' _ c' hst' hn hS' (hk2 _ ⟨ho, by rw [hg]; exact hb, hkk, hkk _ _ (Ne.symm haS) ga1, ⟨_, hS', lst_cell⟩⟩ hg trivial ⟨ns ++ [m], t', c', ?_, ?_⟩)
        · rw [hys, List.map_append]
          rfl
        · rw [sum_snoc]
          exact hS'
      rcases hst with rfl | rfl
      · show wpAny _ A.in1 (if (_ : Bool) = true then (mkInt (ns.sum + m) >>= _) else _) _ _ _
        split
        · refine wpAny_bind (wpAny_mkInt ?_)
          show wpAny _ A.in1 (updateSeq G.S (fun _ => #[.int (ns.sum + m) s1.toks]) >>= _) _ _ _
          refine wpAny_bind ?_
          refine wpAny_updateSeq hS1 rfl (wpAny_pure ⟨plainId_quiet F.plain_sum_loop _, ?_⟩)
          exact next _ 0 _ _ (.inl rfl) rfl rfl (fun b o hb e => oth _ _ b o hb e) (Heap.get?_update_self _ hS1 rfl)
        · refine wpAny_bind (wpAny_rule ?_)
          refine wpAny_bind (wpAny_attempt (wpAny_holding (wpAny_add_int ?_)))
          show wpAny _ A.in1 (updateSeq G.S (fun _ => #[.int (ns.sum + m) s1.toks]) >>= _) _ _ _
          refine wpAny_bind (wpAny_updateSeq hS1 rfl ?_)
          have hS2 := Heap.get?_update_self (Obj.mapSeq fun _ => #[Value.int (ns.sum + m) s1.toks]) hS1 rfl
          refine wpAny_bind (wpAny_letGo ?_)
          refine wpAny_bind (wpAny_updateSeq hS2 rfl (wpAny_pure ⟨plainId_quiet F.plain_sum_loop _, ?_⟩))
          exact next _ 2 _ _ (.inr rfl) rfl rfl (fun b o hb e => oth _ _ b o hb (oth _ _ b o hb e)) (Heap.get?_update_self _ hS2 rfl)
      · show wpAny _ A.in1 ((holding [Value.int m t2] (binaryOp .Add (.int ns.sum t) (.int m t2))).attempt >>= _) _ _ _
        refine wpAny_bind (wpAny_attempt (wpAny_holding (wpAny_add_int ?_)))
        show wpAny _ A.in1 (updateSeq G.S (fun _ => #[.int (ns.sum + m) s1.toks]) >>= _) _ _ _
        refine wpAny_bind (wpAny_updateSeq hS1 rfl ?_)
        have hS2 := Heap.get?_update_self (Obj.mapSeq fun _ => #[Value.int (ns.sum + m) s1.toks]) hS1 rfl
        refine wpAny_bind (wpAny_letGo ?_)
        refine wpAny_bind (wpAny_updateSeq hS2 rfl (wpAny_pure ⟨plainId_quiet F.plain_sum_loop _, ?_⟩))
        exact next _ 2 _ _ (.inr rfl) rfl rfl (fun b o hb e => oth _ _ b o hb (oth _ _ b o hb e)) (Heap.get?_update_self _ hS2 rfl)
    · obtain ⟨ns, t, c, hys, hSg⟩ := hgh
      have e0 := Option.some.inj (hSg.symm.trans hS0)
      have ev : v0 = .int ns.sum t := by injection e0 with _ _ e1 _; injection e1 with e2 _; have := congrArg Array.toList e2; simpa using this.symm
      subst ev
      rw [hys] at hw2
      exact wpAny_pure (hF ns t H s1 s2 hat hw2 ho hb hkp)
end
def vint : V → Int
  | .int n => n
  | _ => 0
def vsum (ys : List V) : Int := (ys.map vint).sum
theorem vsum_snoc (ys : List V) (m : Int) : vsum (ys ++ [V.int m]) = vsum ys + m := by
  unfold vsum
  rw [List.map_append, List.sum_append]
  simp [vint]
theorem vsum_map (ns : List Int) : vsum (ns.map V.int) = ns.sum := by
  unfold vsum
  rw [List.map_map]
  congr 1
  exact List.map_id ns
/-- the reading of sum(elt for tg in iter) -/
def tGenSum (T : List (Addr × Str)) (wi : TI) (g : TG) (te : TE) (vs : List Nat) : TE := fun σ H Q => wi σ H fun J H1 => Tabs T H1 ∧ ∀ H2, ExtN H1 H2 → Tabs T H2 → (∀ b, H2 b = none → H1 b = none) →
  ∃ (n₀ : Nat) (W : Nat → Int → Hp → Prop), W 0 0 H2 ∧
    (∀ i a H, i < n₀ → W i a H → J.go i H ∧ ∀ x H', J.yld i H x H' → g x (wipe σ vs) H' fun σ2 H3 => wipe σ2 vs = wipe σ vs ∧ te σ2 H3 fun y H4 => ∃ m, y = .int m ∧ W (i + 1) (a + m) H4) ∧
    (∀ a H, W n₀ a H → J.stop n₀ H ∧ Q (.int a) H)
section
variable {X : Cx}
theorem boot_sum2 : bootBuiltins "sum" = some (.builtin "sum") := by decide +kernel
theorem pe_genSum {T : List (Addr × Str)} {c P : Addr} {own : List (Str × Nat)} {tg iter elt : Expr} {scope : Scope} {gpos p pos : Pos} {wi : TI} {g : TG} {te : TE} {k : Nat}
    (hr : Room (k + 1) X.A) (hgl : Gl X "sum") (hm : X.mg "sum" = none) (hN : X.N.Nodup) (TB : TabB X.base X.mg c P) (hcode : X.env.code = .ref c) (hmT : (P, X.env.qual ++ "<genexpr>") ∈ T) (hu : ∀ p ∈ T, p.1 = P → p.2 = X.env.qual ++ "<genexpr>")
    (hi : PI X tg iter wi) (ok : GSc X.N X.env.scope scope own)
    (hg : ∀ (A : Around) (s : Shared) (H : Hp) (code : Value) (ex : List Addr), PG (gcx X A s H scope code ex) tg g) (he : ∀ (A : Around) (s : Shared) (H : Hp) (code : Value) (ex : List Addr), Room k (gcx X A s H scope code ex).A → PE (gcx X A s H scope code ex) elt te)
    (hs : ∀ v, genFold iter X.env v = pure v := by intro _; rfl)
    (hst : starEach [.GeneratorExp elt [⟨tg, iter, [], 0⟩] scope gpos] X.env = (false, eval (.GeneratorExp elt [⟨tg, iter, [], 0⟩] scope gpos) X.env) :: starEach [] X.env := by rfl) :
    PE X (.Call (.Name "sum" p) [.GeneratorExp elt [⟨tg, iter, [], 0⟩] scope gpos] [] pos) (tGenSum T wi g te (own.map (·.2))) := by
  refine ⟨fun pins s σ H Q I h => ?_⟩
  refine wpAny_Call_Name_kw (ld_blt I hgl hm boot_sum2 ?_)
  refine PyProof.Rows.callWith_builtin1 ?_ hst (by rfl)
  rw [hst]
  show wpAny _ _ (spliced ((false, eval (Expr.GeneratorExp elt [⟨tg, iter, [], 0⟩] scope gpos) X.env) :: backTo pos (starEach [] X.env))) _ _ s
  refine Calls.spliced_cons (gen_make I hi ok TB hcode hmT hu hr.depth hs h fun J H1 H2 it fp tn code a go gi s4 s5 hR hE hT hno M => ?_)
  refine Calls.spliced_nil ?_
  obtain ⟨n₀, W, w0, step, stop⟩ := hR H2 hE hT hno
  let WV : Nat → List V → Hp → Prop := fun i ys H => W i (vsum ys) H
  let G : GD := ⟨X, X.A.in1.in1, s4, H2, scope, code, fp, a, go, gi, s5.heap.objs.size, wipe σ (own.map (·.2))⟩
  have P0 : Turns G J g te (own.map (·.2)) n₀ WV intYd yesCt (fun i ys y H => ∃ m, y = .int m ∧ W (i + 1) (vsum ys + m) H) := by
    refine ⟨fun i ys H hi hw => step i _ H hi hw, fun i ys y H hi hp => ?_, fun ys H hw => (stop _ H hw).1⟩
    obtain ⟨m, rfl, hq⟩ := hp
    exact ⟨⟨m, rfl⟩, fun _ => by show W (i + 1) (vsum (ys ++ [V.int m])) H; rw [vsum_snoc]; exact hq⟩
  refine call_function_tree F.kind_sum F.plain_sum F.entry_sum (F.args_sum1 _) ?_
  unfold Builtin.«sum»
  simp only [List.length_cons, List.length_nil]
  rw [if_neg (by decide)]
  refine wpAny_bind (wpAny_of_eq (show Builtin.Builtins.bindParams "sum" ["start"] 0 { } = pure [none] from rfl) ?_)
  refine wpAny_bind (wpAny_pyIter_gen (M.isG _ M.ga) ?_)
  refine wpAny_bind (wpAny_mkInt ?_)
  refine wpAny_bind (wpAny_pure ?_)
  simp only [List.forIn_cons, List.forIn_nil]
  refine wpAny_bind (wpAny_bind (wpAny_bind (wpAny_isInstance (T := "int") (b := false) (typeIs_int _ _ _) PySem.sub_int_str ?_)))
  simp only [Bool.false_eq_true, if_false]
  refine wpAny_pure (wpAny_bind (wpAny_bind (wpAny_isInstance (T := "int") (b := false) (typeIs_int _ _ _) PySem.sub_int_bytes ?_)))
  simp only [Bool.false_eq_true, if_false]
  refine wpAny_pure (wpAny_bind (wpAny_bind (wpAny_isInstance (T := "int") (b := false) (typeIs_int _ _ _) PySem.sub_int_bytearray ?_)))
  simp only [Bool.false_eq_true, if_false]
  refine wpAny_pure (wpAny_pure ?_)
  refine wpAny_bind (wpAny_newObj_type ?_)
  refine wpAny_pure ⟨plainId_quiet F.plain_sum_loop _, ?_⟩
  refine sum_loop (G := G) (A := X.A) (W := WV) (n₀ := n₀) (tn := tn) rfl hr.hd hr.depth (Nat.le_of_lt (Nat.lt_trans M.lt M.ltS)) (Nat.ne_of_gt M.ltS) M.isG (fun ns t H' s1 s2 hat hw ho hb hk => ?_) (n₀ + 1) _ 0 _ 0 (.inl rfl) (Nat.succ_ne_zero _) (Heap.get?_push_size _ rfl) ?_
  · have hw : W n₀ (vsum (ns.map V.int)) H' := hw
    rw [vsum_map] at hw
    obtain ⟨oS, hc, J'⟩ := hat
    exact ⟨.int ns.sum, H', gen_back M.inv J' (fun b hb => (M.fps b hb).1) ho hk hb, ⟨t, rfl⟩, (stop _ H' hw).2⟩
  · exact made_wait M ok hN hr.hd M.inv.ok.frames (hg _ _ _ _ _) (he _ _ _ _ _ (room_gen2 hr _)) P0 rfl rfl (fun b o e => Heap.get?_push_of_some _ e) (Heap.get?_push_size _ rfl) lst_cell (Nat.lt_trans M.lt M.ltS) ⟨[], s5.toks, 0, rfl, Heap.get?_push_size _ rfl⟩ w0
end
end GX

-- text GenY
set_option maxRecDepth 100000
set_option maxHeartbeats 4000000
/-! GenY: generator expressions with two clauses. -/
namespace GX
open PySem PySem.Spec PyProof.Rows L2 LamX GenW
abbrev gen2 (elt tg iter tg1 iter1 : Expr) (scope : Scope) (pos : Pos) : Expr := .GeneratorExp elt [⟨tg, iter, [], 0⟩, ⟨tg1, iter1, [], 0⟩] scope pos
theorem over_in {A : Around} {elt : Expr} {gs : List Comprehension} {scope : Scope} {pos p : Pos} {it it0 acc : Value} {env : Env} {k : Result → Sem Fin} :
    A.over (.compLoop (.GeneratorExp elt gs scope pos) 1 it acc env) [.ret k none false [] (.compLoop (.GeneratorExp elt gs scope pos) 0 it0 acc env) p []] = A.deeper env := by
  obtain ⟨a, b, c, d, e⟩ := A
  simp [Around.over, Around.deeper, marksOver, markOver, frameCount, unitsOf, envsOf, guardsOf, pushEnvs, pushGuards, Code.envs, Code.env?, Code.isFrame, Code.guards, Code.isGuard, Code.weight, Code.frames, Code.isCreation, Code.isCaller, Code.cUnits, Frame.where_, Frame.marks]
theorem over_inS {A : Around} {elt : Expr} {gs : List Comprehension} {scope : Scope} {pos p : Pos} {it it0 acc : Value} {env : Env} {k : Result → Sem Fin} :
    A.over (.compStart (.GeneratorExp elt gs scope pos) 1 it acc env) [.ret k none false [] (.compLoop (.GeneratorExp elt gs scope pos) 0 it0 acc env) p []] = A.deeper env := by
  obtain ⟨a, b, c, d, e⟩ := A
  simp [Around.over, Around.deeper, marksOver, markOver, frameCount, unitsOf, envsOf, guardsOf, pushEnvs, pushGuards, Code.envs, Code.env?, Code.isFrame, Code.guards, Code.isGuard, Code.weight, Code.frames, Code.isCreation, Code.isCaller, Code.cUnits, Frame.where_, Frame.marks]
theorem over_out {A : Around} {elt : Expr} {gs : List Comprehension} {scope : Scope} {pos : Pos} {it acc : Value} {env : Env} : A.over (.compLoop (.GeneratorExp elt gs scope pos) 0 it acc env) [] = A.deeper env := over_gen
theorem turn2_0 (elt tg iter tg1 iter1 : Expr) (scope : Scope) (pos : Pos) (it acc : Value) (env : Env) : compTurn (gen2 elt tg iter tg1 iter1 scope pos) 0 it acc env = (do
      standAt iter.pos
      match ← pyNext it with
      | none => pure (.done .next)
      | some v =>
        letOwnedTupleGo tg it v
        assign tg env v
        let mut ok := true
        for c in ([] : List Expr) do
          if ok then ok ← isTrue c env (eval c env)
        if ok then
          let x ← eval iter1 env
          standAt iter1.pos
          let x ← foldedSetIterable iter1 env x
          let _ ← runOwn (.compStart (gen2 elt tg iter tg1 iter1 scope pos) 1 (← holding [x] (pyIter x)) acc env) env
        again (.compLoop (gen2 elt tg iter tg1 iter1 scope pos) 0 it acc env)) := by
  rfl
theorem turn2_1 (elt tg iter tg1 iter1 : Expr) (scope : Scope) (pos : Pos) (it acc : Value) (env : Env) : compTurn (gen2 elt tg iter tg1 iter1 scope pos) 1 it acc env = (do
      standAt iter1.pos
      match ← pyNext it with
      | none => pure (.done .next)
      | some v =>
        letOwnedTupleGo tg1 it v
        assign tg1 env v
        let mut ok := true
        for c in ([] : List Expr) do
          if ok then ok ← isTrue c env (eval c env)
        if ok then
          (do let v ← eval elt env; standAt elt.pos; let _ ← yieldOut env v)
        again (.compLoop (gen2 elt tg iter tg1 iter1 scope pos) 1 it acc env)) := by
  rfl
theorem seg_runOwn {M : Model} {A : Around} {R : GenEnd} {Y : Protocol} {n : Nat} {s₀ s : Shared} {c c' : Code} {env : Env} {fs : List Frame} {K : Flow → Sem Fin} {H : Value → Sem Fin} {gd : Bool → Bool} {lv : List Value → List Value}
    (h : ∀ p, Seg M A R Y n s₀ c' (M.den c') (.ret (fun r => ((match r with | .ok f => (.pure f : Sem Flow) | .error e => .raise e).onRaise fun (x : Value) => do
        if (← field x 1) == Value.none then unsupported "frame.own-activation:exception-without-traceback"
        setFlight x env.frame).wrap K H gd lv) none (gd false) (lv []) c p [] :: fs) s) : Seg M A R Y n s₀ c ((runOwn c' env).wrap K H gd lv) fs s := seg_call h
/-- one turn's promise; the inner clause's own turns within -/
structure Turns2 (G : GD) (J : It) (g : TG) (wi1 : TI) (g1 : TG) (te : TE) (vs vs1 : List Nat) (no N : Nat) (W : Nat → List V → Hp → Prop) (Wf : List V → Hp → Prop) (Yd : V → Prop) : Prop where
  step : ∀ i ys H, i < no → W i ys H → J.go i H ∧ ∀ x H', J.yld i H x H' → g x G.σ H' fun σ2 H2 => wipe σ2 vs = G.σ ∧ wi1 σ2 H2 fun J1 H4 => ∃ (m : Nat) (U : Nat → List V → Hp → Prop), U 0 ys H4 ∧
    (∀ j ys H, j < m → U j ys H → ys.length < N ∧ J1.go j H ∧ ∀ x H', J1.yld j H x H' → g1 x (wipe σ2 vs1) H' fun σ3 H5 => wipe σ3 vs1 = wipe σ2 vs1 ∧ te σ3 H5 fun y H6 => Yd y ∧ U (j + 1) (ys ++ [y]) H6) ∧
    (∀ ys H, U m ys H → J1.stop m H ∧ W (i + 1) ys H)
  stop : ∀ ys H, W no ys H → J.stop no H ∧ ys.length = N ∧ Wf ys H
section
variable {G : GD} {elt tg iter tg1 iter1 : Expr} {pos : Pos} {vs vs1 : List Nat} {J : It} {g g1 : TG} {wi1 : TI} {te : TE} {it : Addr} {tn : Nat → Heap → Prop} {no N : Nat} {Gh : Nat → Shared → List V → Prop} {W : Nat → List V → Hp → Prop} {Wf : List V → Hp → Prop} {Yd : V → Prop}
abbrev yd2 (Yd : V → Prop) : Nat → List V → V → Hp → Prop := fun _ _ y _ => Yd y
abbrev we2 (Wf : List V → Hp → Prop) : Nat → List V → Hp → Prop := fun _ ys H => Wf ys H
theorem GD.at.setσ {σ' : L2.St} {H : Hp} {s : Shared} (h : GD.at { G with σ := σ' } H s) (hl : G.σ.length = σ'.length) (w : ∀ (i : Nat) v, G.σ[i]? = some (some v) → σ'[i]? = some (some v)) : G.at H s := by
  obtain ⟨oS, hc, I⟩ := h
  exact ⟨oS, hc, Inv.weak (X := G.cx) I hl w⟩
/-- the inner clause's turns -/
theorem seg_inner {J1 : It} {fp1 : List Addr} {it1 : Addr} {tn1 : Nat → Heap → Prop} {σ2 : L2.St} {m : Nat} {U : Nat → List V → Hp → Prop} {kf : Result → Sem Fin} {pf : Pos} {i : Nat}
    (T : Turn G.X.prog G.X.w G.X.K tg J G.fp it tn) (T1 : Turn G.X.prog G.X.w G.X.K tg1 J1 fp1 it1 tn1) (hg1 : PG G.cx tg1 g1) (he : PE G.cx elt te) (hco : G.scope.isCoroutine = false) (hS : G.s.heap.objs.size ≤ G.S)
    (haS : ∀ b ∈ G.fp, b ≠ G.a ∧ b ≠ G.S) (st1 : ∀ b ∈ fp1, b ≠ G.cx.env.locals ∧ b ∉ G.cx.fs ∧ (b ∈ G.cx.ex ∨ G.cx.s_0.heap.objs.size ≤ b) ∧ (∀ x c, G.cx.env.cells.lookup x = some c → c ≠ b) ∧ b ≠ G.a ∧ b ≠ G.S ∧ b ∉ G.fp)
    (hσ : wipe (wipe σ2 vs1) vs = G.σ)
    (step : ∀ j ys H, j < m → U j ys H → ys.length < N ∧ J1.go j H ∧ ∀ x H', J1.yld j H x H' → g1 x (wipe σ2 vs1) H' fun σ3 H5 => wipe σ3 vs1 = wipe σ2 vs1 ∧ te σ3 H5 fun y H6 => Yd y ∧ U (j + 1) (ys ++ [y]) H6)
    (stop : ∀ ys H, U m ys H → J1.stop m H)
    (cont : ∀ (n : Nat) (s₀ s : Shared) (ys : List V) (H : Hp), ys.length + n = N + 1 → Gh ys.length s₀ ys → G.at H s → tn i s.heap → (∀ b ∈ G.fp, H b = none) → (∀ o, s₀.heap.get? G.S = some o → s.heap.get? G.S = some o) → U m ys H →
      Seg (model G.X.prog G.X.w) G.A (fun n s₀ r s₁ => r = .ok .next ∧ G.E N Gh (we2 Wf) n s₀ s₁) (G.Y tn N Gh (yd2 Yd) yesCt) n s₀ (.compLoop (gen2 elt tg iter tg1 iter1 G.scope pos) 0 (.ref it) .none G.cx.env) (kf (.ok .next)) [] s) :
    ∀ (l j : Nat) (n : Nat) (s₀ s : Shared) (ys : List V) (H : Hp), j + l = m → ys.length + n = N + 1 → Gh ys.length s₀ ys → GD.at { G with σ := wipe σ2 vs1 } H s → tn i s.heap → tn1 j s.heap → (∀ b ∈ G.fp, H b = none) → (∀ b ∈ fp1, H b = none) →
      (∀ o, s₀.heap.get? G.S = some o → s.heap.get? G.S = some o) → U j ys H →
      Seg (model G.X.prog G.X.w) G.A (fun n s₀ r s₁ => r = .ok .next ∧ G.E N Gh (we2 Wf) n s₀ s₁) (G.Y tn N Gh (yd2 Yd) yesCt) n s₀ (.compLoop (gen2 elt tg iter tg1 iter1 G.scope pos) 1 (.ref it1) .none G.cx.env)
        ((model G.X.prog G.X.w).den (.compLoop (gen2 elt tg iter tg1 iter1 G.scope pos) 1 (.ref it1) .none G.cx.env)) [.ret kf none false [] (.compLoop (gen2 elt tg iter tg1 iter1 G.scope pos) 0 (.ref it) .none G.cx.env) pf []] s := by
  have hov : G.A.over (.compLoop (gen2 elt tg iter tg1 iter1 G.scope pos) 1 (.ref it1) .none G.cx.env) [.ret kf none false [] (.compLoop (gen2 elt tg iter tg1 iter1 G.scope pos) 0 (.ref it) .none G.cx.env) pf []] = G.cx.A := over_in
  have fpokO : ∀ {oS : Obj} {σ' : L2.St} {H' : Hp} {s' : Shared}, Inv G.cx [(G.a, G.go), (G.S, oS)] σ' H' s' → (∀ b ∈ G.fp, H' b = none) → ∀ b ∈ G.fp, FpOk G.cx [(G.a, G.go), (G.S, oS)] H' b := fun {oS σ' H' s'} I' hn b hb =>
    ⟨hn b hb, (I'.ok.exf b hb).1, I'.ok.exfs b hb, .inl hb, fun x c e => (I'.ok.exf b hb).2 x c e, fun p hp => by
      have hp : p ∈ [(G.a, G.go), (G.S, oS)] := hp
      rcases List.mem_cons.mp hp with z | z
      · rw [z]; exact fun q => (haS b hb).1 q.symm
      · rw [List.mem_singleton.mp z]; exact fun q => (haS b hb).2 q.symm⟩
  have fpok1 : ∀ {oS : Obj} {h : Heap} {H' : Hp}, (∀ b ∈ fp1, H' b = none) → ∀ b ∈ fp1, FpOk G.cx ([(G.a, G.go), (G.S, oS)] ++ pinsAt G.fp h) H' b := fun {oS h H'} hn b hb => by
    obtain ⟨k1, k2, k3, k4, k5, k6, k7⟩ := st1 b hb
    refine ⟨hn b hb, k1, k2, k3, k4, fun p hp => ?_⟩
    rcases List.mem_append.mp (show p ∈ [(G.a, G.go), (G.S, oS)] ++ pinsAt G.fp h from hp) with hp | hp
    · rcases List.mem_cons.mp hp with z | z
      · rw [z]; exact fun q => k5 q.symm
      · rw [List.mem_singleton.mp z]; exact fun q => k6 q.symm
    · exact fun q => k7 (by rw [← q]; exact (of_pinsAt hp).1)
  have lσ : G.σ.length = (wipe σ2 vs1).length := by rw [← hσ, wipe_length]
  have wσ : ∀ (i : Nat) v, G.σ[i]? = some (some v) → (wipe σ2 vs1)[i]? = some (some v) := fun i v e => by
    rw [← hσ] at e
    exact (wipe_some e).1
  intro l
  induction l with
  | zero =>
    intro j n s₀ s ys H hj hn hgh hat ht ht1 hO h1 hkS hU
    have hjm : j = m := by omega
    subst hjm
    show Seg _ G.A _ _ _ s₀ _ ((compTurn (gen2 elt tg iter tg1 iter1 G.scope pos) 1 (.ref it1) .none G.cx.env).onRaise _) _ s
    rw [turn2_1, Sem.onRaise_eq_wrap]
    refine seg_bind_wrap (wpAny_standAt ?_)
    obtain ⟨oS, hc, I⟩ := hat
    have I : Inv G.cx [(G.a, G.go), (G.S, oS)] (wipe σ2 vs1) H s := I
    have IP := I.pinned (fpokO I hO) (T.obj _ _ ht)
    refine seg_bind_wrap ?_
    rw [hov]
    refine thnZ (T1.done G.cx rfl rfl rfl rfl j _ s _ H (fun _ _ => False) IP (fpok1 h1) ht1 (stop ys H hU)) fun r s6 ⟨hr, I6⟩ => ?_
    subst hr
    have pS := (I.pin (G.S, oS) (List.mem_append_right _ (List.mem_cons_of_mem _ List.mem_cons_self))).1
    have pS6 := (I6.pin (G.S, oS) (List.mem_append_right _ (List.mem_append_left _ (List.mem_cons_of_mem _ List.mem_cons_self)))).1
    have I6' : Inv G.cx [(G.a, G.go), (G.S, oS)] G.σ H s6 := (I6.unpinned).weak lσ wσ
    refine seg_leaf (.ok .next) (cont n s₀ s6 ys H hn hgh ⟨oS, hc, I6'⟩ (T.keep _ _ _ ht fun b hb o e => (I6.pin (b, o) (List.mem_append_right _ (List.mem_append_right _ (mem_pinsAt hb e)))).1) hO (fun o ho => ?_) hU)
    have := hkS o ho
    rw [pS] at this
    rw [← this]
    exact pS6
  | succ l ih =>
    intro j n s₀ s ys H hj hn hgh hat ht ht1 hO h1 hkS hU
    obtain ⟨hlt, hgo, hst⟩ := step j ys H (by omega) hU
    show Seg _ G.A _ _ _ s₀ _ ((compTurn (gen2 elt tg iter tg1 iter1 G.scope pos) 1 (.ref it1) .none G.cx.env).onRaise _) _ s
    rw [turn2_1, Sem.onRaise_eq_wrap]
    refine seg_bind_wrap (wpAny_standAt ?_)
    obtain ⟨oS, hc, I⟩ := hat
    have I : Inv G.cx [(G.a, G.go), (G.S, oS)] (wipe σ2 vs1) H s := I
    have IP := I.pinned (fpokO I hO) (T.obj _ _ ht)
    refine seg_bind_wrap ?_
    rw [hov]
    refine thnZ (T1.item G.cx rfl rfl rfl rfl j _ s _ H (fun _ _ => False) IP (fpok1 h1) ht1 hgo) fun r s6 ⟨u, hr, h6⟩ => ?_
    subst hr
    refine seg_bind_wrap ?_
    rw [hov]
    refine thnZ h6 fun _ s7 ⟨x, H7, I7, r7, y7, st7, n7⟩ => ?_
    refine seg_bind_wrap ?_
    rw [hov]
    refine thnZ (hg1.run _ s7 _ H7 x u _ (I7.pinned (fpok1 n7) (T1.obj _ _ st7)) r7 (hst x H7 y7)) fun _ s8 ⟨σ8, H8, I8, hw8, q8⟩ => ?_
    refine seg_bind_wrap (wpAny_tests_nil ?_)
    have hy : ∀ v, yieldOut G.cx.env v = yieldValue v := fun v => by
      have hco' : G.cx.env.scope.isCoroutine = false := hco
      simp only [yieldOut, hco', Bool.false_eq_true, if_false]
    simp only [if_true, hy]
    rw [Sem.bind_eq_wrap', Sem.bind_eq_wrap', Sem.wrap_wrap, Sem.wrap_wrap]
    refine seg_wrap ?_
    rw [hov]
    refine thnZ (he.run _ s8 σ8 H8 _ I8 q8) fun v s9 ⟨yv, H9, I9, r9, hyd, hU9⟩ => ?_
    have pin9 : ∀ p ∈ [(G.a, G.go), (G.S, oS)] ++ pinsAt G.fp s.heap, s9.heap.get? p.1 = some p.2 ∧ H9 p.1 = none ∧ p.1 ≠ G.cx.env.locals ∧ p.1 ∉ G.cx.fs ∧ ∀ v, p.2.data ≠ .cell v := fun p hp => I9.pin p (List.mem_append_right _ (List.mem_append_left _ hp))
    have I9' : Inv G.cx [(G.a, G.go), (G.S, oS)] (wipe σ2 vs1) H9 s9 := (I9.pins_of (pins' := [(G.a, G.go), (G.S, oS)]) fun p hp => pin9 p (List.mem_append_left _ hp)).weak (by rw [← hw8, wipe_length]) fun j v e => by
      rw [← hw8] at e
      exact (wipe_some e).1
    have pS := (I.pin (G.S, oS) (List.mem_append_right _ (List.mem_cons_of_mem _ List.mem_cons_self))).1
    have pS9 := (I9'.pin (G.S, oS) (List.mem_append_right _ (List.mem_cons_of_mem _ List.mem_cons_self))).1
    have A9 : GD.at { G with σ := wipe σ2 vs1 } H9 s9 := ⟨oS, hc, I9'⟩
    have t9 : tn i s9.heap := T.keep _ _ _ ht fun b hb o e => (pin9 (b, o) (List.mem_append_right _ (mem_pinsAt hb e))).1
    have n9 : ∀ b ∈ G.fp, H9 b = none := fun b hb => by
      obtain ⟨o, e, _⟩ := T.obj _ _ ht b hb
      exact (pin9 (b, o) (List.mem_append_right _ (mem_pinsAt hb e))).2.1
    have pin1 : ∀ b ∈ fp1, ∀ o, s7.heap.get? b = some o → s9.heap.get? b = some o ∧ H9 b = none := fun b hb o e =>
      let z := I9.pin (b, o) (List.mem_append_right _ (List.mem_append_right _ (mem_pinsAt hb e)))
      ⟨z.1, z.2.1⟩
    have t19 : tn1 (j + 1) s9.heap := T1.keep _ _ _ st7 fun b hb o e => (pin1 b hb o e).1
    have n19 : ∀ b ∈ fp1, H9 b = none := fun b hb => by
      obtain ⟨o, e, _⟩ := T1.obj _ _ st7 b hb
      exact (pin1 b hb o e).2
    obtain ⟨n', rfl⟩ : ∃ n', n = n' + 1 := ⟨n - 1, by omega⟩
    refine seg_at (seg_yield rfl rfl rfl ⟨ys.length, ys, yv, H9, by omega, hlt, hgh, r9, A9.setσ lσ wσ, fun o ho => ?_, hyd, fun s' hr hc' hgh' => ?_⟩)
    · have := hkS o ho
      rw [pS] at this
      rw [← this]
      exact pS9
    · have A' : GD.at { G with σ := wipe σ2 vs1 } H9 s' := A9.woken hS ⟨hr.os, hr.bare, hr.keep, hr.ga, hr.gs⟩
      refine seg_again rfl (ih (j + 1) n' s' s' (ys ++ [yv]) H9 (by omega) (by rw [List.length_append, List.length_singleton]; omega) (by rw [List.length_append, List.length_singleton]; exact hgh') A' (T.keep _ _ _ t9 fun b hb o e => hr.keep b o (haS b hb).2 e)
        (T1.keep _ _ _ t19 fun b hb o e => hr.keep b o (st1 b hb).2.2.2.2.2.1 e) n9 n19 (fun o ho => ho) hU9)
/-- the outer clause's turns -/
theorem seg_outer (T : Turn G.X.prog G.X.w G.X.K tg J G.fp it tn) (hg : PG G.cx tg g) (hi1 : PI G.cx tg1 iter1 wi1) (hg1 : PG G.cx tg1 g1) (he : PE G.cx elt te) (hco : G.scope.isCoroutine = false) (hS : G.s.heap.objs.size ≤ G.S)
    (haS : ∀ b ∈ G.fp, b ≠ G.a ∧ b ≠ G.S) (hsf : ∀ x, foldedSetIterable iter1 G.cx.env x = pure x) (hv : ∀ σ : L2.St, wipe (wipe σ vs1) vs = wipe σ vs) (P : Turns2 G J g wi1 g1 te vs vs1 no N W Wf Yd) :
    ∀ (k i : Nat) (n : Nat) (s₀ s : Shared) (ys : List V) (H : Hp), i + k = no → ys.length + n = N + 1 → Gh ys.length s₀ ys → G.at H s → tn i s.heap → (∀ b ∈ G.fp, H b = none) → (∀ o, s₀.heap.get? G.S = some o → s.heap.get? G.S = some o) → W i ys H →
      Seg (model G.X.prog G.X.w) G.A (fun n s₀ r s₁ => r = .ok .next ∧ G.E N Gh (we2 Wf) n s₀ s₁) (G.Y tn N Gh (yd2 Yd) yesCt) n s₀ (.compLoop (gen2 elt tg iter tg1 iter1 G.scope pos) 0 (.ref it) .none G.cx.env)
        ((model G.X.prog G.X.w).den (.compLoop (gen2 elt tg iter tg1 iter1 G.scope pos) 0 (.ref it) .none G.cx.env)) [] s := by
  have hov : G.A.over (.compLoop (gen2 elt tg iter tg1 iter1 G.scope pos) 0 (.ref it) .none G.cx.env) [] = G.cx.A := over_out
  have fpok : ∀ {oS : Obj} {σ' : L2.St} {H' : Hp} {s' : Shared}, Inv G.cx [(G.a, G.go), (G.S, oS)] σ' H' s' → (∀ b ∈ G.fp, H' b = none) → ∀ b ∈ G.fp, FpOk G.cx [(G.a, G.go), (G.S, oS)] H' b := fun {oS σ' H' s'} I' hn b hb =>
    ⟨hn b hb, (I'.ok.exf b hb).1, I'.ok.exfs b hb, .inl hb, fun x c e => (I'.ok.exf b hb).2 x c e, fun p hp => by
      have hp : p ∈ [(G.a, G.go), (G.S, oS)] := hp
      rcases List.mem_cons.mp hp with z | z
      · rw [z]; exact fun q => (haS b hb).1 q.symm
      · rw [List.mem_singleton.mp z]; exact fun q => (haS b hb).2 q.symm⟩
  intro k
  induction k with
  | zero =>
    intro i n s₀ s ys H hi hn hgh hat ht hO hkS hW
    have him : i = no := by omega
    subst him
    obtain ⟨hstop, hlen, hwf⟩ := P.stop ys H hW
    show Seg _ G.A _ _ _ s₀ _ ((compTurn (gen2 elt tg iter tg1 iter1 G.scope pos) 0 (.ref it) .none G.cx.env).onRaise _) _ s
    rw [turn2_0, Sem.onRaise_eq_wrap]
    refine seg_bind_wrap (wpAny_standAt ?_)
    obtain ⟨oS, hc, I⟩ := hat
    refine seg_bind_wrap ?_
    rw [hov]
    refine thnZ (T.done G.cx rfl rfl rfl rfl i _ s _ H (fun _ _ => False) I (fpok I hO) ht hstop) fun r s6 ⟨hr, I6⟩ => ?_
    subst hr
    have pS := (I.pin (G.S, oS) (List.mem_append_right _ (List.mem_cons_of_mem _ List.mem_cons_self))).1
    have pS6 := (I6.pin (G.S, oS) (List.mem_append_right _ (List.mem_cons_of_mem _ List.mem_cons_self))).1
    rw [hlen] at hgh
    refine seg_end (.ok .next) ⟨rfl, by omega, ys, H, hgh, ⟨oS, hc, I6⟩, fun o ho => ?_, hwf⟩
    have := hkS o ho
    rw [pS] at this
    rw [← this]
    exact pS6
  | succ k ih =>
    intro i n s₀ s ys H hi hn hgh hat ht hO hkS hW
    obtain ⟨hgo, hst⟩ := P.step i ys H (by omega) hW
    show Seg _ G.A _ _ _ s₀ _ ((compTurn (gen2 elt tg iter tg1 iter1 G.scope pos) 0 (.ref it) .none G.cx.env).onRaise _) _ s
    rw [turn2_0, Sem.onRaise_eq_wrap]
    refine seg_bind_wrap (wpAny_standAt ?_)
    obtain ⟨oS, hc, I⟩ := hat
    refine seg_bind_wrap ?_
    rw [hov]
    refine thnZ (T.item G.cx rfl rfl rfl rfl i _ s _ H (fun _ _ => False) I (fpok I hO) ht hgo) fun r s6 ⟨u, hr, h6⟩ => ?_
    subst hr
    refine seg_bind_wrap ?_
    rw [hov]
    refine thnZ h6 fun _ s7 ⟨x, H7, I7, r7, y7, st7, n7⟩ => ?_
    refine seg_bind_wrap ?_
    rw [hov]
    refine thnZ (hg.run _ s7 _ H7 x u _ (I7.pinned (fpok I7 n7) (T.obj _ _ st7)) r7 (hst x H7 y7)) fun _ s8 ⟨σ8, H8, I8, hw8, q8⟩ => ?_
    refine seg_bind_wrap (wpAny_tests_nil ?_)
    simp only [if_true]
    refine seg_bind_wrap ?_
    rw [hov]
    refine thnZ (hi1.run _ s8 σ8 H8 _ I8 q8) fun xv s9 hx => ?_
    refine seg_bind_wrap (wpAny_standAt ?_)
    rw [hsf]
    refine seg_bind_wrap (wpAny_pure ?_)
    refine seg_bind_wrap ?_
    rw [hov]
    refine wpAny_holding (thnZ hx fun itv s10 hx2 => ?_)
    obtain ⟨it1, fp1, tn1, J1, H10, e, I10, T1, t10, f10, m, U, hU0, step1, stop1⟩ := hx2
    subst e
    have pinO : ∀ p ∈ [(G.a, G.go), (G.S, oS)] ++ pinsAt G.fp s7.heap, s10.heap.get? p.1 = some p.2 ∧ H10 p.1 = none ∧ p.1 ≠ G.cx.env.locals ∧ p.1 ∉ G.cx.fs ∧ ∀ v, p.2.data ≠ .cell v := fun p hp => I10.pin p (List.mem_append_right _ hp)
    have n10 : ∀ b ∈ G.fp, H10 b = none := fun b hb => by
      obtain ⟨o, e, _⟩ := T.obj _ _ st7 b hb
      exact (pinO (b, o) (List.mem_append_right _ (mem_pinsAt hb e))).2.1
    have tO : tn (i + 1) s10.heap := T.keep _ _ _ st7 fun b hb o e => (pinO (b, o) (List.mem_append_right _ (mem_pinsAt hb e))).1
    have pS := (I.pin (G.S, oS) (List.mem_append_right _ (List.mem_cons_of_mem _ List.mem_cons_self))).1
    have I10' : Inv G.cx [(G.a, G.go), (G.S, oS)] (wipe σ8 vs1) H10 s10 := (I10.pins_of (pins' := [(G.a, G.go), (G.S, oS)]) fun p hp => pinO p (List.mem_append_left _ hp)).weak (by rw [wipe_length]) fun j v e => (wipe_some e).1
    have pS10 := (I10'.pin (G.S, oS) (List.mem_append_right _ (List.mem_cons_of_mem _ List.mem_cons_self))).1
    have hkS10 : ∀ o, s₀.heap.get? G.S = some o → s10.heap.get? G.S = some o := fun o ho => by
      have := hkS o ho
      rw [pS] at this
      rw [← this]
      exact pS10
    have st1 : ∀ b ∈ fp1, b ≠ G.cx.env.locals ∧ b ∉ G.cx.fs ∧ (b ∈ G.cx.ex ∨ G.cx.s_0.heap.objs.size ≤ b) ∧ (∀ x c, G.cx.env.cells.lookup x = some c → c ≠ b) ∧ b ≠ G.a ∧ b ≠ G.S ∧ b ∉ G.fp := fun b hb => by
      obtain ⟨k0, k1, k2, k3, k4, k5⟩ := f10 b hb
      refine ⟨k1, k2, k3, k4, fun z => k5 (G.a, G.go) (List.mem_append_right _ (List.mem_append_left _ List.mem_cons_self)) z.symm, fun z => k5 (G.S, oS) (List.mem_append_right _ (List.mem_append_left _ (List.mem_cons_of_mem _ List.mem_cons_self))) z.symm, fun hb2 => ?_⟩
      obtain ⟨o, e, _⟩ := T.obj _ _ st7 b hb2
      exact k5 (b, o) (List.mem_append_right _ (List.mem_append_right _ (mem_pinsAt hb2 e))) rfl
    rw [Sem.bind_eq_wrap', Sem.wrap_wrap]
    refine seg_runOwn fun pf => ?_
    have loop : ∀ (kf : Result → Sem Fin), (kf (.ok .next) = .pure (.again (.compLoop (gen2 elt tg iter tg1 iter1 G.scope pos) 0 (.ref it) .none G.cx.env))) →
        Seg (model G.X.prog G.X.w) G.A (fun n s₀ r s₁ => r = .ok .next ∧ G.E N Gh (we2 Wf) n s₀ s₁) (G.Y tn N Gh (yd2 Yd) yesCt) n s₀ (.compLoop (gen2 elt tg iter tg1 iter1 G.scope pos) 1 (.ref it1) .none G.cx.env)
        ((model G.X.prog G.X.w).den (.compLoop (gen2 elt tg iter tg1 iter1 G.scope pos) 1 (.ref it1) .none G.cx.env)) [.ret kf none false [] (.compLoop (gen2 elt tg iter tg1 iter1 G.scope pos) 0 (.ref it) .none G.cx.env) pf []] s10 := fun kf hk =>
      seg_inner (vs := vs) (vs1 := vs1) (J := J) (te := te) (N := N) (Wf := Wf) (Yd := Yd) (σ2 := σ8) (m := m) (U := U) (i := i + 1) T T1 hg1 he hco hS haS st1 (by rw [hv]; exact hw8) step1 (fun ys H h => (stop1 ys H h).1)
        (fun n s₀ s ys H hn hgh hat ht hO hkS hU => by rw [hk]; exact seg_again rfl (ih (i + 1) n s₀ s ys H (by omega) hn hgh hat ht hO hkS (stop1 ys H hU).2)) m 0 n s₀ s10 ys H10 (by omega) hn hgh ⟨oS, hc, I10'⟩ tO t10 n10 (fun b hb => (f10 b hb).1) hkS10 hU0
    show Seg _ G.A _ _ _ s₀ _ ((compStart (gen2 elt tg iter tg1 iter1 G.scope pos) 1 (.ref it1) .none G.cx.env).onRaise _) _ s10
    unfold compStart
    rw [Sem.onRaise_eq_wrap]
    show Seg _ G.A _ _ _ s₀ _ ((ask >>= _).wrap _ _ _ _) _ s10
    refine seg_bind_wrap (wpAny_askSetting ?_)
    split
    · exact seg_again rfl (loop _ rfl)
    · refine seg_bind_wrap (wpAny_rule ?_)
      show Seg _ G.A _ _ _ s₀ _ ((standAt iter1.pos >>= _).wrap _ _ _ _) _ s10
      exact seg_bind_wrap (wpAny_standAt (seg_bind_wrap (T1.self _ 0 s10 _ _ t10 (seg_again rfl (loop _ rfl)))))
end
end GX

-- text GenZ
set_option maxRecDepth 100000
set_option maxHeartbeats 4000000
/-! GenZ: generator expressions with two clauses, made; the least of what comes out. -/
namespace GX
open PySem PySem.Spec PyProof.Rows L2 LamX GenW
theorem eval_gen2 (elt tg iter tg1 iter1 : Expr) (scope : Scope) (pos : Pos) (env : Env) (hco : scope.isCoroutine = false) :
    eval (gen2 elt tg iter tg1 iter1 scope pos) env = (do
      let x ← eval iter env
      standAt iter.pos
      let x ← genFold iter env x
      let it ← holding [x] (pyIter x)
      enterFrame
      let cl ← closureFor scope env
      let code ← genexprCode env pos (env.qual ++ "<genexpr>") scope
      let bi ← builtinsFor env.globals env.builtins
      let cenv ← newFunctionEnv scope env.globals cl [(".0", it)] (env.qual ++ "<genexpr>.") none code none bi
      newGenerator (.compStart (gen2 elt tg iter tg1 iter1 scope pos) 0 it .none cenv) "<genexpr>" (env.qual ++ "<genexpr>")) := by
  rw [arm_eval_GeneratorExp]
  simp only [hco, Bool.false_eq_true, if_false]
  cases iter <;> rfl
theorem make2_eval {M : Model} {A : Around} {E : Value → Shared → Prop} {s : Shared} {env : Env} {elt tg iter tg1 iter1 : Expr} {scope : Scope} {cl : List (Str × Addr)} {pos : Pos} {Q : Value → Shared → Prop}
    (hco : scope.isCoroutine = false) (hclos : closureFor scope env = pure cl) (hcell : ∀ y ∈ scope.names, y.2 ≠ .cell) (h0 : scope.names.lookup (".0" : Str) = some NameKind.local) (hkind : scope.kind = .function) (hroom : A.depth < recursionLimit)
    (h : wpAny M A (eval iter env) (fun xv z1 => wpAny M A (pyIter xv) (fun it z2 => z2.heap.NoLimit ∧ wpAny M A (genexprCode env pos (env.qual ++ "<genexpr>") scope) (fun code z3 => wpAny M A (builtinsFor env.globals env.builtins) (fun bi z4 =>
        ∀ g, g.Ns z4.heap.objs.size (fun y => if y = ".0" then some it else none) → Heap.SameBut z4.heap.objs.size (z4.heap.push { cls := .type "frame", data := .dict #[] }) g →
          Q (.ref g.objs.size) { z4 with gens := z4.gens.push (.fresh (.compStart (gen2 elt tg iter tg1 iter1 scope pos) 0 it .none (genEnv scope cl z4.heap.objs.size code bi env))), toks := z4.toks + 1 + 1 + 1, heap := g.push { cls := .type "generator", data := .fields #[.int z4.gens.size 0, .str "<genexpr>" (z4.toks + 1), .str (env.qual ++ "<genexpr>") (z4.toks + 1 + 1)] } }) E z3) E z2) E z1) E s)
    (hs : ∀ x, genFold iter env x = pure x) : wpAny M A (eval (gen2 elt tg iter tg1 iter1 scope pos) env) Q E s := by
  rw [eval_gen2 _ _ _ _ _ _ _ _ hco, hclos]
  refine wpAny_bind (wpAny_mono h (fun xv z1 k1 => ?_) fun _ _ y => y)
  refine wpAny_bind (wpAny_standAt (wpAny_bind (wpAny_of_eq (hs xv) ?_)))
  refine wpAny_bind (wpAny_holding (wpAny_mono k1 (fun it z2 k2 => ?_) fun _ _ y => y))
  refine wpAny_bind (wpAny_enterFrame k2.1 hroom (wpAny_bind (wpAny_pure ?_)))
  refine wpAny_bind (wpAny_mono k2.2 (fun code z3 k3 => wpAny_bind (wpAny_mono k3 (fun bi z4 k4 => ?_) fun _ _ y => y)) fun _ _ y => y)
  have hb : ∀ y ∈ ([((".0" : Str), it)] : List (Str × Value)), scope.names.lookup y.1 = some NameKind.local := fun y hy => by rw [List.mem_singleton.mp hy]; exact h0
  refine wpAny_bind (wpAny_newFunctionEnv hcell hb (fun g hn hsb => ?_) hkind)
  have e : (fun y : Str => ([((".0" : Str), it)] : List (Str × Value)).reverse.lookup y) = fun y : Str => if y = (".0" : Str) then some it else none := by
    funext y
    by_cases hy : y = ".0"
    · subst hy; simp
    · have : (y == (".0" : Str)) = false := by simpa using hy
      simp [List.lookup, this, hy]
  rw [e] at hn
  simp only [newGenerator, newFields]
  refine wpAny_bind (wpAny_newGen (wpAny_bind (wpAny_mkText (wpAny_bind (wpAny_mkText (wpAny_newObj_type ?_ (by size_fits)))))))
  exact k4 g hn hsb
section
variable {X : Cx} {pins : List (Addr × Obj)} {σ : L2.St} {H : Hp} {s : Shared}
/-- what stands when a generator expression of two clauses has been made -/
structure Made2 (X : Cx) (pins : List (Addr × Obj)) (σ : L2.St) (tg iter tg1 iter1 elt : Expr) (scope : Scope) (gpos : Pos) (J : It) (H2 : Hp) (it : Addr) (fp : List Addr) (tn : Nat → Heap → Prop) (code : Value) (a : Addr) (go : Obj) (g : Nat) (s4 s5 : Shared) : Prop where
  inv : Inv X pins σ H2 s4
  turn : Turn X.prog X.w X.K tg J fp it tn
  tn0 : tn 0 s5.heap
  fps : ∀ b ∈ fp, FpOk X pins H2 b ∧ b < s4.heap.objs.size
  ns : ∃ m, s5.heap.Ns s4.heap.objs.size m
  keep : ∀ b o, s4.heap.get? b = some o → s5.heap.get? b = some o
  os : s5.os = s4.os
  bare : AllBare s5.gens
  lt : s4.heap.objs.size < a
  ltS : a < s5.heap.objs.size
  ga : s5.heap.get? a = some go
  isG : ∀ h : Heap, h.get? a = some go → h.IsGen a g
  cellG : ∀ v, go.data ≠ .cell v
  gens : s5.gens[g]? = some (.fresh (.compStart (.GeneratorExp elt [⟨tg, iter, [], 0⟩, ⟨tg1, iter1, [], 0⟩] scope gpos) 0 (.ref it) .none (gEnv X scope s4.heap.objs.size code)))

theorem gen_make2 {T : List (Addr × Str)} {c P : Addr} {own : List (Str × Nat)} {tg iter tg1 iter1 elt : Expr} {scope : Scope} {gpos : Pos} {wi : TI} {R : It → Hp → Prop} {Q' : Value → Shared → Prop}
    (I : Inv X pins σ H s) (hi : PI X tg iter wi) (ok : GSc X.N X.env.scope scope own) (TB : TabB X.base X.mg c P) (hcode : X.env.code = .ref c) (hmT : (P, X.env.qual ++ "<genexpr>") ∈ T) (hu : ∀ p ∈ T, p.1 = P → p.2 = X.env.qual ++ "<genexpr>")
    (hroom : X.A.depth < recursionLimit) (hs : ∀ v, genFold iter X.env v = pure v) (h : wi σ H fun J H1 => Tabs T H1 ∧ R J H1)
    (hQ : ∀ J H1 H2 it fp tn code a go g s4 s5, R J H1 → ExtN H1 H2 → Tabs T H2 → (∀ b, H2 b = none → H1 b = none) → Made2 X pins σ tg iter tg1 iter1 elt scope gpos J H2 it fp tn code a go g s4 s5 → Q' (.ref a) s5) :
    wpAny (model X.prog X.w) X.A (eval (.GeneratorExp elt [⟨tg, iter, [], 0⟩, ⟨tg1, iter1, [], 0⟩] scope gpos) X.env) Q' X.xe s := by
  have hfree : ∀ y ∈ scope.names, y.2 = .free → ∃ c, X.env.cells.lookup y.1 = some c := fun y hy e => by
    rcases ok.blk.free y hy e with k | k
    · exact I.ok.has _ (.inl k)
    · exact I.ok.has _ (.inr k)
  refine make2_eval ok.co (closure_ok hfree) ok.cell ok.dot ok.blk.kind hroom ?_ hs
  refine thn (hi.run pins s σ H _ I h) fun xv s1 hx => thn hx fun itv s2 h2 => ?_
  obtain ⟨it, fp, tn, J, H1, e, I2, Tn, st2, f2, hT, hR⟩ := h2
  subst e
  refine ⟨I2.nolimit, ?_⟩
  obtain ⟨ps, hP, ht, hall⟩ := hT _ hmT
  have hPs : s2.heap.get? P = some { cls := .none, data := .fields ps } := I2.hok P _ hP
  have hPlt : P < s2.heap.objs.size := Heap.lt_size hPs
  have cd : PySem.W.CodeHd s2.heap c P := TB.code.keeps I2.bk
  have hbm : s2.heap.BuiltinsAt X.mg P := TB.bm.keeps I2.bk
  -- what follows from the new code object on
  have cont : ∀ (code : Value) (H2 : Hp) (s3 : Shared), Inv X pins σ H2 s3 → ExtN H1 H2 → Tabs T H2 → (∀ b, H2 b = none → H1 b = none) → (∀ b o, b ≠ P → s2.heap.get? b = some o → s3.heap.get? b = some o) → (∀ b ∈ fp, H2 b = none) →
      wpAny (model X.prog X.w) X.A (builtinsFor X.env.globals X.env.builtins) (fun bi s₄ =>
        ∀ h', h'.Ns s₄.heap.objs.size (fun y => if y = ".0" then some (.ref it) else none) → Heap.SameBut s₄.heap.objs.size (s₄.heap.push { cls := .type "frame", data := .dict #[] }) h' →
          Q' (.ref h'.objs.size) { s₄ with
            gens := s₄.gens.push (.fresh (.compStart (.GeneratorExp elt [⟨tg, iter, [], 0⟩, ⟨tg1, iter1, [], 0⟩] scope gpos) 0 (.ref it) .none (genEnv scope (cloFrom X.env.cells scope.names []) s₄.heap.objs.size code bi X.env))),
            toks := s₄.toks + 1 + 1 + 1,
            heap := h'.push { cls := .type "generator", data := .fields #[.int s₄.gens.size 0, .str "<genexpr>" (s₄.toks + 1), .str (X.env.qual ++ "<genexpr>") (s₄.toks + 1 + 1)] } }) X.xe s3 := by
    intro code H2 s3 I3 hE hT3 hno kp3 nfp
    obtain ⟨bm, ob, e1, e2, e3, e4, e5, e6, e7, e8⟩ := TB.bm
    refine wpAny_builtinsFor (m := X.mg) (by rw [I3.ok.glob]; exact I3.mod.glob.keeps I3.bk) e1 e2 (I3.bk _ _ e5) e6 e7 e8 ?_
    intro h' hns hsb
    have sz' : h'.objs.size = s3.heap.objs.size + 1 := by rw [hsb.1, Heap.size_push]
    have kp4 : ∀ b o, s3.heap.get? b = some o → h'.get? b = some o := fun b o e => hsb.extBut b o (Nat.ne_of_lt (Heap.lt_size e)) (Heap.get?_push_of_some _ e)
    have kp5 : ∀ (go : Obj) b o, s3.heap.get? b = some o → (h'.push go).get? b = some o := fun go b o e => Heap.get?_push_of_some _ (kp4 b o e)
    have nP : ∀ b ∈ fp, b ≠ P := fun b hb z => by
      have := (f2 b hb).1
      rw [z, hP] at this
      cases this
    have fpL : ∀ b ∈ fp, b < s2.heap.objs.size := fun b hb => by
      obtain ⟨o, e, _⟩ := Tn.obj _ _ st2 b hb
      exact Heap.lt_size e
    have fpG : ∀ b ∈ fp, ∀ o, s2.heap.get? b = some o → s3.heap.get? b = some o := fun b hb o e => kp3 b o (nP b hb) e
    refine hQ J H1 H2 it fp tn code h'.objs.size _ s3.gens.size s3 _ hR hE hT3 hno
      ⟨I3, Tn, Tn.keep _ _ _ st2 fun b hb o e => kp5 _ b o (fpG b hb o e), fun b hb => ⟨⟨nfp b hb, (f2 b hb).2⟩, ?_⟩, ⟨_, hns.push _⟩, fun b o e => kp5 _ b o e, rfl, I3.bare.push rfl, ?_, ?_, Heap.get?_push_size _ rfl, fun h e => ⟨_, _, _, e, rfl, rfl, rfl⟩, ?_, Array.getElem?_push_size ..⟩
    · obtain ⟨o, e, _⟩ := Tn.obj _ _ st2 b hb
      exact Heap.lt_size (fpG b hb o e)
    · rw [sz']; exact Nat.lt_succ_self _
    · show h'.objs.size < (h'.push _).objs.size
      rw [Heap.size_push]; exact Nat.lt_succ_self _
    · intro v z
      cases z
  cases hf : codeAmong gpos ps.toList with
  | some cv =>
    refine wpAny_genexprCode_hit hcode (cd.code hPs ht) hf ?_
    exact cont cv H1 s2 I2 (ExtN.refl H1) hT (fun _ z => z) (fun _ _ _ e => e) fun b hb => (f2 b hb).1
  | none =>
    refine wpAny_genexprCodeX hcode (cd.code hPs ht) (cd.tab hPs) hf fun c' h' tk hx hge hlt hco' hrec htab' _ => ?_
    obtain ⟨c2, oc, vs, t, e2, hoc, hd, hv⟩ := hrec
    cases e2
    have nC : H1 c' = none := I2.hok.fresh hge
    have I3 := inv_table (t' := tk) (more := #[rawInt gpos.line, rawInt gpos.col, .ref c']) (h' := h') (q := X.env.qual ++ "<genexpr>") I2 hP (fun b o hb e => hx b o hb e) htab'.2 hge ⟨oc, vs, t, hoc, hd, hv⟩
    have hE : ExtN H1 (upd (upd H1 P (.tbl (ps ++ #[rawInt gpos.line, rawInt gpos.col, .ref c']))) c' (CodeO c' (X.env.qual ++ "<genexpr>"))) := fun b o e n => by
      rw [upd_ne (ne_of_none e nC), upd_ne (fun z => n ps (Option.some.inj (e.symm.trans (by rw [z]; exact hP))))]
      exact e
    have eL : (ps ++ #[rawInt gpos.line, rawInt gpos.col, .ref c']).toList = ps.toList ++ [rawInt gpos.line, rawInt gpos.col, .ref c'] := by simp
    refine cont (.ref c') _ _ I3 hE (fun p hp => ?_) (fun b e => upd_none2 (upd_none2 e)) (fun b o hb e => hx b o hb e) fun b hb => ?_
    · by_cases hb : p.1 = P
      · rw [hu p hp hb, hb]
        refine ⟨_, by rw [upd_ne (ne_of_none hP nC), upd_same], by rw [eL]; exact PySem.TriplesOk_snoc _ _ _ _ ht, fun p' cv hcv => ?_⟩
        rw [eL] at hcv
        rcases among_app _ ht hcv with z | z
        · obtain ⟨c0, q1, q2⟩ := hall p' cv z
          exact ⟨c0, q1, hE _ _ q2 codeO_ne⟩
        · exact ⟨c', z, upd_same⟩
      · obtain ⟨ps', a1, a2, a3⟩ := hT p hp
        refine ⟨ps', by rw [upd_ne (ne_of_none a1 nC), upd_ne hb]; exact a1, a2, fun p' cv hcv => ?_⟩
        obtain ⟨c0, q1, q2⟩ := a3 p' cv hcv
        exact ⟨c0, q1, hE _ _ q2 codeO_ne⟩
    · have hl : b < s2.heap.objs.size := by
        obtain ⟨o, e, _⟩ := Tn.obj _ _ st2 b hb
        exact Heap.lt_size e
      have n1 : b ≠ c' := Nat.ne_of_lt (Nat.lt_of_lt_of_le hl hge)
      have n2 : b ≠ P := fun z => by
        have := (f2 b hb).1
        rw [z, hP] at this
        cases this
      rw [upd_ne n1, upd_ne n2]
      exact (f2 b hb).1
end
section
variable {G : GD} {elt tg iter tg1 iter1 : Expr} {pos : Pos} {vs vs1 : List Nat} {J : It} {g g1 : TG} {wi1 : TI} {te : TE} {it : Addr} {tn : Nat → Heap → Prop} {no N : Nat} {Gh : Nat → Shared → List V → Prop} {W : Nat → List V → Hp → Prop} {Wf : List V → Hp → Prop} {Yd : V → Prop}
theorem seg_first2 (T : Turn G.X.prog G.X.w G.X.K tg J G.fp it tn) (hg : PG G.cx tg g) (hi1 : PI G.cx tg1 iter1 wi1) (hg1 : PG G.cx tg1 g1) (he : PE G.cx elt te) (hco : G.scope.isCoroutine = false) (hS : G.s.heap.objs.size ≤ G.S)
    (haS : ∀ b ∈ G.fp, b ≠ G.a ∧ b ≠ G.S) (hsf : ∀ x, foldedSetIterable iter1 G.cx.env x = pure x) (hv : ∀ σ : L2.St, wipe (wipe σ vs1) vs = wipe σ vs) (P : Turns2 G J g wi1 g1 te vs vs1 no N W Wf Yd) {s : Shared} {H : Hp} (hgh : Gh 0 s []) (hat : G.at H s) (ht : tn 0 s.heap) (hn : ∀ b ∈ G.fp, H b = none) (hw : W 0 [] H) :
      Seg (model G.X.prog G.X.w) G.A (fun n s₀ r s₁ => r = .ok .next ∧ G.E N Gh (we2 Wf) n s₀ s₁) (G.Y tn N Gh (yd2 Yd) yesCt) (N + 1) s
        (.compStart (gen2 elt tg iter tg1 iter1 G.scope pos) 0 (.ref it) .none G.cx.env) ((model G.X.prog G.X.w).den (.compStart (gen2 elt tg iter tg1 iter1 G.scope pos) 0 (.ref it) .none G.cx.env)) [] s := by
  have loop := seg_outer (iter := iter) (pos := pos) T hg hi1 hg1 he hco hS haS hsf hv P no 0 (N + 1) s s [] H (Nat.zero_add _) (by simp) hgh hat ht hn (fun _ z => z) hw
  show Seg _ G.A _ _ _ s _ ((compStart (gen2 elt tg iter tg1 iter1 G.scope pos) 0 (.ref it) .none G.cx.env).onRaise (leaving G.cx.env)) [] s
  unfold compStart
  rw [Sem.onRaise_eq_wrap]
  show Seg _ G.A _ _ _ s _ ((ask >>= _).wrap _ _ _ _) [] s
  refine seg_bind_wrap (wpAny_askSetting ?_)
  split
  · exact seg_again rfl loop
  · refine seg_bind_wrap (wpAny_rule ?_)
    show Seg _ G.A _ _ _ s _ ((standAt iter.pos >>= _).wrap _ _ _ _) [] s
    exact seg_bind_wrap (wpAny_standAt (seg_bind_wrap (T.self _ 0 s _ _ ht (seg_again rfl loop))))
end
section
variable {X : Cx}
/-- a made generator of two clauses, asleep ahead of its first turn; S: the consumer's own object -/
theorem made_wait2 {pins : List (Addr × Obj)} {σ : L2.St} {tg iter tg1 iter1 elt : Expr} {scope : Scope} {gpos : Pos} {J : It} {H2 : Hp} {it : Addr} {fp : List Addr} {tn : Nat → Heap → Prop} {code : Value} {a S : Addr} {go oS : Obj} {gi : Nat} {s4 s5 s6 : Shared} {A : Around} {own : List (Str × Nat)} {g g1 : TG} {wi1 : TI} {te : TE} {vs1 : List Nat} {no N : Nat}
    {Gh : Nat → Shared → List V → Prop} {W : Nat → List V → Hp → Prop} {Wf : List V → Hp → Prop} {Yd : V → Prop}
    (M : Made2 X pins σ tg iter tg1 iter1 elt scope gpos J H2 it fp tn code a go gi s4 s5) (ok : GSc X.N X.env.scope scope own) (hN : X.N.Nodup) (hd : A.handled = none) (hfr : A.frames = some X.stack)
    (hg : PG (gcx X A s4 H2 scope code fp) tg g) (he : PE (gcx X A s4 H2 scope code fp) elt te) (hi1 : PI (gcx X A s4 H2 scope code fp) tg1 iter1 wi1) (hg1 : PG (gcx X A s4 H2 scope code fp) tg1 g1)
    (hsf : ∀ x, foldedSetIterable iter1 (gcx X A s4 H2 scope code fp).env x = pure x) (hv : ∀ σ : L2.St, wipe (wipe σ vs1) (own.map (·.2)) = wipe σ (own.map (·.2)))
    (P : Turns2 ⟨X, A, s4, H2, scope, code, fp, a, go, gi, S, wipe σ (own.map (·.2))⟩ J g wi1 g1 te (own.map (·.2)) vs1 no N W Wf Yd)
    (ho : s6.os = s5.os) (hgen : s6.gens = s5.gens) (hk : ∀ b o, s5.heap.get? b = some o → s6.heap.get? b = some o) (hS : s6.heap.get? S = some oS) (hSc : ∀ v, oS.data ≠ .cell v) (hSl : s4.heap.objs.size < S)
    (hgh : Gh 0 (s6.setGen gi .running) []) (w0 : W 0 [] H2) :
    GD.Wait ⟨X, A, s4, H2, scope, code, fp, a, go, gi, S, wipe σ (own.map (·.2))⟩ tn N Gh (we2 Wf) (yd2 Yd) yesCt (N + 1) s6 := by
  have I5 : Inv (gcx X A s4 H2 scope code fp) [] (wipe σ (own.map (·.2))) H2 s6 := by
    obtain ⟨m, hns⟩ := M.ns
    exact gen_start (A := A) M.inv ok hN hd hfr M.fps (hns.keeps hk) (fun b o e => hk _ _ (M.keep b o e)) (ho.trans M.os) (by rw [hgen]; exact M.bare)
  have young : ∀ b, s4.heap.objs.size < b → H2 b = none ∧ b ≠ s4.heap.objs.size ∧ b ∉ frs X.stack := fun b hb => by
    refine ⟨M.inv.hok.fresh (Nat.le_of_lt hb), Nat.ne_of_gt hb, fun z => ?_⟩
    rcases List.mem_cons.mp (M.inv.stkSub b z) with z | z
    · have := M.inv.lt
      rw [← z] at this
      exact absurd (Nat.lt_trans hb this) (Nat.lt_irrefl _)
    · exact M.inv.nofs (Nat.le_of_lt hb) z
  let G : GD := ⟨X, A, s4, H2, scope, code, fp, a, go, gi, S, wipe σ (own.map (·.2))⟩
  have at5 : G.at H2 s6 := by
    refine ⟨oS, hSc, I5.pins_of fun p hp => ?_⟩
    rcases List.mem_cons.mp hp with z | z
    · rw [z]
      obtain ⟨y1, y2, y3⟩ := young a M.lt
      exact ⟨hk _ _ M.ga, y1, y2, y3, M.cellG⟩
    · rw [List.mem_singleton.mp z]
      obtain ⟨y1, y2, y3⟩ := young S hSl
      exact ⟨hS, y1, y2, y3, hSc⟩
  have g6 : s6.gens[gi]? = some (.fresh (.compStart (.GeneratorExp elt [⟨tg, iter, [], 0⟩, ⟨tg1, iter1, [], 0⟩] scope gpos) 0 (.ref it) .none (gEnv X scope s4.heap.objs.size code))) := by
    rw [hgen]
    exact M.gens
  refine ⟨hk _ _ M.ga, M.inv.nolimit.keeps fun b o e => hk _ _ (M.keep b o e), _, g6, rfl, ?_⟩
  exact seg_first2 (G := G) M.turn hg hi1 hg1 he ok.co (Nat.le_of_lt hSl) (fun b hb => ⟨Nat.ne_of_lt (Nat.lt_trans (M.fps b hb).2 M.lt), Nat.ne_of_lt (Nat.lt_trans (M.fps b hb).2 hSl)⟩) hsf hv P hgh
      (at5.woken (Nat.le_of_lt hSl) ⟨rfl, bare_set (by rw [hgen]; exact M.bare) rfl, fun b o _ e => e, hk _ _ M.ga, ⟨oS, hS, hSc⟩⟩) (M.turn.keep _ _ _ M.tn0 fun b _ o e => hk b o e) (fun b hb => (M.fps b hb).1.1) w0
end
end GX

-- text GenM
set_option maxRecDepth 100000
set_option maxHeartbeats 4000000
/-! GenM: min over a generator expression of two clauses. -/
namespace GX
open PySem PySem.Spec PyProof.Rows L2 LamX GenW
abbrev isInt (y : V) : Prop := ∃ n, y = .int n
section
variable {G : GD} {tn : Nat → Heap → Prop} {N : Nat} {Wf : List V → Hp → Prop} {A : Around} {R : Result → Shared → Prop}
/-- what the consumer's own list holds: nothing yet, or the least so far -/
def minGh (S : Addr) : Nat → Shared → List V → Prop := fun i s ys => ys.length = i ∧ ((ys = [] ∧ ∃ c, s.heap.get? S = some (lstObj #[] c)) ∨ ∃ (ns : List Int) (m : Int) (t : Tok) (c : Nat), ys = ns.map V.int ∧ m ∈ ns ∧ (∀ x ∈ ns, m ≤ x) ∧ s.heap.get? S = some (lstObj #[.int m t, .int m t] c))
theorem lst_one {a b : Array Value} {c d : Nat} (h : lstObj a c = lstObj b d) : a = b := by
  injection h with _ _ e _
  injection e
theorem min_loop (hA : G.A = A.in1.in1) (hh : A.handled = none) (hr : A.depth < recursionLimit) (hS : G.s.heap.objs.size ≤ G.S) (haS : G.S ≠ G.a) (hN : 0 < N) (hiG : ∀ h : Heap, h.get? G.a = some G.go → h.IsGen G.a G.g) (hgc : ∀ v, G.go.data ≠ .cell v)
    (hF : ∀ (ns : List Int) (m : Int) (t : Tok) H s3, m ∈ ns → (∀ x ∈ ns, m ≤ x) → ns.length = N → G.at H s3 → Wf (ns.map V.int) H → AllBare s3.gens → R (.ok (.ret (.int m t))) s3) :
    ∀ (n : Nat) (s : Shared) (acc : Array Value) (c0 : Nat), n ≠ 0 → s.heap.get? G.S = some (lstObj acc c0) → G.Wait tn N (minGh G.S) (we2 Wf) (yd2 isInt) yesCt n s → codeAny (model G.X.prog G.X.w) A (.builtin "min.loop" ⟨[.ref G.a, .none, .ref G.S], []⟩) R s := by
  have hname : (toString "min" ++ toString ".loop" : String) = "min.loop" := by decide
  have oth : ∀ (f : Obj → Obj) (h : Heap) b o, b ≠ G.S → h.get? b = some o → (h.update G.S f).get? b = some o := fun f h b o hb e => (Heap.get?_update_other _ _ (fun z => hb z.symm)).trans e
  intro n
  induction n with
  | zero => exact fun _ _ _ h => absurd rfl h
  | succ n ih =>
    intro s acc c0 _ hS0 hw
    refine (codeAny_builtin F.entry_min_loop ?_)
    rw [Around.under_plainId F.plain_min_loop _]
    show wpAny _ A.in1 (seqItems? (.ref G.S) >>= _) _ _ s
    refine wpAny_bind (wpAny_seqItems hS0 rfl ?_)
    show wpAny _ A.in1 (tryCatch (pyNext (.ref G.a)) _ >>= _) _ _ s
    refine wpAny_bind (wpAny_tryCatch (next_gen (A := A.in1) (Nat.succ_ne_zero n) hS hA hh hr hiG hw (fun i ys y v H s1 gs' hi hlt hgh rv hat hb hk hyd hk2 => ?_) (fun ys H s1 s2 hn1 hgh hat hk hw2 ho hb hkp => ?_)))
    · obtain ⟨hyl, hgh⟩ := hgh
      obtain ⟨m1, rfl⟩ := hyd
      obtain ⟨t1, rfl⟩ := rv
      have hn : n ≠ 0 := by omega
      have hS1 := hk _ hS0
      obtain ⟨_, _, _, _, ga1, _⟩ := hat.facts
      have next : ∀ (s' : Shared) (acc' : Array Value) (c' : Nat) (ns : List Int) (m : Int) (t' : Tok), acc' = #[.int m t', .int m t'] → s'.os = s1.os → s'.gens = (s1.setGen G.g gs').gens → (∀ b o, b ≠ G.S → s1.heap.get? b = some o → s'.heap.get? b = some o) →
          s'.heap.get? G.S = some (lstObj acc' c') → ys ++ [V.int m1] = ns.map V.int → m ∈ ns → (∀ x ∈ ns, m ≤ x) → codeAny (model G.X.prog G.X.w) A (.builtin "min.loop" ⟨[.ref G.a, .none, .ref G.S], []⟩) R s' := fun s' acc' c' ns m t' ea ho hg hkk hS' e1 e2 e3 => by
        refine ih s' acc' c' hn hS' (hk2 _ ⟨ho, by rw [hg]; exact hb, hkk, hkk _ _ (Ne.symm haS) ga1, ⟨_, hS', lst_cell⟩⟩ hg trivial ⟨by rw [List.length_append, hyl]; rfl, .inr ⟨ns, m, t', c', e1, e2, e3, ?_⟩⟩)
        rw [← ea]
        exact hS'
      rcases hgh with ⟨rfl, c, hSg⟩ | ⟨ns, m, t, c, rfl, h1, h2, hSg⟩
      · have e0 : acc = #[] := (lst_one (Option.some.inj (hSg.symm.trans hS0))).symm
        subst e0
        show wpAny _ A.in1 (updateSeq G.S (fun _ => #[.int m1 t1, .int m1 t1]) >>= _) _ _ _
        refine wpAny_bind ?_
        refine wpAny_updateSeq hS1 rfl ?_
        rw [hname]
        refine wpAny_pure ⟨plainId_quiet F.plain_min_loop _, ?_⟩
        exact next _ _ _ [m1] m1 t1 rfl rfl rfl (fun b o hb e => oth _ _ b o hb e) (Heap.get?_update_self _ hS1 rfl) rfl (List.mem_singleton.mpr rfl) (fun x hx => by rw [List.mem_singleton.mp hx]; exact Int.le_refl _)
      · have e0 : acc = #[.int m t, .int m t] := (lst_one (Option.some.inj (hSg.symm.trans hS0))).symm
        subst e0
        show wpAny _ A.in1 (tryCatch (holding [Value.int m1 t1, Value.int m1 t1] (richCompare .Lt (.int m1 t1) (.int m t) >>= _)) _ >>= _) _ _ _
        refine wpAny_bind (wpAny_tryCatch (wpAny_holding (wpAny_bind (richCompare_gives (op := .Lt) (typeIs_int _ _ t1) (typeIs_int _ _ t) F.slot_int_lt F.entry_int_lt (F.args_int_lt_2 _ _) (gives_int_lt _ _ t1 t) (fun x => nomatch x) ?_))))
        refine wpAny_bind (wpAny_holding (wpAny_truthy_bool ?_))
        refine wpAny_bind (wpAny_letGo (wpAny_pure ?_))
        cases hlt2 : decide (m1 < m) with
        | true =>
          have hlt3 : m1 < m := of_decide_eq_true hlt2
          simp only [if_true]
          refine wpAny_bind ?_
          refine wpAny_updateSeq hS1 rfl (wpAny_bind (wpAny_letGo ?_))
          rw [hname]
          refine wpAny_pure ⟨plainId_quiet F.plain_min_loop _, ?_⟩
          refine next _ _ _ (ns ++ [m1]) m1 t1 rfl rfl rfl (fun b o hb e => oth _ _ b o hb e) (Heap.get?_update_self _ hS1 rfl) (by rw [List.map_append]; rfl) (List.mem_append_right _ (List.mem_singleton.mpr rfl)) (fun x hx => ?_)
          rcases List.mem_append.mp hx with hx | hx
          · exact Int.le_of_lt (Int.lt_of_lt_of_le hlt3 (h2 x hx))
          · rw [List.mem_singleton.mp hx]; exact Int.le_refl _
        | false =>
          have hlt3 : ¬ m1 < m := of_decide_eq_false hlt2
          simp only [Bool.false_eq_true, if_false]
          refine wpAny_bind (wpAny_letGo ?_)
          rw [hname]
          refine wpAny_pure ⟨plainId_quiet F.plain_min_loop _, ?_⟩
          refine next _ _ _ (ns ++ [m1]) m t rfl rfl rfl (fun b o _ e => e) hS1 (by rw [List.map_append]; rfl) (List.mem_append_left _ h1) (fun x hx => ?_)
          rcases List.mem_append.mp hx with hx | hx
          · exact h2 x hx
          · rw [List.mem_singleton.mp hx]; omega
    · obtain ⟨hyl, hgh⟩ := hgh
      rcases hgh with ⟨rfl, c, hSg⟩ | ⟨ns, m, t, c, rfl, h1, h2, hSg⟩
      · have : (0 : Nat) = N := hyl
        omega
      · have e0 : acc = #[.int m t, .int m t] := (lst_one (Option.some.inj (hSg.symm.trans hS0))).symm
        subst e0
        have hS2 := hkp _ _ (hk _ hS0)
        obtain ⟨_, _, _, _, ga1, _⟩ := hat.facts
        show wpAny _ A.in1 (updateSeq G.S (fun _ => #[]) >>= _) _ _ _
        refine wpAny_bind ?_
        refine wpAny_updateSeq hS2 rfl (wpAny_bind (wpAny_letGo (wpAny_pure ?_)))
        refine hF ns m t H _ h1 h2 (by rw [List.length_map] at hyl; exact hyl) (hat.woken hS ⟨ho, hb, fun b o hb2 e => oth _ _ b o hb2 (hkp b o e), oth _ _ _ _ (Ne.symm haS) (hkp _ _ ga1), ⟨_, Heap.get?_update_self _ hS2 rfl, lst_cell⟩⟩) hw2 hb
end
/-- the reading of min(elt for tg in iter for tg1 in iter1) -/
def tGenMin2 (T : List (Addr × Str)) (wi : TI) (g : TG) (wi1 : TI) (g1 : TG) (te : TE) (vs vs1 : List Nat) : TE := fun σ H Q => wi σ H fun J H1 => Tabs T H1 ∧ ∀ H2, ExtN H1 H2 → Tabs T H2 → (∀ b, H2 b = none → H1 b = none) →
  ∃ (no N : Nat) (W : Nat → List V → Hp → Prop), 0 < N ∧ W 0 [] H2 ∧
    (∀ i ys H, i < no → W i ys H → J.go i H ∧ ∀ x H', J.yld i H x H' → g x (wipe σ vs) H' fun σ2 H2 => wipe σ2 vs = wipe σ vs ∧ wi1 σ2 H2 fun J1 H4 => ∃ (m : Nat) (U : Nat → List V → Hp → Prop), U 0 ys H4 ∧
      (∀ j ys H, j < m → U j ys H → ys.length < N ∧ J1.go j H ∧ ∀ x H', J1.yld j H x H' → g1 x (wipe σ2 vs1) H' fun σ3 H5 => wipe σ3 vs1 = wipe σ2 vs1 ∧ te σ3 H5 fun y H6 => isInt y ∧ U (j + 1) (ys ++ [y]) H6) ∧
      (∀ ys H, U m ys H → J1.stop m H ∧ W (i + 1) ys H)) ∧
    (∀ ys H, W no ys H → J.stop no H ∧ ys.length = N ∧ ∀ (ns : List Int) (m : Int), ys = ns.map V.int → m ∈ ns → (∀ x ∈ ns, m ≤ x) → Q (.int m) H)
section
variable {X : Cx}
theorem boot_min2 : bootBuiltins "min" = some (.builtin "min") := by decide +kernel
theorem pe_genMin2 {T : List (Addr × Str)} {c P : Addr} {own : List (Str × Nat)} {vs1 : List Nat} {tg iter tg1 iter1 elt : Expr} {scope : Scope} {gpos p pos : Pos} {wi wi1 : TI} {g g1 : TG} {te : TE} {k : Nat}
    (hr : Room (k + 1) X.A) (hgl : Gl X "min") (hm : X.mg "min" = none) (hN : X.N.Nodup) (TB : TabB X.base X.mg c P) (hcode : X.env.code = .ref c) (hmT : (P, X.env.qual ++ "<genexpr>") ∈ T) (hu : ∀ p ∈ T, p.1 = P → p.2 = X.env.qual ++ "<genexpr>")
    (hi : PI X tg iter wi) (ok : GSc X.N X.env.scope scope own) (hv : ∀ σ : L2.St, wipe (wipe σ vs1) (own.map (·.2)) = wipe σ (own.map (·.2)))
    (hg : ∀ (A : Around) (s : Shared) (H : Hp) (code : Value) (ex : List Addr), PG (gcx X A s H scope code ex) tg g) (hi1 : ∀ (A : Around) (s : Shared) (H : Hp) (code : Value) (ex : List Addr), PI (gcx X A s H scope code ex) tg1 iter1 wi1)
    (hg1 : ∀ (A : Around) (s : Shared) (H : Hp) (code : Value) (ex : List Addr), PG (gcx X A s H scope code ex) tg1 g1) (he : ∀ (A : Around) (s : Shared) (H : Hp) (code : Value) (ex : List Addr), Room k (gcx X A s H scope code ex).A → PE (gcx X A s H scope code ex) elt te)
    (hs : ∀ v, genFold iter X.env v = pure v := by intro _; rfl) (hsf : ∀ env x, foldedSetIterable iter1 env x = pure x := by intro _ _; rfl)
    (hst : starEach [gen2 elt tg iter tg1 iter1 scope gpos] X.env = (false, eval (gen2 elt tg iter tg1 iter1 scope gpos) X.env) :: starEach [] X.env := by rfl) :
    PE X (.Call (.Name "min" p) [gen2 elt tg iter tg1 iter1 scope gpos] [] pos) (tGenMin2 T wi g wi1 g1 te (own.map (·.2)) vs1) := by
  have hname : (toString "min" ++ toString ".loop" : String) = "min.loop" := by decide
  refine ⟨fun pins s σ H Q I h => ?_⟩
  refine wpAny_Call_Name_kw (ld_blt I hgl hm boot_min2 ?_)
  refine PyProof.Rows.callWith_builtin1 ?_ hst (by rfl)
  rw [hst]
  show wpAny _ _ (spliced ((false, eval (gen2 elt tg iter tg1 iter1 scope gpos) X.env) :: backTo pos (starEach [] X.env))) _ _ s
  refine Calls.spliced_cons (gen_make2 I hi ok TB hcode hmT hu hr.depth hs h fun J H1 H2 it fp tn code a go gi s4 s5 hR hE hT hno M => ?_)
  refine Calls.spliced_nil ?_
  obtain ⟨no, N, W, hNp, w0, step, stop⟩ := hR H2 hE hT hno
  let G : GD := ⟨X, X.A.in1.in1, s4, H2, scope, code, fp, a, go, gi, s5.heap.objs.size, wipe σ (own.map (·.2))⟩
  have P0 : Turns2 G J g wi1 g1 te (own.map (·.2)) vs1 no N W (fun ys H => ∀ (ns : List Int) (m : Int), ys = ns.map V.int → m ∈ ns → (∀ x ∈ ns, m ≤ x) → Q (.int m) H) isInt := ⟨step, stop⟩
  refine call_function_tree F.kind_min F.plain_min F.entry_min (F.args_min1 _) ?_
  show wpAny _ X.A.in1 (Builtin.Builtins.bindParams "min" ["key", "default"] 0 ⟨[], []⟩ >>= _) _ _ _
  refine wpAny_bind (wpAny_of_eq (show Builtin.Builtins.bindParams "min" ["key", "default"] 0 ⟨[], []⟩ = pure [none, none] from rfl) ?_)
  refine wpAny_bind (wpAny_pure ?_)
  refine wpAny_bind (wpAny_pyIter_gen (M.isG _ M.ga) ?_)
  refine wpAny_bind (wpAny_newObj_type ?_)
  rw [hname]
  refine wpAny_pure ⟨plainId_quiet F.plain_min_loop _, min_loop (G := G) (A := X.A) (tn := tn) (N := N) (Wf := fun ys H => ∀ (ns : List Int) (m : Int), ys = ns.map V.int → m ∈ ns → (∀ x ∈ ns, m ≤ x) → Q (.int m) H) rfl hr.hd hr.depth (Nat.le_of_lt (Nat.lt_trans M.lt M.ltS)) (Nat.ne_of_gt M.ltS) hNp M.isG M.cellG
    (fun ns m t H' s3 h1 h2 hl hat hw hb => ?_) (N + 1) _ #[] 0 (Nat.succ_ne_zero _) (Heap.get?_push_size _ rfl) ?_⟩
  · obtain ⟨oS, hc, J'⟩ := hat
    exact ⟨.int m, H', gen_back M.inv J' (fun b hb => (M.fps b hb).1) rfl (fun _ _ e => e) hb, ⟨t, rfl⟩, hw ns m rfl h1 h2⟩
  · exact made_wait2 M ok hN hr.hd M.inv.ok.frames (hg _ _ _ _ _) (he _ _ _ _ _ (room_gen2 hr _)) (hi1 _ _ _ _ _) (hg1 _ _ _ _ _) (hsf _) hv P0 rfl rfl (fun b o e => Heap.get?_push_of_some _ e) (Heap.get?_push_size _ rfl) lst_cell (Nat.lt_trans M.lt M.ltS)
      ⟨rfl, .inl ⟨rfl, 0, Heap.get?_push_size _ rfl⟩⟩ w0
end
end GX

-- text MinT
set_option maxRecDepth 100000
set_option maxHeartbeats 4000000
/-! MinT: min of a list of pairs of whole numbers; list(d.values()). -/
namespace GX
open PySem PySem.Spec PyProof.Rows L2 LamX GenW
theorem vals_ref_eq : ∀ {as : List Addr} {us : List Value}, Vals (as.map V.ref) us → us = as.map Value.ref
  | [], _, .nil => rfl
  | a :: r, _, .cons h t => by
    rw [vals_ref_eq t, show _ = Value.ref a from h]
    rfl
abbrev Pr := Addr × Int × Int
section
variable {P : Program} {w : World} {A : Around} {R : Result → Shared → Prop} {s0 : Shared} {it l S : Addr} {xs : List Pr}
theorem lex_le {a b c d : Int} : (HT.lexLt [a, b] [c, d] = true → a ≤ c) ∧ (HT.lexLt [a, b] [c, d] = false → c ≤ a) := by
  rw [HT.lexLt_cons]
  by_cases h : a = c
  · exact ⟨fun _ => by omega, fun _ => by omega⟩
  · rw [if_neg h]
    exact ⟨fun z => by have := of_decide_eq_true z; omega, fun z => by have := of_decide_eq_false z; omega⟩
/-- the loop behind the first item: m is the least so far -/
theorem minT_loop (hh : A.handled = none) (hu : A.in1.units < cLine) (hSi : S ≠ it) (hil : l ≠ it) (hSl : l ≠ S) (hl0 : s0.heap.IsList l (xs.map fun x => Value.ref x.1).toArray)
    (hx0 : ∀ x ∈ xs, x.1 ≠ it ∧ x.1 ≠ S ∧ ∃ items : Array Value, IsTup s0.heap x.1 items ∧ IntsAre items.toList [x.2.1, x.2.2])
    (hF : ∀ (m : Pr) (h' : Heap) (tk : Nat), m ∈ xs → (∀ y ∈ xs, m.2.1 ≤ y.2.1) → (∀ b o, b ≠ it → b ≠ S → s0.heap.get? b = some o → h'.get? b = some o) → R (.ok (.ret (.ref m.1))) { s0 with heap := h', toks := tk }) :
    ∀ (k i : Nat) (h : Heap) (tk c : Nat) (m : Pr), i + k = xs.length → m ∈ xs → (∀ y ∈ xs.take i, m.2.1 ≤ y.2.1) → h.IsListIter it l i → (∀ b o, b ≠ it → b ≠ S → s0.heap.get? b = some o → h.get? b = some o) →
      h.get? S = some (lstObj #[.ref m.1, .ref m.1] c) → codeAny (model P w) A (.builtin "min.loop" ⟨[.ref it, .none, .ref S], []⟩) R { s0 with heap := h, toks := tk } := by
  have nm : (toString "min" ++ toString ".loop" : String) = "min.loop" := by decide
  intro k
  induction k with
  | zero =>
    intro i h tk c m hi hm hle hit kp hS
    have hL : h.IsList l (xs.map fun x => Value.ref x.1).toArray := hl0.at fun o e => kp l o hil hSl e
    refine codeAny_builtin F.entry_min_loop ?_
    rw [Around.under_plainId F.plain_min_loop _]
    refine wpAny_bind (m := seqItems? (.ref S)) (wpAny_seqItems (s := { s0 with heap := h, toks := tk }) hS rfl ?_)
    refine wpAny_bind (wpAny_tryCatch (wpAny_pyNext_list_end (s := { s0 with heap := h, toks := tk }) hh hit hL (by simp; omega) fun h2 ext => ?_))
    have hS2 : h2.get? S = some (lstObj #[.ref m.1, .ref m.1] c) := ext S _ hSi hS
    refine wpAny_bind (m := updateSeq S (fun _ => #[])) (wpAny_updateSeq (s := { s0 with heap := h2, toks := tk }) hS2 rfl (wpAny_bind (wpAny_letGo (wpAny_pure ?_))))
    rw [List.take_of_length_le (by omega)] at hle
    exact hF m _ tk hm hle fun b o h1 h2' e => (Heap.get?_update_other _ _ (Ne.symm h2')).trans (ext b o h1 (kp b o h1 h2' e))
  | succ k ih =>
    intro i h tk c m hi hm hle hit kp hS
    have hL : h.IsList l (xs.map fun x => Value.ref x.1).toArray := hl0.at fun o e => kp l o hil hSl e
    have hlt : i < xs.length := by omega
    have hmem : xs[i] ∈ xs := List.getElem_mem hlt
    refine codeAny_builtin F.entry_min_loop ?_
    rw [Around.under_plainId F.plain_min_loop _]
    refine wpAny_bind (m := seqItems? (.ref S)) (wpAny_seqItems (s := { s0 with heap := h, toks := tk }) hS rfl ?_)
    refine wpAny_bind (wpAny_tryCatch (wpAny_pyNext_list_item (s := { s0 with heap := h, toks := tk }) (x := .ref xs[i].1) hit hL (by simp [hlt]) fun h2 hit2 same => ?_))
    have ext := same.extBut
    have kp2 : ∀ b o, b ≠ it → b ≠ S → s0.heap.get? b = some o → h2.get? b = some o := fun b o n1 n2 e => ext b o n1 (kp b o n1 n2 e)
    have hS2 : h2.get? S = some (lstObj #[.ref m.1, .ref m.1] c) := ext S _ hSi hS
    have tup : ∀ x ∈ xs, ∃ items : Array Value, IsTup h2 x.1 items ∧ IntsAre items.toList [x.2.1, x.2.2] := fun x hx => by
      obtain ⟨n1, n2, items, ⟨o, ho, r⟩, q⟩ := hx0 x hx
      exact ⟨items, ⟨o, kp2 _ _ n1 n2 ho, r⟩, q⟩
    obtain ⟨i1, t1, v1⟩ := tup _ hmem
    obtain ⟨i2, t2, v2⟩ := tup _ hm
    have next : ∀ (b : Bool) (hb : HT.lexLt [xs[i].2.1, xs[i].2.2] [m.2.1, m.2.2] = b) (h3 : Heap) (c3 : Nat), (∀ b o, b ≠ it → b ≠ S → s0.heap.get? b = some o → h3.get? b = some o) → h3.IsListIter it l (i + 1) →
        h3.get? S = some (lstObj (if b = true then #[.ref xs[i].1, .ref xs[i].1] else #[.ref m.1, .ref m.1]) c3) → codeAny (model P w) A (.builtin "min.loop" ⟨[.ref it, .none, .ref S], []⟩) R { s0 with heap := h3, toks := tk } := fun b hb h3 c3 e1 e2 e3 => by
      obtain ⟨q1, q2⟩ := lex_le (a := xs[i].2.1) (b := xs[i].2.2) (c := m.2.1) (d := m.2.2)
      rw [hb] at q1 q2
      have ht : ∀ y, y ∈ xs.take (i + 1) → y ∈ xs.take i ∨ y = xs[i] := fun y hy => by
        rw [List.take_succ_eq_append_getElem hlt] at hy
        rcases List.mem_append.mp hy with z | z
        · exact .inl z
        · exact .inr (List.mem_singleton.mp z)
      cases b with
      | true =>
        have q := q1 rfl
        refine ih (i + 1) h3 tk c3 xs[i] (by omega) hmem (fun y hy => ?_) e2 e1 e3
        rcases ht y hy with z | z
        · have := hle y z; omega
        · rw [z]; exact Int.le_refl _
      | false =>
        have q := q2 rfl
        refine ih (i + 1) h3 tk c3 m (by omega) hm (fun y hy => ?_) e2 e1 e3
        rcases ht y hy with z | z
        · exact hle y z
        · rw [z]; exact q
    show wpAny _ A.in1 (tryCatch (holding [Value.ref xs[i].1, Value.ref xs[i].1] (richCompare .Lt (.ref xs[i].1) (.ref m.1) >>= _)) _ >>= _) _ _ _
    refine wpAny_bind (wpAny_tryCatch (wpAny_holding (wpAny_bind (HT.lt_tupInts (s := { s0 with heap := h2, toks := tk }) t1 t2 v1 v2 hu ?_))))
    refine wpAny_bind (wpAny_holding (wpAny_truthy_bool ?_))
    refine wpAny_bind (wpAny_letGo (wpAny_pure ?_))
    cases hb : HT.lexLt [xs[i].2.1, xs[i].2.2] [m.2.1, m.2.2] with
    | true =>
      simp only [if_true]
      refine wpAny_bind (m := updateSeq S _) (wpAny_updateSeq (s := { s0 with heap := h2, toks := tk }) hS2 rfl (wpAny_bind (wpAny_letGo ?_)))
      rw [nm]
      refine wpAny_pure ⟨plainId_quiet F.plain_min_loop _, next true hb _ _ (fun b o n1 n2 e => (Heap.get?_update_other _ _ (Ne.symm n2)).trans (kp2 b o n1 n2 e)) (hit2.at fun o e => (Heap.get?_update_other _ _ hSi).trans e) (Heap.get?_update_self _ hS2 rfl)⟩
    | false =>
      simp only [Bool.false_eq_true, if_false]
      refine wpAny_bind (wpAny_letGo ?_)
      rw [nm]
      exact wpAny_pure ⟨plainId_quiet F.plain_min_loop _, next false hb h2 c kp2 hit2 hS2⟩
end
section
variable {X : Cx}
/-- min(xs), xs a list of pairs: one with the least first number -/
def rMinT (K : PySem.W.Frag) : List V → Hp → VK → Prop := fun vs H Q => ∃ (a : Addr) (xs : List Pr), vs = [.ref a] ∧ SqL K H a (xs.map fun x => V.ref x.1) ∧ (∀ x ∈ xs, SqT K H x.1 [.int x.2.1, .int x.2.2]) ∧ xs ≠ [] ∧ ∀ m ∈ xs, (∀ y ∈ xs, m.2.1 ≤ y.2.1) → Q (.ref m.1) H
theorem cr_minT (hc : X.calm = true) (hu : X.A.units + 1 < cLine) : CallR X (.builtin "min") (rMinT X.K) := by
  intro pins s σ H vs us Q I r h
  obtain ⟨a, xs, rfl, hs, ht, hne, q⟩ := h
  obtain ⟨its, rv, hl, _⟩ := I.list hs
  rw [Vals.ref1 r]
  have ei : its = xs.map fun x => Value.ref x.1 := by
    have := vals_ref_eq (as := xs.map (·.1)) (us := its) (by rw [List.map_map]; exact rv)
    rw [this, List.map_map]; rfl
  rw [ei] at hl
  have nm : (toString "min" ++ toString ".loop" : String) = "min.loop" := by decide
  have la : a < s.heap.objs.size := by obtain ⟨_, e, _⟩ := hl.isList; exact Heap.lt_size e
  obtain ⟨p, rest, rfl⟩ : ∃ p rest, xs = p :: rest := by
    cases xs with
    | nil => exact absurd rfl hne
    | cons p rest => exact ⟨p, rest, rfl⟩
  have tups : ∀ x ∈ p :: rest, ∃ items : Array Value, IsTup s.heap x.1 items ∧ IntsAre items.toList [x.2.1, x.2.2] := fun x hx => by
    obtain ⟨itx, rx, px, _⟩ := I.tuple (ht x hx)
    exact ⟨itx.toArray, px, intsAre_of (ns := [x.2.1, x.2.2]) rx⟩
  refine call_function_tree F.kind_min F.plain_min F.entry_min (F.args_min1 _) ?_
  refine wpAny_bind (m := Builtin.Builtins.bindParams "min" ["key", "default"] 0 ⟨[], []⟩) (wpAny_of_eq (show Builtin.Builtins.bindParams "min" ["key", "default"] 0 ⟨[], []⟩ = pure [none, none] from rfl) ?_)
  refine wpAny_bind (wpAny_pure ?_)
  refine wpAny_bind (wpAny_pyIter_list hl.isList ?_)
  refine wpAny_bind (wpAny_newObj_type ?_)
  rw [nm]
  -- the store: the iterator, and the consumer's own list
  generalize hh1 : s.heap.push { cls := .type "list_iterator", data := .fields #[.ref a, .int 0 0] } = h1
  have sz : h1.objs.size = s.heap.objs.size + 1 := by rw [← hh1, Heap.size_push]
  have old1 : ∀ b o, s.heap.get? b = some o → h1.get? b = some o := fun b o e => by rw [← hh1]; exact Heap.get?_push_of_some _ e
  have it1 : h1.IsListIter s.heap.objs.size a 0 := by rw [← hh1]; exact ⟨_, Heap.get?_push_size _ rfl, rfl, rfl⟩
  show wpAny _ X.A.in1 (pure _) _ _ { s with heap := h1.push _ }
  have hS2 : (h1.push { cls := .type "list", data := .seq #[] }).get? h1.objs.size = some (lstObj #[] 0) := Heap.get?_push_size _ rfl
  have old2 : ∀ b o, s.heap.get? b = some o → (h1.push { cls := .type "list", data := .seq #[] }).get? b = some o := fun b o e => Heap.get?_push_of_some _ (old1 b o e)
  have it2 : (h1.push { cls := .type "list", data := .seq #[] }).IsListIter s.heap.objs.size a 0 := it1.at fun o e => Heap.get?_push_of_some _ e
  generalize h1.push { cls := .type "list", data := .seq #[] } = h2 at hS2 old2 it2 ⊢
  refine wpAny_pure ⟨plainId_quiet F.plain_min_loop _, ?_⟩
  have hSi : h1.objs.size ≠ s.heap.objs.size := by omega
  have apart : ∀ {b : Addr} {o : Obj}, s.heap.get? b = some o → b ≠ s.heap.objs.size ∧ b ≠ h1.objs.size := fun e => by
    have := Heap.lt_size e
    exact ⟨Nat.ne_of_lt this, Nat.ne_of_lt (by rw [sz]; exact Nat.lt_succ_of_lt this)⟩
  have hx0 : ∀ x ∈ p :: rest, x.1 ≠ s.heap.objs.size ∧ x.1 ≠ h1.objs.size ∧ ∃ items : Array Value, IsTup s.heap x.1 items ∧ IntsAre items.toList [x.2.1, x.2.2] := fun x hx => by
    obtain ⟨items, ⟨o, ho, r2⟩, q2⟩ := tups x hx
    obtain ⟨n1, n2⟩ := apart ho
    exact ⟨n1, n2, items, ⟨o, ho, r2⟩, q2⟩
  refine codeAny_builtin F.entry_min_loop ?_
  rw [Around.under_plainId F.plain_min_loop _]
  refine wpAny_bind (m := seqItems? (.ref h1.objs.size)) (wpAny_seqItems (s := { s with heap := h2 }) hS2 rfl ?_)
  have hL2 : h2.IsList a ((p :: rest).map fun x => Value.ref x.1).toArray := hl.isList.at fun o e => old2 _ _ e
  refine wpAny_bind (wpAny_tryCatch (wpAny_pyNext_list_item (s := { s with heap := h2 }) (x := .ref p.1) it2 hL2 (by simp) fun h3 it3 same => ?_))
  have hS3 : h3.get? h1.objs.size = some (lstObj #[] 0) := same.extBut _ _ hSi hS2
  refine wpAny_bind (m := updateSeq h1.objs.size (fun _ => #[Value.ref p.1, Value.ref p.1])) ?_
  refine wpAny_updateSeq (s := { s with heap := h3 }) hS3 rfl ?_
  rw [nm]
  refine wpAny_pure ⟨plainId_quiet F.plain_min_loop _, minT_loop (P := X.prog) (w := X.w) (A := X.A) (s0 := s) (it := s.heap.objs.size) (l := a) (S := h1.objs.size) (xs := p :: rest) (I.ok.hd hc) hu hSi (Nat.ne_of_lt la) (Nat.ne_of_lt (by rw [sz]; exact Nat.lt_succ_of_lt la)) hl.isList hx0 (fun m h' tk hm hle kp => ?_) rest.length 1 _ s.toks _ p (by simp; omega) List.mem_cons_self (fun y hy => ?_) (it3.at fun o e => (Heap.get?_update_other _ _ hSi).trans e) (fun b o n1 n2 e => (Heap.get?_update_other _ _ (Ne.symm n2)).trans (same.extBut b o n1 (old2 b o e))) (Heap.get?_update_self _ hS3 rfl)⟩
  · exact ⟨.ref m.1, H, I.kept fun b o e => kp b o (apart e).1 (apart e).2 e, rfl, q m hm hle⟩
  · have : y = p := by simpa using hy
    rw [this]; exact Int.le_refl _
/-- the reading of list(d.values()) -/
def tListVals (td : TE) : TE := fun σ H Q => td σ H fun x H1 => ∃ a kvs, x = V.ref a ∧ H1 a = some (.dK kvs) ∧ ∀ p, H1 p = none → Q (.ref p) (upd H1 p (.lst (kvs.map (·.2))))
theorem kv_vals : ∀ {kvs : List (Key × V)} {vs : List (Key × Value)}, KV kvs vs → Vals (kvs.map (·.2)) (vs.map (·.2)) := by
  intro kvs
  induction kvs with
  | nil => intro vs r; cases r; exact .nil
  | cons p r ih =>
    intro vs rel
    cases rel with
    | cons h t => exact .cons h.2 (ih t)
variable {o : Expr} {td : TE} {p pos apos mpos : Pos}
theorem pe_listVals (hc : X.calm = true) (hg : Gl X "list") (hm : X.mg "list" = none) (hd : PE X o td) (hbase : attributeBase o "values" X.env (eval o X.env) = eval o X.env := by rfl) (hline : (apos.endLine == mpos.line) = true := by rfl)
    (hse : starEach [Expr.Call (.Attribute o "values" apos) [] [] mpos] X.env = (false, eval (Expr.Call (.Attribute o "values" apos) [] [] mpos) X.env) :: starEach [] X.env := by rfl) :
    PE X (.Call (.Name "list" p) [.Call (.Attribute o "values" apos) [] [] mpos] [] pos) (tListVals td) := by
  refine ⟨fun pins s σ H Q I h => ?_⟩
  refine wpAny_Call_Name_kw (ld_blt I hg hm (u := .type "list") (by decide +kernel) ?_)
  refine PyProof.Rows.callWith_type1 ?_ hse rfl
  rw [hse]
  show wpAny _ _ (spliced ((false, eval (Expr.Call (.Attribute o "values" apos) [] [] mpos) X.env) :: backTo pos (starEach [] X.env))) _ _ s
  refine Calls.spliced_cons ?_
  refine wpAny_Call_method (T := "dict") (id := "dict.values") hbase rfl hline F.plainAttrs_dict F.slot_dict_values F.type_dict_values (thn (hd.run pins s σ H _ I h) fun v s1 ⟨x, H1, I1, r1, a, kvs, ex, ha, q⟩ => ?_)
  subst ex
  obtain rfl : v = Value.ref a := r1
  obtain ⟨hz, hsys, vs, rel, dof⟩ := I1.hok a _ ha
  obtain ⟨ep, dat⟩ := dof.dictAt
  have lk : kvs.length = vs.length := Paired.length rel
  refine ⟨dof.typeIs, dof.mapOf.noDict, ?_⟩
  show wpAny _ _ (callWith mpos (.builtin "dict.values") [.ref a] [] []) _ X.xe s1
  refine method_meetsIn F.slot_dict_values F.entry_dict_values rfl (PySem.evalArgs_none ⟨rfl, dof.typeIs, F.args_dict_values_1 _, _, meets_dict_values (mixKind X.prog X.w) a hsys, ⟨vs, dof⟩, ?_⟩)
  refine Calls.spliced_nil ?_
  have k1 : ∀ b u, s1.heap.get? b = some u → (s1.heap.push { cls := .type "dict_values", data := .fields #[.ref a] }).get? b = some u := fun b u e => Heap.get?_push_of_some _ e
  have I2 : Inv X pins σ H1 { s1 with heap := s1.heap.push { cls := .type "dict_values", data := .fields #[.ref a] } } := I1.kept (t' := s1.toks) k1
  refine PySem.W.kdl_call (PySem.W.kdl_values (knd := mixKind X.prog X.w) (r := s1.heap.objs.size) (d := a) (kvs := vs) (ep := ep)) (I1.ok.hd hc) ⟨⟨_, Heap.get?_push_size _ rfl, rfl, rfl⟩, dat.keep k1⟩ (by omega) fun h' tk acc c hk hS hacc => ?_
  have eacc : acc.toList = vs.map (·.2) := PySem.W.kdl_vals_eq _ (by rw [Array.length_toList]; exact hacc.1) fun j v e => hacc.2 j v (by rw [← Array.getElem?_toList]; exact e)
  refine ⟨.ref _, _, I2.laid (t' := tk) (o := .lst (kvs.map (·.2))) hk (Nat.le_refl _) ⟨by rw [List.length_map]; omega, acc.toList, c, ?_, by rw [Array.toArray_toList]; exact hS⟩, rfl, q _ (I2.hok.fresh (Nat.le_refl _))⟩
  rw [eacc]
  exact kv_vals rel
end
end GX

-- text LcT2
set_option maxRecDepth 100000
set_option maxHeartbeats 4000000
/-! LcT2: y = [..] whose tests and element may raise out of the def. -/
namespace GX
open PySem PySem.Spec PyProof.Rows L2 LamX
section
variable {X : Cx} {pins : List (Addr × Obj)} {σ : L2.St} {H : Hp} {s s' : Shared} {E : XK} {C : Addr}
/-- y = [elt for target in iter if ..] in a def that exceptions leave: tests and elt may raise -/
theorem ps_setLcT {i : Nat} {y : Str} {py spos : Pos} {elt tg iter : Expr} {ifs : List Expr} {scope : Scope} {own : List (Str × Nat)} {pos : Pos} {wi : TI} {g : TG} {tt : TT} {te : TE} (hc : X.calm = true) (hN : X.N.Nodup) (hs : X.stack = X.env :: X.outer) (hf : X.env.frame = some X.env.locals)
    (tk : L2.Takes X (fun cls d _ H => E cls d H)) (hy : X.N[i]? = some y) (hyl : X.env.scope.names.lookup y = some .local) (hsw : swapsWith (.ListComp elt [⟨tg, iter, ifs, 0⟩] scope pos) (some (.Name y py)) spos.line X.env = pure true) (hi : PI X tg iter wi) (ok : BlkOk X.N X.env.scope scope own)
    (hg : ∀ (s : Shared) (H : Hp) (C : Addr) (cl : List (Str × Addr)) (fp : List Addr), PG (X.blk s H scope (compEnvC scope cl C X.env) fp) tg g)
    (ht : ∀ (s : Shared) (H : Hp) (C : Addr) (cl : List (Str × Addr)) (fp : List Addr) (pn : List (Addr × Obj)) (xe : Value → Shared → Prop), Passes (L2.CX X.prog X.w) ((X.blk s H scope (compEnvC scope cl C X.env) fp).tr pn xe) E → PTs ((X.blk s H scope (compEnvC scope cl C X.env) fp).tr pn xe) ifs tt)
    (he : ∀ (s : Shared) (H : Hp) (C : Addr) (cl : List (Str × Addr)) (fp : List Addr) (pn : List (Addr × Obj)) (xe : Value → Shared → Prop), Passes (L2.CX X.prog X.w) ((X.blk s H scope (compEnvC scope cl C X.env) fp).tr pn xe) E →
      PE ((X.blk s H scope (compEnvC scope cl C X.env) fp).tr pn xe) elt te) (hsf : ∀ x, foldedSetIterable iter X.env x = pure x := by intro _; rfl) :
    PS X (.Assign [.Name y py] (.ListComp elt [⟨tg, iter, ifs, 0⟩] scope pos) spos) (tAsg (tLc wi g tt te (own.map (·.2))) (gName i)) := by
  refine ⟨fun pins s σ H D I h => ?_⟩
  rw [exec_Assign_Name_used _ _ _ _ hsw]
  refine wpAny_bind (wpAny_standAt (wpAny_bind (wpAny_bind (thn (lcT_core (Q := fun x H1 => gName i x σ H1 D.nx) (Qf := fun _ z => SP X pins D .next z) hc hN hs hf tk hi ok hg ht he hsf I h fun L C z m H' J q hn f => ?_) fun _ _ q => wpAny_pure (wpAny_pure q)))))
  obtain ⟨k0, k1, k2, k3, k4, k5⟩ := f
  show wpAny _ _ (assign (.Name y py) X.env (.ref L)) _ _ _
  refine wpAny_assign_Name (store_ok2 (v := V.ref L) J hN hy (.inl hyl) rfl (fun z2 J2 ⟨a, sb, ha⟩ => ⟨m, hn.sameBut sb (ha.elim (fun e => by rw [e]; exact k1) fun e z => k4 y a e z.symm), fun g3 sb3 => ?_⟩) (.inr hyl))
  exact ⟨_, H', J2.turned (t' := z2.toks) (fun b o hb e => (sb3.2 b hb).trans e) k0 k1 k3 k4 k5, q⟩
end
end GX

-- text K2W
set_option maxRecDepth 100000
set_option maxHeartbeats 4000000
namespace K2
open PySem PySem.Spec PyProof.Rows L2 LamX GX
section
variable {P : Program} {w : World} {K : PySem.W.Frag} {mg : Str → Option Value} {base : Heap}
variable {f : Addr} {cd : Value} {A : Around} {outer : List Env} {s : Shared} {H0 : Hp} {E : XK}
/-! ### groups of the law, and its cheapest net -/
structure Ls (K : PySem.W.Frag) (p0 d r n l dt o na la : Addr) (rs : List (List Int)) (TS OS : TSt) (L : List (Addr × Lk3)) (B : Hp) : Prop where
  tn : Tn K p0 d r n l dt o rs TS OS B
  na : B na = some (.lst ((nsT OS).map V.str))
  la : B la = some (.lst (refsL L))
  lk : isLinks B L
  eq : L.map (·.2) = lkT rs OS
section
variable {p0 d r n l dt o na la : Addr} {rs : List (List Int)} {TS OS : TSt} {L : List (Addr × Lk3)} {B B' : Hp}
theorem Le.lks {T : List (Addr × Str)} {H H' : Hp} {L : List (Addr × Lk3)} (x : Le T H H') (h : isLinks H L) : isLinks H' L := fun z hz => x.at (h z hz)
theorem Le.rwS {T : List (Addr × Str)} {H H' : Hp} {R : List (Addr × List Str)} (x : Le T H H') (h : isRowsS H R) : isRowsS H' R := fun z hz => x.at (h z hz)
theorem Ls.to (h : Ls K p0 d r n l dt o na la rs TS OS L B) (x : Le (T K) B B') : Ls K p0 d r n l dt o na la rs TS OS L B' := ⟨h.tn.to x, x.at h.na, x.at h.la, Le.lks x h.lk, h.eq⟩
theorem Ls.len (h : Ls K p0 d r n l dt o na la rs TS OS L B) : L.length ≤ 900 := by
  have e1 := congrArg List.length h.eq
  rw [List.length_map] at e1
  have := lkT_len (rs := rs) h.tn.gt
  omega
theorem Ls.ns5 (h : Ls K p0 d r n l dt o na la rs TS OS L B) : (nsT OS).length ≤ 5 := by have := nsT_len (TS := OS); have := h.tn.l5; omega
theorem Ls.ok (h : Ls K p0 d r n l dt o na la rs TS OS L B) : ∀ x ∈ nsT OS, okT x := fun _ hx => nsT_ok h.tn.gt hx
theorem Ls.nd (h : Ls K p0 d r n l dt o na la rs TS OS L B) : (nsT OS).Nodup := nsT_nd h.tn.gt
theorem Ls.wi (h : Ls K p0 d r n l dt o na la rs TS OS L B) : Within (nsT OS) (lkT rs OS) := lkT_in
end
section
variable {d c : Addr} {B H : Hp} {o u : HO}
theorem Nx.put (h : Nx K d B H) {p : Addr} (hp : B p = none) (h1 : H p = some u) (hu : PlainO u) (hne : p ≠ d) : Nx K d B (upd H p o) := by
  obtain ⟨a, e, ⟨x, y, z, g⟩⟩ := h
  exact ⟨a, e.set hp h1 hu, ⟨x, y, z, (upd_ne (Ne.symm hne)).trans g⟩⟩
/-- all that stands, but the dice and the list at c, as the ground -/
theorem Nx.rebase2 (h : Nx K d B H) {xs : List V} (hc : H c = some (.lst xs)) (hn : B c = none) : Nx K d (hid H [d, c]) H ∧ Le (T K) B (hid H [d, c]) :=
  ⟨⟨hid_no (by simp), hid_le h.tab, h.dice⟩, h.le.hid (fun q hq => by
    simp only [List.mem_cons, List.not_mem_nil, or_false] at hq
    rcases hq with rfl | rfl
    · exact h.nd
    · exact hn) (fun q hq u hu => by
    obtain ⟨a, e, ⟨x, y, z, g⟩⟩ := h
    simp only [List.mem_cons, List.not_mem_nil, or_false] at hq
    rcases hq with rfl | rfl
    · rw [g] at hu; cases hu; trivial
    · rw [hc] at hu; cases hu; trivial)⟩
theorem Nx.ne_new (h : Nx K d B H) {a : Addr} (hv : H a = none) : a ≠ d := fun e => h.off_new hv (List.mem_singleton.mpr e)
end
variable {p0 d r n l dt : Addr} {rs : List (List Int)}
def N4 (K : PySem.W.Frag) (p0 d r n l dt : Addr) (rs : List (List Int)) : L2.St → Hp → Prop := fun σ H => ∃ B TS OS o na la L ga ca R, Sl σ d r n o na ∧ At σ 13 (.ref la) ∧ At σ 18 (.ref ga) ∧ At σ 19 (.ref ca) ∧
  Nx K d B H ∧ Ls K p0 d r n l dt o na la rs TS OS L B ∧ B ga = some (.lst (refsS R)) ∧ isRowsS B R ∧ R.map (·.2) = joinedL (nsT OS) (lkT rs OS) ∧ B ca = none ∧ H ca = some (.lst []) ∧ ca ≠ d
theorem ns4 (C : Ctx K mg base) (hr : Room 9 (XN P w K mg base f cd A outer s H0 E).A) : Step (XN P w K mg base f cd A outer s H0 E) (sn 4) (N3 K p0 d r n l dt rs) (N4 K p0 d r n l dt rs) := by
  have nn := sc_l_net.nd
  refine ⟨_, ps_asg (pe_tup (pa_cons (pe_cx (ok_lgroups (P := P) (w := w) C) hr (by decide) rfl passA (pa_cons (pv 12) (pa_cons (pv 13) pa_nil))) (pa_cons (pe_lst pa_nil) pa_nil))) (pg_tup rfl (pgs_cons (pg_name (i := 18) nn rfl (by first | exact Or.inl rfl | exact Or.inr rfl)) (pgs_cons (pg_name (i := 19) nn rfl (by first | exact Or.inl rfl | exact Or.inr rfl)) pgs_nil))), fun D σ H hM hq => ?_⟩
  obtain ⟨B, TS, OS, o, na, la, L, sl, h13, X, O, hna, hla, hlk, he⟩ := hM
  have S : Ls K p0 d r n l dt o na la rs TS OS L B := ⟨O, hna, hla, hlk, he⟩
  have l900 := S.len
  have n5 := S.ns5
  refine ⟨_, sl.2.2.2.2.2, _, h13, na, la, nsT OS, L, rfl, SqL.of (X.le.at hna), SqL.of (X.le.at hla), Le.lks X.le hlk, X.tab, by omega, by omega, S.ok, S.nd, by rw [he]; exact S.wi, fun H1 t R L1 htn ht hR eR => ?_⟩
  rw [he] at eR
  have X1 := X.to L1
  refine ⟨by show 0 ≤ sizeLine; decide, fun ca hca => ?_⟩
  have X2 := X1.new (o := .lst []) hca
  have ht2 := (upd_ne (o := .lst []) (ne_of_none ht hca)).trans ht
  have hR2 : isRowsS (upd H1 ca (.lst [])) R := fun z hz => (upd_ne (ne_of_none (hR z hz) hca)).trans (hR z hz)
  have hc2 : upd H1 ca (.lst []) ca = some (.lst []) := upd_same
  have hBc : B ca = none := X1.le.no _ hca
  have hcd := X1.ne_new hca
  have htc : t ≠ ca := ne_of_none ht hca
  have htd : t ≠ d := X.ne_new htn
  have hRc : ∀ z ∈ R, z.1 ≠ ca := fun z hz => ne_of_none (hR z hz) hca
  generalize upd H1 ca (.lst []) = H2 at X2 ht2 hR2 hc2 ⊢
  refine ⟨by show 2 ≤ sizeLine; decide, fun t0 ht0 => ?_⟩
  have X3 := X2.new (o := .tup [.ref t, .ref ca]) ht0
  have ht3 := (upd_ne (o := .tup [.ref t, .ref ca]) (ne_of_none ht2 ht0)).trans ht2
  have hc3 := (upd_ne (o := .tup [.ref t, .ref ca]) (ne_of_none hc2 ht0)).trans hc2
  have hR3 : isRowsS (upd H2 t0 (.tup [.ref t, .ref ca])) R := fun z hz => (upd_ne (ne_of_none (hR2 z hz) ht0)).trans (hR2 z hz)
  have h03 : upd H2 t0 (.tup [.ref t, .ref ca]) t0 = some (.tup [.ref t, .ref ca]) := upd_same
  generalize upd H2 t0 (.tup [.ref t, .ref ca]) = H3 at X3 ht3 hc3 hR3 h03 ⊢
  refine ⟨t0, _, rfl, SqT.of h03, rfl, _, _, rfl, _, _, rfl, rfl, ?_⟩
  obtain ⟨X4, X5⟩ := X3.rebase2 hc3 hBc
  refine hq _ _ ⟨_, TS, OS, o, na, la, L, t, ca, R, (sl.set (by decide)).set (by decide), at_set (at_set h13 (by decide)) (by decide), at_set (at_self (by rw [sl.1]; decide)) (by decide), at_self (by rw [List.length_set, sl.1]; decide), X4, S.to X5, hid_at ht3 (by simp [htd, htc]), fun z hz => hid_at (hR3 z hz) ?_, eR, hid_no (by simp), hc3, hcd⟩
  simp only [List.mem_cons, List.not_mem_nil, or_false]
  rintro (e | e)
  · exact X3.off (hR3 z hz) (fun _ _ _ z => by cases z) (List.mem_singleton.mpr e)
  · exact hRc z hz e
/-! the links turned: far, then names -/
def isRev (H : Hp) (L : List (Addr × Lk3)) : Prop := ∀ x ∈ L, H x.1 = some (.tup [.int x.2.2.2, .str x.2.1, .str x.2.2.1])
theorem dp_rev {H : Hp} {x : Addr × Lk3} (h : H x.1 = some (.tup [.int x.2.2.2, .str x.2.1, .str x.2.2.1])) : Dp K H (.ref x.1) (lkKey x.2) := .tup (SqT.of h) (.cons (.int _) (.cons (.str _) (.cons (.str _) .nil)))
theorem lkKey_alike (a b : Lk3) : PySem.W.alike (lkKey a) (lkKey b) = true := by simp [lkKey, PySem.W.alike, PySem.W.alikeAll]
theorem lkKey_depth (a : Lk3) : (lkKey a).depth = 1 := by
  unfold lkKey
  simp [PyData.depth, PyData.depthAll]
theorem eqv_rowsS : ∀ R S : List (List Str), PyData.eqvAll (R.map tupS) (S.map tupS) = decide (R = S)
  | [], [] => rfl
  | [], _ :: _ => rfl
  | _ :: _, [] => rfl
  | x :: xs, y :: ys => by
    show (PyData.eqv (tupS x) (tupS y) && PyData.eqvAll (xs.map tupS) (ys.map tupS)) = _
    rw [eqv_rowsS xs ys]
    have e : PyData.eqv (tupS x) (tupS y) = decide (x = y) := eqv_strs x y
    rw [e]
    by_cases h : x = y
    · subst h; simp
    · simp [h]
theorem dp_rows {H : Hp} : ∀ {R : List (Addr × List Str)}, isRowsS H R → DpAll K H (refsS R) ((R.map (·.2)).map tupS)
  | [], _ => .nil
  | x :: r, h => .cons (.tup (SqT.of (h x List.mem_cons_self)) (DpAll.strs _)) (dp_rows fun y hy => h y (List.mem_cons_of_mem _ hy))
theorem shaped_rowsS {R : List (List Str)} (h : ∀ r ∈ R, ∀ x ∈ r, okT x) : SeqAt.shaped (.list (R.map tupS)) = true := shaped_rows fun d hd => by
  obtain ⟨r, hr, rfl⟩ := List.mem_map.mp hd
  exact lay_tuple (names_lay (h r hr))
theorem part_ok {ns : List Str} {ls : List Lk3} (nd : ns.Nodup) (w : Within ns ls) (ok : ∀ x ∈ ns, okT x) : ∀ r ∈ joinedL ns ls, ∀ x ∈ r, okT x := fun r hr x hx =>
  ok x ((joinedL_part nd w).perm.mem_iff.mp (List.mem_flatten.mpr ⟨r, hr, hx⟩))
end
end K2

-- text K2X
set_option maxRecDepth 100000
set_option maxHeartbeats 4000000
namespace K2
open PySem PySem.Spec PyProof.Rows L2 LamX GX
section
variable {P : Program} {w : World} {K : PySem.W.Frag} {mg : Str → Option Value} {base : Heap}
variable {f : Addr} {cd : Value} {A : Around} {outer : List Env} {s : Shared} {H0 : Hp} {E : XK}
/-! ### the law's cheapest net -/
variable {p0 d r n l dt : Addr} {rs : List (List Int)}
def N5 (K : PySem.W.Frag) (p0 d r n l dt : Addr) (rs : List (List Int)) : L2.St → Hp → Prop := fun σ H => ∃ B TS OS o na la L ga ca R Cc, Sl σ d r n o na ∧ At σ 13 (.ref la) ∧ At σ 18 (.ref ga) ∧ At σ 19 (.ref ca) ∧
  Nx K d B H ∧ Ls K p0 d r n l dt o na la rs TS OS L B ∧ B ga = some (.lst (refsS R)) ∧ isRowsS B R ∧ R.map (·.2) = joinedL (nsT OS) (lkT rs OS) ∧ B ca = some (.lst (refsL Cc)) ∧ isLinks B Cc ∧ Cc.map (·.2) = cheapL (nsT OS) (lkT rs OS)
theorem refsL_dice {L : List (Addr × Lk3)} {x y z : Int} : HO.lst (refsL L) ≠ dV x y z := fun e => by
  have : refsL L = [V.int x, V.int y, V.int z] := HO.lst.inj e
  cases L with
  | nil => cases this
  | cons a t => cases this
theorem ns5 (C : Ctx K mg base) (hr : Room 9 (XN P w K mg base f cd A outer s H0 E).A) : Step (XN P w K mg base f cd A outer s H0 E) (sn 5) (N4 K p0 d r n l dt rs) (N5 K p0 d r n l dt rs) := by
  have nn := sc_l_net.nd
  refine ⟨_, ps_for ownsA rfl (pi_list (pe_callB (cr_sortDat (hr.mono (by decide))) (by rfl) C.t.b_sorted (by decide +kernel) (pa_cons (pe_lc (own := [("one", 15), ("other", 16), ("far", 17)]) (g := gTup K 3 (gCons (gName 15) (gCons (gName 16) (gCons (gName 17) gNil)))) rfl nn (pi_list (pv 13)) (blkOk_by (N := n_l_net) (sc := defScope s_l_net) (by decide +kernel))
      (fun _ _ _ _ _ => by exact pg_tup rfl (pgs_cons (pg_name (i := 15) nn rfl (by first | exact Or.inl rfl | exact Or.inr rfl)) (pgs_cons (pg_name (i := 16) nn rfl (by first | exact Or.inl rfl | exact Or.inr rfl)) (pgs_cons (pg_name (i := 17) nn rfl (by first | exact Or.inl rfl | exact Or.inr rfl)) pgs_nil)))) (fun _ _ _ _ _ => pts_nil) (fun _ _ _ _ _ => by exact pe_tup (pa_cons (pv 17) (pa_cons (pv 15) (pa_cons (pv 16) pa_nil))))) pa_nil))) (pg_tup rfl (pgs_cons (pg_name (i := 17) nn rfl (by first | exact Or.inl rfl | exact Or.inr rfl)) (pgs_cons (pg_name (i := 15) nn rfl (by first | exact Or.inl rfl | exact Or.inr rfl)) (pgs_cons (pg_name (i := 16) nn rfl (by first | exact Or.inl rfl | exact Or.inr rfl)) pgs_nil))))
    (pss_one (ps_if (pt_cmpR (op_neD hr.units) (pe_cx (ok_lgroups (P := P) (w := w) C) hr (by decide) rfl passA (pa_cons (pv 12) (pa_cons (pv 19) pa_nil))) (pe_cx (ok_lgroups (P := P) (w := w) C) hr (by decide) rfl passA (pa_cons (pv 12) (pa_cons (pe_op op_cat (pv 19) (pe_lst (pa_cons (pe_tup (pa_cons (pv 15) (pa_cons (pv 16) (pa_cons (pv 17) pa_nil)))) pa_nil))) pa_nil))) (nomark _))
      (pss_one (ps_expr (pe_bm PySem.F.plainAttrs_list PySem.F.slot_list_append PySem.F.type_list_append mt_append (pv 19) (pa_cons (pe_tup (pa_cons (pv 15) (pa_cons (pv 16) (pa_cons (pv 17) pa_nil)))) pa_nil)))) pss_nil)), fun D σ H hM hq => ?_⟩
  obtain ⟨B, TS, OS, o, na, la, L, ga, ca, R, sl, h13, h18, h19, X, S, hga, hR, eR, hBc, hca, hcd⟩ := hM
  have l900 := S.len
  have n5 := S.ns5
  obtain ⟨hl, h0, h1, h2, h5, h12⟩ := id sl
  have hlaH := X.le.at S.la
  have hlkH := Le.lks X.le S.lk
  refine ⟨_, h13, la, rfl, ⟨_, SqL.of hlaH⟩, fun D1 hD1 => ?_⟩
  obtain ⟨a0, a1, a2, a3, a4, a5, a6, a7, a8, a9, a10, a11, a12, a13, a14, a15, a16, a17, a18, a19, a20, a21, a22, a23, a24, a25, a26, a27, a28, a29, a30, a31, rfl⟩ := ex32 hl
  refine lc_n L.length (fun i H' => Le (T K) H H' ∧ ∃ A, H' D1 = some (.lst (refsL A)) ∧ isRev H' A ∧ A.map (·.2) = (L.map (·.2)).take i)
    ⟨(Le.refl X.tab).new hD1, [], upd_same, (fun x hx => by cases hx), rfl⟩ (fun i H1 hi ⟨L1, Aa, e1, e2, e3⟩ => ⟨Itl_go (L1.seqL (SqL.of hlaH)) (by unfold refsL; rw [List.length_map]; exact hi), ?_⟩) (fun H1 ⟨L1, Aa, e1, e2, e3⟩ => ⟨Itl_stop (L1.seqL (SqL.of hlaH)) (by unfold refsL; rw [List.length_map]; exact Nat.le_refl _), ?_⟩)
  · intro x H2 hy
    obtain ⟨rfl, hx⟩ := Itl_yld (L1.seqL (SqL.of hlaH)) hy
    obtain ⟨z, hz, rfl⟩ := gmap hx
    refine ⟨z.1, _, rfl, SqT.of (L1.at (hlkH z (List.mem_of_getElem? hz))), rfl, _, _, rfl, _, _, rfl, _, _, rfl, rfl, rfl, ?_⟩
    refine yes_ (iteT ⟨_, rfl, _, rfl, _, rfl, by show 3 ≤ sizeLine; decide, fun t ht => ?_⟩)
    have e4 := (upd_ne (o := .tup [.int z.2.2.2, .str z.2.1, .str z.2.2.1]) (ne_of_none e1 ht)).trans e1
    refine ⟨_, e4, ?_, (L1.new ht).set hD1 e4, Aa ++ [(t, z.2)], ?_, fun y hy2 => ?_, ?_⟩
    · have := congrArg List.length e3
      rw [List.length_map, List.length_take, List.length_map] at this
      unfold refsL
      rw [List.length_map]
      exact Nat.lt_of_le_of_lt (show Aa.length ≤ 900 by omega) (by decide)
    · rw [upd_same]
      unfold refsL
      rw [List.map_append]; rfl
    · rcases List.mem_append.mp hy2 with hy2 | hy2
      · have f1 := e2 y hy2
        have f2 := (upd_ne (o := .tup [.int z.2.2.2, .str z.2.1, .str z.2.2.1]) (ne_of_none f1 ht)).trans f1
        exact (upd_ne (fun w => by rw [w, e1] at f1; cases f1)).trans f2
      · rw [List.mem_singleton.mp hy2]
        exact (upd_ne (ne_of_none e1 ht).symm).trans upd_same
    · rw [List.map_append, e3, GX.take_snoc (c := z.2) (by rw [List.getElem?_map, hz]; rfl)]
      rfl
  rw [List.take_of_length_le (by rw [List.length_map]; exact Nat.le_refl _), S.eq] at e3
  refine ⟨D1, Aa.map fun y => (y.1, lkKey y.2), rfl, .inl (SqL.of (by rw [List.map_map]; exact e1)), fun x hx => ?_, ?_, ?_, fun x hx => ?_, fun c hc => ?_⟩
  · obtain ⟨y, hy, rfl⟩ := List.mem_map.mp hx
    exact dp_rev (e2 y hy)
  · rw [List.map_map]
    exact PySem.W.AllAlike.of fun b b' => lkKey_alike _ _
  · refine .inl fun dd hd => ?_
    rw [List.map_map] at hd
    obtain ⟨y, hy, rfl⟩ := List.mem_map.mp hd
    exact ⟨_, _, rfl⟩
  · obtain ⟨y, hy, rfl⟩ := List.mem_map.mp hx
    show (lkKey y.2).depth ≤ 8
    rw [lkKey_depth]; decide
  have ems : (Aa.map fun y => (y.1, lkKey y.2)).mergeSort (PySem.W.dataLe false fun x : Addr × PyData => x.2) = (Aa.mergeSort (PySem.W.dataLe false fun y : Addr × Lk3 => lkKey y.2)).map fun y => (y.1, lkKey y.2) :=
    (List.map_mergeSort (r := PySem.W.dataLe false fun y : Addr × Lk3 => lkKey y.2) (s := PySem.W.dataLe false fun x : Addr × PyData => x.2) (f := fun y : Addr × Lk3 => (y.1, lkKey y.2)) (fun a _ b _ => rfl)).symm
  rw [ems, List.map_map]
  have eM : (Aa.mergeSort (PySem.W.dataLe false fun y : Addr × Lk3 => lkKey y.2)).map (·.2) = lsort (lkT rs OS) := by
    rw [← e3]
    exact List.map_mergeSort (r := PySem.W.dataLe false fun y : Addr × Lk3 => lkKey y.2) (s := PySem.W.dataLe false lkKey) (f := fun y : Addr × Lk3 => y.2) (fun a _ b _ => rfl)
  have hMr : isRev H1 (Aa.mergeSort (PySem.W.dataLe false fun y : Addr × Lk3 => lkKey y.2)) := fun y hy => e2 y ((List.mergeSort_perm _ _).mem_iff.mp hy)
  have hMc : (Aa.mergeSort (PySem.W.dataLe false fun y : Addr × Lk3 => lkKey y.2)).map ((fun x : Addr × PyData => V.ref x.1) ∘ fun y => (y.1, lkKey y.2)) = refsL (Aa.mergeSort (PySem.W.dataLe false fun y : Addr × Lk3 => lkKey y.2)) := rfl
  rw [hMc]
  generalize Aa.mergeSort (PySem.W.dataLe false fun y : Addr × Lk3 => lkKey y.2) = M at eM hMr ⊢
  have X1 := (X.to L1).new (o := .lst (refsL M)) hc
  have hc2 : upd H1 c (.lst (refsL M)) c = some (.lst (refsL M)) := upd_same
  have hca2 := (upd_ne (o := .lst (refsL M)) (ne_of_none (L1.at hca) hc)).trans (L1.at hca)
  have hM2 : isRev (upd H1 c (.lst (refsL M))) M := fun y hy => (upd_ne (ne_of_none (hMr y hy) hc)).trans (hMr y hy)
  have hcca : c ≠ ca := (ne_of_none (L1.at hca) hc).symm
  have hcd2 : c ≠ d := (X.to L1).ne_new hc
  generalize upd H1 c (.lst (refsL M)) = H2 at X1 hc2 hca2 hM2 ⊢
  obtain ⟨X2, X3⟩ := X1.rebase2 hca2 hBc
  have Gc : hid H2 [d, ca] c = some (.lst (refsL M)) := hid_at hc2 (by simp [hcd2, hcca])
  have GM : isRev (hid H2 [d, ca]) M := fun y hy => hid_at (hM2 y hy) (by
    simp only [List.mem_cons, List.not_mem_nil, or_false]
    rintro (e | e)
    · exact X1.off (hM2 y hy) (fun _ _ _ z => by cases z) (List.mem_singleton.mpr e)
    · have := hM2 y hy
      rw [e, hca2] at this; cases this)
  have Gca : hid H2 [d, ca] ca = none := hid_no (by simp)
  have S2 := S.to X3
  have Gga := X3.at hga
  have GR := Le.rwS X3 hR
  clear hM2 hMr X1 X L1 e1 e2 e3
  generalize hid H2 [d, ca] = G at X2 Gc GM Gca S2 Gga GR
  have wl : ∀ k ∈ lsort (lkT rs OS), k ∈ lkT rs OS := fun k hk => (lsort_perm _).mem_iff.mp hk
  have lM : (lsort (lkT rs OS)).length ≤ 900 := by rw [(lsort_perm _).length_eq, ← S.eq, List.length_map]; exact l900
  have wk : ∀ j, ∀ k ∈ kru (nsT OS) [] ((lsort (lkT rs OS)).take j), k ∈ lkT rs OS := fun j k hk => by
    rcases kru_sub _ _ _ k hk with z | z
    · cases z
    · exact wl k (List.mem_of_mem_take z)
  have lk : ∀ j, (kru (nsT OS) [] ((lsort (lkT rs OS)).take j)).length ≤ 900 := fun j => by
    have h1 := kru_len (nsT OS) ((lsort (lkT rs OS)).take j) []
    rw [List.length_nil, List.length_take] at h1
    omega
  refine ⟨c, rfl, ⟨_, SqL.of hc2⟩, ?_⟩
  refine for_list (xs := refsL M) (fun j σ H' => Sl σ d r n o na ∧ At σ 13 (.ref la) ∧ At σ 18 (.ref ga) ∧ At σ 19 (.ref ca) ∧ Nx K d G H' ∧ ∃ Cc, H' ca = some (.lst (refsL Cc)) ∧ isLinks H' Cc ∧ Cc.map (·.2) = kru (nsT OS) [] ((lsort (lkT rs OS)).take j))
    ⟨sl, h13, h18, h19, X2, [], hca2, (fun x hx => by cases hx), rfl⟩ (fun j σ H' _ hP => SqL.of (hP.2.2.2.2.1.le.at Gc)) (fun j v σ H3 hv ⟨sl3, g13, g18, g19, X4, Cc, k1, k2, k3⟩ => ?_) (fun σ H3 ⟨sl3, g13, g18, g19, X4, Cc, k1, k2, k3⟩ => ?_)
  · obtain ⟨x, hx, rfl⟩ := gmap hv
    have hxm := List.mem_of_getElem? hx
    have hxl : (lsort (lkT rs OS))[j]? = some x.2 := by rw [← eM, List.getElem?_map, hx]; rfl
    refine ⟨x.1, _, rfl, SqT.of (X4.le.at (GM x hxm)), rfl, _, _, rfl, _, _, rfl, _, _, rfl, rfl, ?_⟩
    have sl4 := ((sl3.set (j := 17) (x := some (.int x.2.2.2)) (by decide)).set (j := 15) (x := some (.str x.2.1)) (by decide)).set (j := 16) (x := some (.str x.2.2.1)) (by decide)
    have i13 : At (((σ.set 17 (some (.int x.2.2.2))).set 15 (some (.str x.2.1))).set 16 (some (.str x.2.2.1))) 13 (.ref la) := at_set (at_set (at_set g13 (by decide)) (by decide)) (by decide)
    have i18 : At (((σ.set 17 (some (.int x.2.2.2))).set 15 (some (.str x.2.1))).set 16 (some (.str x.2.2.1))) 18 (.ref ga) := at_set (at_set (at_set g18 (by decide)) (by decide)) (by decide)
    have i19 : At (((σ.set 17 (some (.int x.2.2.2))).set 15 (some (.str x.2.1))).set 16 (some (.str x.2.2.1))) 19 (.ref ca) := at_set (at_set (at_set g19 (by decide)) (by decide)) (by decide)
    have i17 : At (((σ.set 17 (some (.int x.2.2.2))).set 15 (some (.str x.2.1))).set 16 (some (.str x.2.2.1))) 17 (.int x.2.2.2) := at_set (at_set (at_self (by rw [sl3.1]; decide)) (by decide)) (by decide)
    have i15 : At (((σ.set 17 (some (.int x.2.2.2))).set 15 (some (.str x.2.1))).set 16 (some (.str x.2.2.1))) 15 (.str x.2.1) := at_set (at_self (by rw [List.length_set, sl3.1]; decide)) (by decide)
    have i16 : At (((σ.set 17 (some (.int x.2.2.2))).set 15 (some (.str x.2.1))).set 16 (some (.str x.2.2.1))) 16 (.str x.2.2.1) := at_self (by rw [List.length_set, List.length_set, sl3.1]; decide)
    have i12 := sl4.2.2.2.2.2
    have wC : Within (nsT OS) (Cc.map (·.2)) := fun k hk => by rw [k3] at hk; exact S2.wi k (wk j k hk)
    have lC : Cc.length ≤ 900 := by have := lk j; rw [← k3, List.length_map] at this; exact this
    have S4 := S2.to X4.le
    refine ⟨_, i12, _, i19, na, ca, nsT OS, Cc, rfl, SqL.of S4.na, SqL.of k1, k2, X4.tab, by omega, by omega, S2.ok, S2.nd, wC, fun H5 t1 R1 L5 ht1n ht1 hR1 eR1 => ?_⟩
    have X5 := X4.to L5
    have k15 := L5.at k1
    have k25 := Le.lks L5 k2
    refine ⟨_, i12, _, i19, _, i15, _, i16, _, i17, by show 3 ≤ sizeLine; decide, fun tt htt => ?_⟩
    have U1 := (Le.refl X5.tab).new (o := .tup [.str x.2.1, .str x.2.2.1, .int x.2.2.2]) htt
    have htt6 : upd H5 tt (.tup [.str x.2.1, .str x.2.2.1, .int x.2.2.2]) tt = some (.tup [.str x.2.1, .str x.2.2.1, .int x.2.2.2]) := upd_same
    generalize upd H5 tt (.tup [.str x.2.1, .str x.2.2.1, .int x.2.2.2]) = H6 at U1 htt6 ⊢
    refine ⟨by show 1 ≤ sizeLine; decide, fun e he => ?_⟩
    have U2 := U1.new (o := .lst [.ref tt]) he
    have he7 : upd H6 e (.lst [.ref tt]) e = some (.lst [.ref tt]) := upd_same
    have htt7 := (upd_ne (o := .lst [.ref tt]) (ne_of_none htt6 he)).trans htt6
    generalize upd H6 e (.lst [.ref tt]) = H7 at U2 he7 htt7 ⊢
    refine ⟨ca, e, _, _, rfl, rfl, U2.at k15, he7, by unfold refsL; rw [List.length_map]; exact Nat.le_trans (show Cc.length + 1 ≤ 1000 by omega) (by decide), fun k hk => ?_⟩
    have U3 := U2.new (o := .lst (refsL Cc ++ [.ref tt])) hk
    have hk8 : upd H7 k (.lst (refsL Cc ++ [.ref tt])) k = some (.lst (refsL (Cc ++ [(tt, x.2)]))) := upd_same.trans (by unfold refsL; rw [List.map_append]; rfl)
    have htt8 := (upd_ne (o := .lst (refsL Cc ++ [.ref tt])) (ne_of_none htt7 hk)).trans htt7
    generalize upd H7 k (.lst (refsL Cc ++ [.ref tt])) = H8 at U3 hk8 htt8 ⊢
    have X8 := X5.to U3
    have lk8 : isLinks H8 (Cc ++ [(tt, x.2)]) := fun z hz => by
      rcases List.mem_append.mp hz with hz | hz
      · exact U3.at (k25 z hz)
      · rw [List.mem_singleton.mp hz]; exact htt8
    have w8 : Within (nsT OS) ((Cc ++ [(tt, x.2)]).map (·.2)) := fun z hz => by
      rw [List.map_append] at hz
      rcases List.mem_append.mp hz with hz | hz
      · exact wC z hz
      · rw [List.mem_singleton.mp hz]; exact S2.wi _ (wl _ (List.mem_of_getElem? hxl))
    refine ⟨na, k, nsT OS, Cc ++ [(tt, x.2)], rfl, SqL.of (S2.to X8.le).na, SqL.of hk8, lk8, X8.tab, by omega, by rw [List.length_append]; show Cc.length + 1 ≤ 1000; omega, S2.ok, S2.nd, w8, fun H9 t2 R2 L9 ht2n ht2 hR2 eR2 => ?_⟩
    have LL := U3.trans L9
    have X9 := X8.to L9
    have k19 := LL.at k15
    have k29 := Le.lks LL k25
    refine ⟨_, _, .lst (SqL.of (LL.at ht1)) (dp_rows (Le.rwS LL hR1)), .lst (SqL.of ht2) (dp_rows hR2), by rw [eR1]; exact shaped_rowsS (part_ok S2.nd wC S2.ok), by rw [eR2]; exact shaped_rowsS (part_ok S2.nd w8 S2.ok), _, rfl, ?_⟩
    have ev : PyData.eqv (.list ((R1.map (·.2)).map tupS)) (.list ((R2.map (·.2)).map tupS)) = decide (R1.map (·.2) = R2.map (·.2)) := eqv_rowsS _ _
    rw [ev]
    have w8' : Within (nsT OS) (kru (nsT OS) [] ((lsort (lkT rs OS)).take j) ++ [x.2]) := by rw [← k3]; rw [List.map_append] at w8; exact w8
    have js := joined_same S2.nd w8'
    rw [eR1, eR2, List.map_append, k3]
    have step := kru_snoc (nsT OS) x.2 ((lsort (lkT rs OS)).take j) []
    rw [← GX.take_snoc hxl] at step
    by_cases hb : joinedL (nsT OS) (kru (nsT OS) [] ((lsort (lkT rs OS)).take j)) = joinedL (nsT OS) (kru (nsT OS) [] ((lsort (lkT rs OS)).take j) ++ [x.2])
    · rw [if_pos (js.mp hb)] at step
      refine iteNS hb ?_
      exact ⟨sl4, i13, i18, i19, X9, Cc, k19, k29, by rw [step]; exact k3⟩
    · rw [if_neg (fun z => hb (js.mpr z))] at step
      rw [decide_eq_false (show ¬ joinedL (nsT OS) (kru (nsT OS) [] ((lsort (lkT rs OS)).take j)) = joinedL (nsT OS) (kru (nsT OS) [] ((lsort (lkT rs OS)).take j) ++ List.map (fun x => x.2) [(tt, x.2)]) from hb)]
      refine iteT ⟨_, i19, .inl ⟨rfl, _, SqL.of k19⟩, _, i15, _, i16, _, i17, by show 3 ≤ sizeLine; decide, fun t3 ht3 => ?_⟩
      have Xa := X9.new (o := .tup [.str x.2.1, .str x.2.2.1, .int x.2.2.2]) ht3
      have k1a := (upd_ne (o := .tup [.str x.2.1, .str x.2.2.1, .int x.2.2.2]) (ne_of_none k19 ht3)).trans k19
      have k2a : isLinks (upd H9 t3 (.tup [.str x.2.1, .str x.2.2.1, .int x.2.2.2])) Cc := fun z hz => (upd_ne (ne_of_none (k29 z hz) ht3)).trans (k29 z hz)
      have ht3a : upd H9 t3 (.tup [.str x.2.1, .str x.2.2.1, .int x.2.2.2]) t3 = some (.tup [.str x.2.1, .str x.2.2.1, .int x.2.2.2]) := upd_same
      generalize upd H9 t3 (.tup [.str x.2.1, .str x.2.2.1, .int x.2.2.2]) = Ha at Xa k1a k2a ht3a ⊢
      refine ⟨ca, _, _, rfl, rfl, k1a, by unfold refsL; rw [List.length_map]; exact Nat.lt_of_lt_of_le (show Cc.length < 1000 by omega) (by decide), ?_⟩
      refine ⟨sl4, i13, i18, i19, Xa.put Gca k1a trivial hcd, Cc ++ [(t3, x.2)], ?_, fun z hz => ?_, ?_⟩
      · rw [upd_same]
        unfold refsL
        rw [List.map_append]; rfl
      · have hz0 : Ha z.1 = some (.tup [.str z.2.1, .str z.2.2.1, .int z.2.2.2]) := by
          rcases List.mem_append.mp hz with hz | hz
          · exact k2a z hz
          · rw [List.mem_singleton.mp hz]; exact ht3a
        exact (upd_ne (fun w => by rw [w, k1a] at hz0; cases hz0)).trans hz0
      · rw [List.map_append, k3, step]
        rfl
  · have hlen : (refsL M).length = (lsort (lkT rs OS)).length := by rw [← eM]; unfold refsL; rw [List.length_map, List.length_map]
    rw [hlen, List.take_of_length_le (Nat.le_refl _)] at k3
    obtain ⟨Y1, Y2⟩ := X4.rebase
    refine hq _ _ ⟨_, TS, OS, o, na, la, L, ga, ca, R, Cc, sl3, g13, g18, g19, Y1, S2.to Y2, Y2.at Gga, Le.rwS Y2 GR, eR, hid_at k1 (X4.off k1 fun _ _ _ => refsL_dice), fun z hz => hid_at (k2 z hz) (X4.off (k2 z hz) fun _ _ _ e => by cases e), k3⟩
end
end K2

-- text K2Y
set_option maxRecDepth 100000
set_option maxHeartbeats 4000000
namespace K2
open PySem PySem.Spec PyProof.Rows L2 LamX GX
section
variable {P : Program} {w : World} {K : PySem.W.Frag} {mg : Str → Option Value} {base : Heap}
variable {f : Addr} {cd : Value} {A : Around} {outer : List Env} {s : Shared} {H0 : Hp} {E : XK}
/-! ### the law's weak towers -/
variable {p0 d r n l dt : Addr} {rs : List (List Int)}
def N6 (K : PySem.W.Frag) (p0 d r n l dt : Addr) (rs : List (List Int)) (wk : List Str → List Lk3 → List Str) : L2.St → Hp → Prop := fun σ H => ∃ B TS OS o na la L ga ca R Cc wa, Sl σ d r n o na ∧ At σ 13 (.ref la) ∧ At σ 18 (.ref ga) ∧ At σ 19 (.ref ca) ∧ At σ 20 (.ref wa) ∧
  Nx K d B H ∧ Ls K p0 d r n l dt o na la rs TS OS L B ∧ B ga = some (.lst (refsS R)) ∧ isRowsS B R ∧ R.map (·.2) = joinedL (nsT OS) (lkT rs OS) ∧ B ca = some (.lst (refsL Cc)) ∧ isLinks B Cc ∧ Cc.map (·.2) = cheapL (nsT OS) (lkT rs OS) ∧ B wa = some (.lst ((wk (nsT OS) (lkT rs OS)).map V.str))
def noWeak : List Str → List Lk3 → List Str := fun _ _ => []
def allWeak : List Str → List Lk3 → List Str := fun ns ls => ns.filter (lawWeak ns ls)
theorem ns6 (C : Ctx K mg base) (hr : Room 9 (XN P w K mg base f cd A outer s H0 E).A) : Step (XN P w K mg base f cd A outer s H0 E) (sn 6) (N5 K p0 d r n l dt rs) (N6 K p0 d r n l dt rs noWeak) := by
  have nn := sc_l_net.nd
  refine ⟨_, ps_set (i := 20) nn rfl (by first | exact Or.inl rfl | exact Or.inr rfl) (pe_lst pa_nil), fun D σ H hM hq => ?_⟩
  obtain ⟨B, TS, OS, o, na, la, L, ga, ca, R, Cc, sl, h13, h18, h19, X, S, hga, hR, eR, hca, hC, eC⟩ := hM
  refine ⟨by show 0 ≤ sizeLine; decide, fun p hp => ?_⟩
  have X1 := X.new (o := .lst []) hp
  obtain ⟨X2, X3⟩ := X1.rebase
  exact hq _ _ ⟨_, TS, OS, o, na, la, L, ga, ca, R, Cc, p, sl.set (by decide), at_set h13 (by decide), at_set h18 (by decide), at_set h19 (by decide), at_self (by rw [sl.1]; decide), X2, S.to X3, X3.at hga, Le.rwS X3 hR, eR, X3.at hca, Le.lks X3 hC, eC, hid_at upd_same (X.off_new hp)⟩
theorem names_dice {xs : List Str} {x y z : Int} : HO.lst (xs.map V.str) ≠ dV x y z := fun e => by
  have : xs.map V.str = [V.int x, V.int y, V.int z] := HO.lst.inj e
  cases xs with
  | nil => cases this
  | cons a t => cases this
theorem rows_le : ∀ S : List (List Str), (∀ r ∈ S, r ≠ []) → S.length ≤ S.flatten.length
  | [], _ => Nat.le_refl _
  | r :: S, hS => by
    have h3 := rows_le S fun r hr => hS r (List.mem_cons_of_mem _ hr)
    have h4 := List.length_pos_iff.mpr (hS r List.mem_cons_self)
    rw [List.flatten_cons, List.length_append, List.length_cons]
    omega
theorem ns7 (C : Ctx K mg base) (hr : Room 9 (XN P w K mg base f cd A outer s H0 E).A) : Step (XN P w K mg base f cd A outer s H0 E) (sn 7) (N6 K p0 d r n l dt rs noWeak) (N6 K p0 d r n l dt rs allWeak) := by
  have nn := sc_l_net.nd
  refine ⟨_, ps_for ownsA rfl (pi_list (pv 12)) (pg_name (i := 7) nn rfl (by first | exact Or.inl rfl | exact Or.inr rfl))
    (pss_cons (ps_setLc (i := 21) (own := [("one", 15)]) (g := gName 15) rfl nn rfl rfl (sw_true rfl rfl rfl (by decide +kernel)) (pi_list (pv 12)) (blkOk_by (N := n_l_net) (sc := defScope s_l_net) (by decide +kernel))
        (fun _ _ _ _ _ => (pg_name (i := 15) nn rfl (by first | exact Or.inl rfl | exact Or.inr rfl))) (fun _ _ _ _ _ => by exact pts_one (pt_cmpR op_ne (pv 15) (pv 7) (nomark _))) (fun _ _ _ _ _ => pv 15))
    (pss_cons (ps_set (i := 22) nn rfl (by first | exact Or.inl rfl | exact Or.inr rfl) (pe_cx (ok_lgroups (P := P) (w := w) C) hr (by decide) rfl passA (pa_cons (pv 21) (pa_cons (pe_lc (own := [("link", 27)]) (g := gName 27) rfl nn (pi_list (pv 13)) (blkOk_by (N := n_l_net) (sc := defScope s_l_net) (by decide +kernel))
        (fun _ _ _ _ _ => (pg_name (i := 27) nn rfl (by first | exact Or.inl rfl | exact Or.inr rfl))) (fun _ _ _ _ _ => by exact pts_one (pt_cmpR (r := rIn K true) op_notIn_seq (pv 7) (pe_slice (r := rSlT K) sl_tup (pv 27) po_none (po_some pe_int)) rfl)) (fun _ _ _ _ _ => pv 27)) pa_nil))))
    (pss_cons (ps_set (i := 23) nn rfl (by first | exact Or.inl rfl | exact Or.inr rfl) (pe_ix ix_list (pe_lc (own := [("group", 28)]) (g := gName 28) rfl nn (pi_list (pv 18)) (blkOk_by (N := n_l_net) (sc := defScope s_l_net) (by decide +kernel))
        (fun _ _ _ _ _ => (pg_name (i := 28) nn rfl (by first | exact Or.inl rfl | exact Or.inr rfl))) (fun _ _ _ _ _ => by exact pts_one (pt_cmpR (r := rIn K false) op_in_seq (pv 7) (pv 28) rfl)) (fun _ _ _ _ _ => pv 28)) pe_int (fun _ _ => rfl)))
    (pss_one (ps_set (i := 20) nn rfl (by first | exact Or.inl rfl | exact Or.inr rfl) (pe_op op_cat (pv 20) (pe_op op_rep (pe_lst (pa_cons (pv 7) pa_nil)) (pe_callTy call_int1 (by rfl) C.t.b_int (by decide +kernel) (pa_cons (pe_cmpR op_gt (pe_callB call_len_seq (by rfl) C.t.b_len PySem.boot_len (pa_cons (pe_lc (own := [("part", 29)]) (g := gName 29) rfl nn (pi_list (pv 22)) (blkOk_by (N := n_l_net) (sc := defScope s_l_net) (by decide +kernel))
        (fun _ _ _ _ _ => (pg_name (i := 29) nn rfl (by first | exact Or.inl rfl | exact Or.inr rfl))) (fun _ _ _ _ _ => by exact pts_one (pt_cmpR (r := rIn K false) op_in_seq (pe_ix (r := rIxT K) ix_tup (pv 29) pe_int (fun _ _ => rfl)) (pv 23) rfl)) (fun _ _ _ _ _ => pv 29)) pa_nil)) pe_int (nomark _)) pa_nil))))))))), fun D σ H hM hq => ?_⟩
  obtain ⟨B, TS, OS, o, na, la, L, ga, ca, R, Cc, wa, sl, h13, h18, h19, h20, X, LS, hga, hR, eR, hca, hC, eC, hwa⟩ := hM
  have l900 := LS.len
  have n5 := LS.ns5
  refine ⟨_, sl.2.2.2.2.2, na, rfl, ⟨_, SqL.of (X.le.at LS.na)⟩, ?_⟩
  refine for_list (xs := (nsT OS).map V.str) (fun j σ H' => Sl σ d r n o na ∧ At σ 13 (.ref la) ∧ At σ 18 (.ref ga) ∧ At σ 19 (.ref ca) ∧ Nx K d B H' ∧ ∃ wa, At σ 20 (.ref wa) ∧ H' wa = some (.lst ((((nsT OS).take j).filter (lawWeak (nsT OS) (lkT rs OS))).map V.str)))
    ⟨sl, h13, h18, h19, X, wa, h20, X.le.at hwa⟩ (fun j σ H' _ hP => SqL.of (hP.2.2.2.2.1.le.at LS.na)) (fun j v σ H3 hv ⟨sl3, g13, g18, g19, X3, wa3, g20, w3⟩ => ?_) (fun σ H3 ⟨sl3, g13, g18, g19, X3, wa3, g20, w3⟩ => ?_)
  · obtain ⟨x, hx, rfl⟩ := GX.get_map hv
    have hxm := List.mem_of_getElem? hx
    obtain ⟨hl, h0, h1, h2, h5, h12⟩ := sl3
    obtain ⟨a0, a1, a2, a3, a4, a5, a6, a7, a8, a9, a10, a11, a12, a13, a14, a15, a16, a17, a18, a19, a20, a21, a22, a23, a24, a25, a26, a27, a28, a29, a30, a31, rfl⟩ := ex32 hl
    cases h0; cases h1; cases h2; cases h5; cases h12; cases g13; cases g18; cases g19; cases g20
    have part := grp_part (rs := rs) LS.tn.gt
    -- rest
    refine ⟨_, rfl, na, rfl, ⟨_, SqL.of (X3.le.at LS.na)⟩, fun D1 hD1 => ?_⟩
    refine lc_pick (fun z => !decide (z = x)) V.str (walksVL (T := T K) (SqL.of (X3.le.at LS.na))) X3.tab hD1 (by omega) (fun z hz H' Y N L' hY hN => ?_) (fun H4 L4 hD4 => ?_)
    · refine ⟨rfl, _, rfl, _, rfl, rfl, _, rfl, ?_⟩
      by_cases q2 : z = x
      · rw [decide_eq_true (show V.str z = V.str x by rw [q2])]
        exact iteF (hN H' (Le.refl L'.tab) (by rw [decide_eq_true q2]; rfl))
      · rw [decide_eq_false (show ¬ V.str z = V.str x from fun w => q2 (V.str.inj w))]
        exact iteT ⟨_, rfl, hY H' (Le.refl L'.tab) (by rw [decide_eq_false q2]; rfl)⟩
    have X4 := X3.to L4
    have w4 := L4.at w3
    have la4 := X4.le.at LS.la
    have lk4 := Le.lks X4.le LS.lk
    -- parts
    refine ⟨_, rfl, _, rfl, la, rfl, ⟨_, SqL.of la4⟩, fun D2 hD2 => ?_⟩
    refine lc_pick (fun z : Addr × Lk3 => !decide (x ∈ [z.2.1, z.2.2.1])) (fun z => V.ref z.1) (walksVL (T := T K) (SqL.of la4)) X4.tab hD2 (by omega) (fun z hz H' Y N L' hY hN => ?_) (fun H5 L5 hD5 => ?_)
    · have hzz := L'.at (lk4 z hz)
      refine ⟨rfl, _, rfl, _, rfl, _, rfl, z.1, _, rfl, SqT.of hzz, (fun z => absurd z.2 (by show ¬ (2 : Nat) = 3; decide)), fun q hqn => ?_⟩
      rw [show cutV [V.str z.2.1, V.str z.2.2.1, V.int z.2.2.2] none (some 2) = [z.2.1, z.2.2.1].map V.str from rfl]
      have Lq := (Le.refl L'.tab).new (o := .tup ([z.2.1, z.2.2.1].map V.str)) hqn
      refine ⟨q, _, rfl, .inr (SqT.of upd_same), rfl, rfl, _, rfl, ?_⟩
      show (if (!inV (.str x) ([z.2.1, z.2.2.1].map V.str)) = true then _ else _)
      rw [inV_strs]
      by_cases q1 : x ∈ [z.2.1, z.2.2.1]
      · rw [decide_eq_true q1]
        exact iteF (hN _ Lq (by rw [decide_eq_true q1]; rfl))
      · rw [decide_eq_false q1]
        exact iteT ⟨_, rfl, hY _ Lq (by rw [decide_eq_false q1]; rfl)⟩
    have X5 := X4.to L5
    have w5 := L5.at w4
    have hD15 := L5.at hD4
    generalize hLR : L.filter (fun z : Addr × Lk3 => !decide (x ∈ [z.2.1, z.2.2.1])) = LR at hD5
    have eLR : LR.map (·.2) = restW (lkT rs OS) x := by
      rw [← hLR, ← LS.eq]
      unfold restW
      rw [List.filter_map]
      rfl
    have mLR : ∀ z ∈ LR, z ∈ L := fun z hz => (List.mem_filter.mp (hLR ▸ hz : z ∈ _)).1
    have lLR : LR.length ≤ 900 := by
      have : LR.length ≤ L.length := hLR ▸ List.length_filter_le _ _
      omega
    generalize hNS : (nsT OS).filter (fun z => !decide (z = x)) = NS at hD15
    have mNS : ∀ y, y ∈ NS ↔ y ∈ nsT OS ∧ y ≠ x := fun y => by
      rw [← hNS, List.mem_filter]
      simp
    have lNS : NS.length ≤ 5 := by
      have : NS.length ≤ (nsT OS).length := hNS ▸ List.length_filter_le _ _
      omega
    have ndNS : NS.Nodup := hNS ▸ LS.nd.filter _
    have wNS : Within NS (restW (lkT rs OS) x) := fun k hk => by
      obtain ⟨k1, k2, k3⟩ := mem_restW.mp hk
      obtain ⟨q1, q2⟩ := LS.wi k k1
      exact ⟨(mNS _).mpr ⟨q1, k2⟩, (mNS _).mpr ⟨q2, k3⟩⟩
    have okNS : ∀ y ∈ NS, okT y := fun y hy => LS.ok y ((mNS y).mp hy).1
    refine ⟨D1, D2, NS, LR, rfl, SqL.of hD15, SqL.of hD5, fun z hz => (L5.at (lk4 z (mLR z hz))), X5.tab, by omega, by omega, okNS, ndNS, by rw [eLR]; exact wNS, fun H6 t6 R6 L6 ht6n ht6 hR6 eR6 => ?_⟩
    rw [eLR] at eR6
    have X6 := X5.to L6
    have w6 := L6.at w5
    have p6 := joinedL_part ndNS wNS
    -- mine
    have ga6 := X6.le.at hga
    have gR6 := Le.rwS X6.le hR
    have lR : R.length ≤ 64 := by
      have e1 := congrArg List.length eR
      rw [List.length_map] at e1
      have h1 := part.perm.length_eq
      have h3 := rows_le _ part.ne
      omega
    refine ⟨_, rfl, ga, rfl, ⟨_, SqL.of ga6⟩, fun D3 hD3 => ?_⟩
    refine lc_pick (fun y : Addr × List Str => decide (x ∈ y.2)) (fun y => V.ref y.1) (walksVL (T := T K) (SqL.of ga6)) X6.tab hD3 (by omega) (fun z hz H' Y N L' hY hN => ?_) (fun H7 L7 hD7 => ?_)
    · refine ⟨rfl, _, rfl, _, rfl, z.1, _, rfl, .inr (SqT.of (L'.at (gR6 z hz))), rfl, flat_strs _, _, rfl, ?_⟩
      show (if inV (.str x) (z.2.map V.str) = true then _ else _)
      rw [inV_strs]
      by_cases w : x ∈ z.2
      · rw [decide_eq_true w]
        exact iteT ⟨_, rfl, hY _ (Le.refl L'.tab) (decide_eq_true w)⟩
      · rw [decide_eq_false w]
        exact iteF (hN _ (Le.refl L'.tab) (decide_eq_false w))
    obtain ⟨ra, ra1, ra2, ra3⟩ := pick_row (R := R) (x := x) (by rw [eR]; exact part.perm.mem_iff.mpr hxm)
    refine ⟨D3, _, _, _, rfl, rfl, SqL.of hD7, atI_nat (j := 0) (by rw [List.getElem?_map, ra1]; rfl), ?_⟩
    have X7 := X6.to L7
    have w7 := L7.at w6
    have t7 := L7.at ht6
    have R7 := Le.rwS L7 hR6
    have lR6 : R6.length ≤ 64 := by
      have e1 := congrArg List.length eR6
      rw [List.length_map] at e1
      have h1 := p6.perm.length_eq
      have h3 := rows_le _ p6.ne
      omega
    -- weak
    refine ⟨_, rfl, _, rfl, by show 1 ≤ sizeLine; decide, fun e he => ?_⟩
    have X8 := X7.new (o := .lst [.str x]) he
    have U8 := (Le.refl X7.tab).new (o := .lst [.str x]) he
    have he8 : upd H7 e (.lst [.str x]) e = some (.lst [.str x]) := upd_same
    generalize upd H7 e (.lst [.str x]) = H8 at X8 U8 he8 ⊢
    have t8 := U8.at t7
    have R8 := Le.rwS U8 R7
    refine ⟨_, rfl, t6, rfl, ⟨_, SqL.of t8⟩, fun D4 hD4 => ?_⟩
    refine lc_pick (fun y : Addr × List Str => decide (y.2.headD (S []) ∈ ra.2)) (fun y => V.ref y.1) (walksVL (T := T K) (SqL.of t8)) X8.tab hD4 (by omega) (fun z hz H' Y N L' hY hN => ?_) (fun H9 L9 hD9 => ?_)
    · have zne : z.2 ≠ [] := p6.ne _ (by rw [← eR6]; exact List.mem_map.mpr ⟨z, hz, rfl⟩)
      have hz8 := L'.at (R8 z hz)
      have hra := L'.at (Le.rwS (U8) (Le.rwS L7 gR6) ra ra2)
      obtain ⟨u, tl, eu⟩ : ∃ u tl, z.2 = u :: tl := by
        cases h : z.2 with
        | nil => exact absurd h zne
        | cons u tl => exact ⟨u, tl, rfl⟩
      refine ⟨rfl, _, rfl, z.1, _, _, _, rfl, rfl, SqT.of hz8, atI_nat (j := 0) (by rw [eu]; rfl), _, rfl, ra.1, _, rfl, .inr (SqT.of hra), rfl, flat_strs _, _, rfl, ?_⟩
      show (if inV (.str u) (ra.2.map V.str) = true then _ else _)
      rw [inV_strs]
      have eh : z.2.headD (S []) = u := by rw [eu]; rfl
      by_cases w : u ∈ ra.2
      · rw [decide_eq_true w]
        exact iteT ⟨_, rfl, hY _ (Le.refl L'.tab) (by show decide (z.2.headD (S []) ∈ ra.2) = true; rw [eh]; exact decide_eq_true w)⟩
      · rw [decide_eq_false w]
        exact iteF (hN _ (Le.refl L'.tab) (by show decide (z.2.headD (S []) ∈ ra.2) = false; rw [eh]; exact decide_eq_false w))
    have X9 := X8.to L9
    have w9 := L9.at (U8.at w7)
    have he9 := L9.at he8
    have ewk : decide ((1 : Int) < ((((R6.filter fun y : Addr × List Str => decide (y.2.headD (S []) ∈ ra.2)).map fun y => V.ref y.1).length : Nat) : Int)) = lawWeak (nsT OS) (lkT rs OS) x := by
      unfold lawWeak
      rw [hNS, ← eR6, ← eR, ← ra3, List.filter_map, List.length_map, List.length_map]
      exact decide_eq_decide.mpr (by
        show (1 : Int) < ((((R6.filter fun y : Addr × List Str => decide (y.2.headD (S []) ∈ ra.2)).length : Nat)) : Int) ↔ 1 < (R6.filter fun y : Addr × List Str => decide (y.2.headD (S []) ∈ ra.2)).length
        omega)
    refine ⟨D4, _, rfl, .inl (SqL.of hD9), _, _, rfl, rfl, .inr ⟨_, rfl, ?_⟩⟩
    have esn : ((nsT OS).take (j + 1)).filter (lawWeak (nsT OS) (lkT rs OS)) = ((nsT OS).take j).filter (lawWeak (nsT OS) (lkT rs OS)) ++ (if lawWeak (nsT OS) (lkT rs OS) x = true then [x] else []) := by
      rw [GX.take_snoc hx, List.filter_append]
      by_cases e : lawWeak (nsT OS) (lkT rs OS) x = true
      · rw [if_pos e, List.filter_cons_of_pos e]; rfl
      · rw [if_neg e, List.filter_cons_of_neg e]; rfl
    have lwk : (((nsT OS).take j).filter (lawWeak (nsT OS) (lkT rs OS))).length ≤ 5 := by
      have h1 := List.length_filter_le (lawWeak (nsT OS) (lkT rs OS)) ((nsT OS).take j)
      rw [List.length_take] at h1
      omega
    rw [ewk]
    cases hw : lawWeak (nsT OS) (lkT rs OS) x with
    | false =>
      rw [hw, if_neg (by decide), List.append_nil] at esn
      refine ⟨_, _, _, rfl, rfl, he9, by decide, by decide, Nat.zero_le _, fun b hb => ?_⟩
      have Xa := X9.new (o := .lst (List.replicate ((if false = true then (1 : Int) else 0).toNat) [V.str x]).flatten) hb
      have wa' := (upd_ne (o := .lst (List.replicate ((if false = true then (1 : Int) else 0).toNat) [V.str x]).flatten) (ne_of_none w9 hb)).trans w9
      have hb' : upd H9 b (.lst (List.replicate ((if false = true then (1 : Int) else 0).toNat) [V.str x]).flatten) b = some (.lst []) := upd_same
      generalize upd H9 b (.lst (List.replicate ((if false = true then (1 : Int) else 0).toNat) [V.str x]).flatten) = Ha at Xa wa' hb' ⊢
      refine ⟨wa3, b, _, _, rfl, rfl, wa', hb', by rw [List.length_map]; exact Nat.le_trans (show _ + 0 ≤ 64 by omega) (by decide), fun p hp => ⟨⟨rfl, rfl, rfl, rfl, rfl, rfl⟩, rfl, rfl, rfl, Xa.new hp, p, rfl, ?_⟩⟩
      rw [upd_same, esn, List.append_nil]
    | true =>
      rw [hw, if_pos rfl] at esn
      refine ⟨_, _, _, rfl, rfl, he9, by decide, by decide, by show 1 * 1 ≤ sizeLine; decide, fun b hb => ?_⟩
      have Xa := X9.new (o := .lst (List.replicate ((if true = true then (1 : Int) else 0).toNat) [V.str x]).flatten) hb
      have wa' := (upd_ne (o := .lst (List.replicate ((if true = true then (1 : Int) else 0).toNat) [V.str x]).flatten) (ne_of_none w9 hb)).trans w9
      have hb' : upd H9 b (.lst (List.replicate ((if true = true then (1 : Int) else 0).toNat) [V.str x]).flatten) b = some (.lst [V.str x]) := upd_same
      generalize upd H9 b (.lst (List.replicate ((if true = true then (1 : Int) else 0).toNat) [V.str x]).flatten) = Ha at Xa wa' hb' ⊢
      refine ⟨wa3, b, _, _, rfl, rfl, wa', hb', by rw [List.length_map]; exact Nat.le_trans (show _ + 1 ≤ 64 by omega) (by decide), fun p hp => ⟨⟨rfl, rfl, rfl, rfl, rfl, rfl⟩, rfl, rfl, rfl, Xa.new hp, p, rfl, ?_⟩⟩
      rw [upd_same, esn, List.map_append]
      rfl
  · rw [List.length_map, List.take_of_length_le (Nat.le_refl _)] at w3
    obtain ⟨Y1, Y2⟩ := X3.rebase
    exact hq _ _ ⟨_, TS, OS, o, na, la, L, ga, ca, R, Cc, wa3, sl3, g13, g18, g19, g20, Y1, LS.to Y2, Y2.at hga, Le.rwS Y2 hR, eR, Y2.at hca, Le.lks Y2 hC, eC, hid_at w3 (X3.off w3 fun _ _ _ => names_dice)⟩
end
end K2

-- text K2Z
set_option maxRecDepth 100000
set_option maxHeartbeats 4000000
namespace K2
open PySem PySem.Spec PyProof.Rows L2 LamX GX
section
variable {P : Program} {w : World} {K : PySem.W.Frag} {mg : Str → Option Value} {base : Heap}
variable {f : Addr} {cd : Value} {A : Around} {outer : List Env} {s : Shared} {H0 : Hp} {E : XK}
/-! ### what the net tells is the law's own -/
theorem look_vals (TS : TSt) (x : Str) : (look TS x).map (·.2) = ((vals TS).find? fun p => decide (p.1 = x)).map (·.2) := by
  unfold look vals
  rw [List.find?_map, Option.map_map, Option.map_map]
  rfl
theorem twOf_same {TS OS : TSt} (h : vals TS = vals OS) (x : Str) : twOf TS x = twOf OS x := by
  unfold twOf
  rw [look_vals, look_vals, h]
theorem nsT_same {TS OS : TSt} (h : vals TS = vals OS) : nsT TS = nsT OS := by
  unfold nsT
  rw [vals_names h]
theorem lkT_same {rs : List (List Int)} {TS OS : TSt} (h : vals TS = vals OS) : lkT rs TS = lkT rs OS := by
  have e : twOf TS = twOf OS := funext (twOf_same h)
  show linksL rs TS (nsT TS) = linksL rs OS (nsT OS)
  rw [nsT_same h]
  unfold linksL linksT rowLk
  rw [e]
theorem good_same {rs : List (List Int)} {TS OS : TSt} (h : vals TS = vals OS) (g : GoodT rs OS) : GoodT rs TS := by
  have hn := vals_names h
  have back : ∀ p ∈ TS, ∃ q ∈ OS, q.1 = p.1 ∧ q.2.2 = p.2.2 := fun p hp => by
    have h1 : (p.1, p.2.2) ∈ vals TS := List.mem_map.mpr ⟨p, hp, rfl⟩
    rw [h] at h1
    obtain ⟨q, hq, e⟩ := List.mem_map.mp h1
    exact ⟨q, hq, congrArg (fun z : Str × Tw => z.1) e, congrArg (fun z : Str × Tw => z.2) e⟩
  refine ⟨by rw [hn]; exact g.nd, ?_, fun p hp => ?_, fun p hp => ?_⟩
  · have := congrArg List.length hn
    rw [List.length_map, List.length_map] at this
    have := g.l
    omega
  · obtain ⟨q, hq, _, e⟩ := back p hp
    rw [← e]; exact g.inn q hq
  · obtain ⟨q, hq, e, _⟩ := back p hp
    rw [← e]; exact g.ok q hq
def ltD (l : Lk3) : PyData := .tuple [.str l.1, .str l.2.1, .int l.2.2]
theorem dp_links {H : Hp} : ∀ {L : List (Addr × Lk3)}, isLinks H L → DpAll K H (refsL L) ((L.map (·.2)).map ltD)
  | [], _ => .nil
  | x :: r, h => .cons (.tup (SqT.of (h x List.mem_cons_self)) (.cons (.str _) (.cons (.str _) (.cons (.int _) .nil)))) (dp_links fun y hy => h y (List.mem_cons_of_mem _ hy))
theorem lay_links {ls : List Lk3} (h : okL ls) : (PyData.list (ls.map ltD)).canLay0 = true ∧ (PyData.list (ls.map ltD)).depth ≤ 2 := lay_list fun d hd => by
  obtain ⟨l, hl, rfl⟩ := List.mem_map.mp hd
  obtain ⟨h1, h2⟩ := h l hl
  refine lay_tuple (n := 0) fun d hd => ?_
  simp only [List.mem_cons, List.not_mem_nil, or_false] at hd
  rcases hd with rfl | rfl | rfl
  · exact ⟨h1, Nat.le_refl _⟩
  · exact ⟨h2, Nat.le_refl _⟩
  · exact ⟨rfl, Nat.le_refl _⟩
theorem lay_rowsS {R : List (List Str)} (h : ∀ r ∈ R, ∀ x ∈ r, okT x) : (PyData.list (R.map tupS)).canLay0 = true ∧ (PyData.list (R.map tupS)).depth ≤ 2 := lay_list fun d hd => by
  obtain ⟨r, hr, rfl⟩ := List.mem_map.mp hd
  exact lay_tuple (names_lay (h r hr))
def twD (a : Tw) : PyData := .tuple [.int a.1, .int a.2.1, .int a.2.2]
def isTws (H : Hp) (A : List (Addr × Tw)) : Prop := ∀ x ∈ A, H x.1 = some (.tup (tupT x.2))
theorem dp_tws {H : Hp} : ∀ {A : List (Addr × Tw)}, isTws H A → DpAll K H (A.map fun x => V.ref x.1) ((A.map (·.2)).map twD)
  | [], _ => .nil
  | x :: r, h => .cons (.tup (SqT.of (h x List.mem_cons_self)) (.cons (.int _) (.cons (.int _) (.cons (.int _) .nil)))) (dp_tws fun y hy => h y (List.mem_cons_of_mem _ hy))
theorem lay_tws (A : List Tw) : (PyData.list (A.map twD)).canLay0 = true ∧ (PyData.list (A.map twD)).depth ≤ 2 := lay_list fun d hd => by
  obtain ⟨a, ha, rfl⟩ := List.mem_map.mp hd
  refine lay_tuple (n := 0) fun d hd => ?_
  simp only [List.mem_cons, List.not_mem_nil, or_false] at hd
  rcases hd with rfl | rfl | rfl <;> exact ⟨rfl, Nat.le_refl _⟩
theorem allWeak_eq {rs : List (List Int)} {TS OS : TSt} (h : vals TS = vals OS) (g : GoodT rs OS) : weakL rs TS = allWeak (nsT OS) (lkT rs OS) := by
  unfold weakL allWeak
  rw [lkT_same h, nsT_same h]
  exact List.filter_congr fun n hn => weak_same (nsT_nd g) lkT_in hn
variable {p0 d r n l dt : Addr} {rs : List (List Int)}
theorem ns8 (C : Ctx K mg base) (hr : Room 9 (XN P w K mg base f cd A outer s H0 E).A) : Step (XN P w K mg base f cd A outer s H0 E) (sn 8) (N6 K p0 d r n l dt rs allWeak) (N6 K p0 d r n l dt rs allWeak) := by
  have nn := sc_l_net.nd
  obtain ⟨fL, fdL, FL, bL, mL, cL⟩ := ok_links (P := P) (w := w) C
  obtain ⟨fG, fdG, FG, bG, mG, cG⟩ := ok_groups (P := P) (w := w) C
  obtain ⟨fC, fdC, FC, bC, mC, cC⟩ := ok_cheap (P := P) (w := w) C
  obtain ⟨fW, fdW, FW, bW, mW, cW⟩ := ok_weak (P := P) (w := w) C
  obtain ⟨fT, fdT, FT, bT, mT, cT⟩ := ok_tower (P := P) (w := w) C
  refine ⟨_, ps_if (PW.pt (pw_or (pt_cmpR (op_neD hr.units) (pe_callTy call_list_of (by rfl) C.t.b_list (by decide +kernel) (pa_cons (pe_meth0 (pv 2) cL mL FL (hr.mono (by decide)) bL .nil passA) pa_nil)) (pv 13) (nomark _))
    (pw_or (pt_cmpR (op_neD hr.units) (pe_callTy call_list_of (by rfl) C.t.b_list (by decide +kernel) (pa_cons (pe_meth0 (pv 2) cG mG FG (hr.mono (by decide)) bG .nil passA) pa_nil)) (pv 18) (nomark _))
    (pw_or (pt_cmpR (op_neD hr.units) (pe_callTy call_list_of (by rfl) C.t.b_list (by decide +kernel) (pa_cons (pe_meth0 (pv 2) cC mC FC (hr.mono (by decide)) bC .nil passA) pa_nil)) (pv 19) (nomark _))
    (pw_or (pt_cmpR (op_neD hr.units) (pe_callTy call_list_of (by rfl) C.t.b_list (by decide +kernel) (pa_cons (pe_meth0 (pv 2) cW mW FW (hr.mono (by decide)) bW .nil passA) pa_nil)) (pv 20) (nomark _))
    (pw_or1 (pt_cmpR (op_neD hr.units) (pe_lock (pe_lcX (own := [("name", 7)]) (g := gName 7) rfl nn rfl rfl takesA (pi_keys (pv 5)) (blkOk_by (N := n_l_net) (sc := defScope s_l_net) (by decide +kernel)) (fun _ _ _ _ _ => pg_name (i := 7) nn rfl (Or.inl rfl)) (fun _ _ _ _ _ => pts_nil)
        (fun _ _ _ _ _ _ _ px => pe_meth (pv 2) cT mT FT (hr.mono (by decide)) bT .nil px (pa_cons (pv 7) pa_nil)))) (pe_listVals rfl (by rfl) C.t.b_list (pv 5)) (nomark _)))))))) (pss_one (ps_ret pe_bl)) pss_nil, fun D σ H hM hq => ?_⟩
  obtain ⟨B, TS, OS, o, na, la, L, ga, ca, R, Cc, wa, sl, h13, h18, h19, h20, X, LS, hga, hR, eR, hca, hC, eC, hwa⟩ := hM
  have same := LS.tn.same
  have gT := good_same same LS.tn.gt
  have eL := lkT_same (rs := rs) same
  have en := nsT_same same
  have l900 := LS.len
  have n5 := LS.ns5
  obtain ⟨hl, h0, h1, h2, h5, h12⟩ := id sl
  obtain ⟨a0, a1, a2, a3, a4, a5, a6, a7, a8, a9, a10, a11, a12, a13, a14, a15, a16, a17, a18, a19, a20, a21, a22, a23, a24, a25, a26, a27, a28, a29, a30, a31, rfl⟩ := ex32 hl
  have hq' : ∀ H', Nx K d B H' → D.nx [a0, a1, a2, a3, a4, a5, a6, a7, a8, a9, a10, a11, a12, a13, a14, a15, a16, a17, a18, a19, a20, a21, a22, a23, a24, a25, a26, a27, a28, a29, a30, a31] H' := fun H' X' => hq _ _ ⟨B, TS, OS, o, na, la, L, ga, ca, R, Cc, wa, sl, h13, h18, h19, h20, X', LS, hga, hR, eR, hca, hC, eC, hwa⟩
  clear hq
  cases h0; cases h1; cases h2; cases h5; cases h12; cases h13; cases h18; cases h19; cases h20
  obtain ⟨dx, hnB⟩ := LS.tn.net.1
  -- links
  have T0 := LS.tn.to X.le
  refine ⟨_, rfl, n, dx, _, rfl, X.le.at hnB, rfl, n, l, dt, rs, TS, rfl, T0.net, T0.land, T0.good, gT, X.tab, fun H1 t1 L1 Le1 ht1n ht1 hL1 eL1 => ?_⟩
  refine ⟨t1, _, rfl, .inr (SqT.of ht1), fun c1 hc1 => ?_⟩
  have X1 := (X.to Le1).new (o := .lst (refsL L1)) hc1
  have hL1' : isLinks (upd H1 c1 (.lst (refsL L1))) L1 := fun z hz => (upd_ne (ne_of_none (hL1 z hz) hc1)).trans (hL1 z hz)
  have hc1' : upd H1 c1 (.lst (refsL L1)) c1 = some (.lst (refsL L1)) := upd_same
  generalize upd H1 c1 (.lst (refsL L1)) = H2 at X1 hL1' hc1' ⊢
  have ee : L1.map (·.2) = lkT rs OS := eL1.trans eL
  have okl := lkT_ok (rs := rs) LS.tn.gt
  refine ⟨_, rfl, _, _, .lst (SqL.of hc1') (dp_links hL1'), .lst (SqL.of (X1.le.at LS.la)) (dp_links (Le.lks X1.le LS.lk)), by rw [ee]; exact shaped_of (lay_links okl) (by decide), by rw [LS.eq]; exact shaped_of (lay_links okl) (by decide), _, rfl, ?_⟩
  rw [ee, LS.eq, SeqAt.eqv_refl _ (lay_links okl).1]
  refine iteF ?_
  -- groups
  have T1 := LS.tn.to X1.le
  refine ⟨_, rfl, n, dx, _, rfl, X1.le.at hnB, rfl, n, l, dt, rs, TS, rfl, T1.net, T1.land, T1.good, gT, X1.tab, fun H3 t3 R3 Le3 ht3n ht3 hR3 eR3 => ?_⟩
  refine ⟨t3, _, rfl, .inr (SqT.of ht3), fun c3 hc3 => ?_⟩
  have X3 := (X1.to Le3).new (o := .lst (refsS R3)) hc3
  have hR3' : isRowsS (upd H3 c3 (.lst (refsS R3))) R3 := fun z hz => (upd_ne (ne_of_none (hR3 z hz) hc3)).trans (hR3 z hz)
  have hc3' : upd H3 c3 (.lst (refsS R3)) c3 = some (.lst (refsS R3)) := upd_same
  generalize upd H3 c3 (.lst (refsS R3)) = H4 at X3 hR3' hc3' ⊢
  rw [en, eL] at eR3
  have okr := part_ok LS.nd LS.wi LS.ok
  refine ⟨_, rfl, _, _, .lst (SqL.of hc3') (dp_rows hR3'), .lst (SqL.of (X3.le.at hga)) (dp_rows (Le.rwS X3.le hR)), by rw [eR3]; exact shaped_rowsS okr, by rw [eR]; exact shaped_rowsS okr, _, rfl, ?_⟩
  rw [eR3, eR, SeqAt.eqv_refl _ (lay_rowsS okr).1]
  refine iteF ?_
  -- cheapest
  have T3 := LS.tn.to X3.le
  refine ⟨_, rfl, n, dx, _, rfl, X3.le.at hnB, rfl, n, l, dt, rs, TS, rfl, T3.net, T3.land, T3.good, gT, X3.tab, fun H5 t5 L5 Le5 ht5n ht5 hL5 eL5 => ?_⟩
  refine ⟨t5, _, rfl, .inr (SqT.of ht5), fun c5 hc5 => ?_⟩
  have X5 := (X3.to Le5).new (o := .lst (refsL L5)) hc5
  have hL5' : isLinks (upd H5 c5 (.lst (refsL L5))) L5 := fun z hz => (upd_ne (ne_of_none (hL5 z hz) hc5)).trans (hL5 z hz)
  have hc5' : upd H5 c5 (.lst (refsL L5)) c5 = some (.lst (refsL L5)) := upd_same
  generalize upd H5 c5 (.lst (refsL L5)) = H6 at X5 hL5' hc5' ⊢
  rw [en, eL] at eL5
  have okc : okL (cheapL (nsT OS) (lkT rs OS)) := fun k hk => by
    rcases kru_sub _ _ _ k hk with z | z
    · cases z
    · exact okl k ((lsort_perm _).mem_iff.mp z)
  have ec5 : L5.map (·.2) = cheapL (nsT OS) (lkT rs OS) := eL5
  refine ⟨_, rfl, _, _, .lst (SqL.of hc5') (dp_links hL5'), .lst (SqL.of (X5.le.at hca)) (dp_links (Le.lks X5.le hC)), by rw [ec5]; exact shaped_of (lay_links okc) (by decide), by rw [eC]; exact shaped_of (lay_links okc) (by decide), _, rfl, ?_⟩
  rw [ec5, eC, SeqAt.eqv_refl _ (lay_links okc).1]
  refine iteF ?_
  -- weak
  have T5 := LS.tn.to X5.le
  refine ⟨_, rfl, n, dx, _, rfl, X5.le.at hnB, rfl, n, l, dt, rs, TS, rfl, T5.net, T5.land, T5.good, gT, X5.tab, fun H7 t7 Le7 ht7n ht7 => ?_⟩
  rw [allWeak_eq same LS.tn.gt] at ht7
  refine ⟨t7, _, rfl, .inr (SqT.of ht7), fun c7 hc7 => ?_⟩
  have X7 := (X5.to Le7).new (o := .lst ((allWeak (nsT OS) (lkT rs OS)).map V.str)) hc7
  have hc7' : upd H7 c7 (.lst ((allWeak (nsT OS) (lkT rs OS)).map V.str)) c7 = some (.lst ((allWeak (nsT OS) (lkT rs OS)).map V.str)) := upd_same
  generalize upd H7 c7 (.lst ((allWeak (nsT OS) (lkT rs OS)).map V.str)) = H8 at X7 hc7' ⊢
  have okw : ∀ x ∈ allWeak (nsT OS) (lkT rs OS), okT x := fun x hx => LS.ok x (List.mem_filter.mp hx).1
  refine ⟨_, rfl, _, _, .lst (SqL.of hc7') (DpAll.strs _), .lst (SqL.of (X7.le.at hwa)) (DpAll.strs _), shaped_names okw, shaped_names okw, _, rfl, ?_⟩
  rw [show PyData.eqv (.list ((allWeak (nsT OS) (lkT rs OS)).map PyData.str)) (.list ((allWeak (nsT OS) (lkT rs OS)).map PyData.str)) = true from (eqv_strs _ _).trans (decide_eq_true rfl)]
  refine iteF ?_
  -- towers
  have T7 := LS.tn.to X7.le
  have ho7 := T7.at_
  refine ⟨o, _, ho7, trivial, fun od => ?_⟩
  have TL := tabs_lock (o := od) X7.tab ho7 trivial
  have dn := LS.tn.ne
  have hnL : upd H8 o (.frz od (dT OS)) n = some (.ins (aNt K) dx (netF l dt)) := at_lock (X7.le.at hnB) fun z => by have := X7.le.at hnB; rw [z, ho7] at this; cases this
  have hdL : upd H8 o (.frz od (dT OS)) dt = some (dT TS) := at_lock T7.net.2.1 dn
  have htL : ∀ p ∈ TS, upd H8 o (.frz od (dT OS)) p.2.1 = some (.tup (tupT p.2.2)) := fun p hp => at_lock (T7.net.2.2 p hp) fun z => by have := T7.net.2.2 p hp; rw [z, ho7] at this; cases this
  refine ⟨_, rfl, o, od, rfl, .inl ⟨_, upd_same, fun D1 hD => ?_⟩⟩
  refine lc_n OS.length (fun i H' => Le (T K) (upd H8 o (.frz od (dT OS))) H' ∧ ∃ Aa : List (Addr × Tw), Aa.map (·.2) = (OS.take i).map (fun p => p.2.2) ∧ H' D1 = some (.lst (Aa.map fun x => V.ref x.1)) ∧ isTws H' Aa) ⟨(Le.refl TL).new hD, [], rfl, upd_same, (fun p hp => by cases hp)⟩
    (fun i Ha hi ⟨La, Aa, e1, e2, e3⟩ => ⟨⟨La.at upd_same, by rw [ents_len]; exact hi⟩, ?_⟩) (fun Ha ⟨La, Aa, e1, e2, e3⟩ => ⟨⟨La.at upd_same, by rw [ents_len]; exact Nat.le_refl _⟩, La.at upd_same, ?_⟩)
  · rintro v H3 ⟨rfl, kk, v2, hkk, rfl⟩
    unfold ents at hkk
    rw [List.getElem?_map] at hkk
    obtain ⟨p1, hp1, e⟩ := Option.map_eq_some_iff.mp hkk
    cases e
    have hm := List.mem_of_getElem? hp1
    refine ⟨rfl, ?_⟩
    refine yes_ (iteT ⟨_, rfl, n, dx, _, rfl, La.at hnL, rfl, _, rfl, n, l, dt, TS, p1.1, rfl, ⟨⟨dx, La.at hnL⟩, La.at hdL, fun p hp => La.at (htL p hp)⟩, La.tab, fun p hp => ?_, fun z => ?_⟩)
    · have hw : p.2 = p1.2.2 := by
        have h1 := look_vals TS p1.1
        rw [same, ← look_vals, hp, look_of LS.tn.gt.nd hm] at h1
        exact Option.some.inj h1
      obtain ⟨v, h1, h2⟩ := look_mem (cs := TS) (n := p1.1) (by rw [vals_names same]; exact List.mem_map.mpr ⟨p1, hm, rfl⟩)
      rw [hp] at h1
      cases Option.some.inj h1
      have hpu := La.at (htL _ h2)
      refine ⟨_, e2, ?_, La.set hD e2, Aa ++ [(p.1, p1.2.2)], ?_, ?_, fun z hz => ?_⟩
      · have := congrArg List.length e1
        rw [List.length_map, List.length_map, List.length_take] at this
        rw [List.length_map]
        have := LS.tn.l5
        exact Nat.lt_of_le_of_lt (show Aa.length ≤ 5 by omega) (by decide)
      · rw [List.map_append, e1, GX.take_snoc hp1, List.map_append]
        rfl
      · rw [upd_same, List.map_append]
        rfl
      · have hz0 : H3 z.1 = some (.tup (tupT z.2)) := by
          rcases List.mem_append.mp hz with hz | hz
          · exact e3 z hz
          · rw [List.mem_singleton.mp hz, ← hw]; exact hpu
        exact (upd_ne (fun w => by rw [w, e2] at hz0; cases hz0)).trans hz0
    · exfalso
      have hm2 : p1.1 ∈ TS.map (·.1) := by rw [vals_names same]; exact List.mem_map.mpr ⟨p1, hm, rfl⟩
      obtain ⟨v, h1, _⟩ := look_mem hm2
      rw [h1] at z; cases z
  · rw [List.take_of_length_le (Nat.le_refl _)] at e1
    have X9 := X7.to (Le.unlock ho7 trivial La)
    have hDo : D1 ≠ o := fun z => by rw [z, upd_same] at hD; cases hD
    have e4 : upd Ha o (dT OS) D1 = some (.lst (Aa.map fun x => V.ref x.1)) := (upd_ne hDo).trans e2
    have e5 : isTws (upd Ha o (dT OS)) Aa := fun z hz => (upd_ne (fun e => by
      have := e3 z hz
      rw [e, La.at upd_same] at this
      cases this)).trans (e3 z hz)
    have ho9 : upd Ha o (dT OS) o = some (dT OS) := upd_same
    generalize upd Ha o (dT OS) = H9 at X9 e4 e5 ho9 ⊢
    refine ⟨_, rfl, o, _, rfl, ho9, fun c9 hc9 => ?_⟩
    have eV : (ents tV OS).map (·.2) = (OS.map fun p => (p.2.1, p.2.2)).map fun x : Addr × Tw => V.ref x.1 := by
      unfold ents
      rw [List.map_map, List.map_map]
      rfl
    rw [eV]
    have Xa := X9.new (o := .lst ((OS.map fun p => (p.2.1, p.2.2)).map fun x : Addr × Tw => V.ref x.1)) hc9
    have e6 := (upd_ne (o := .lst ((OS.map fun p => (p.2.1, p.2.2)).map fun x : Addr × Tw => V.ref x.1)) (ne_of_none e4 hc9)).trans e4
    have e7 : isTws (upd H9 c9 (.lst ((OS.map fun p => (p.2.1, p.2.2)).map fun x : Addr × Tw => V.ref x.1))) Aa := fun z hz => (upd_ne (ne_of_none (e5 z hz) hc9)).trans (e5 z hz)
    have hca' : upd H9 c9 (.lst ((OS.map fun p => (p.2.1, p.2.2)).map fun x : Addr × Tw => V.ref x.1)) c9 = some (.lst ((OS.map fun p => (p.2.1, p.2.2)).map fun x : Addr × Tw => V.ref x.1)) := upd_same
    generalize upd H9 c9 (.lst ((OS.map fun p => (p.2.1, p.2.2)).map fun x : Addr × Tw => V.ref x.1)) = Hb at Xa e6 e7 hca' ⊢
    have e8 : isTws Hb (OS.map fun p => (p.2.1, p.2.2)) := fun z hz => by
      obtain ⟨p, hp, rfl⟩ := List.mem_map.mp hz
      exact (LS.tn.to Xa.le).tow p hp
    refine ⟨_, _, .lst (SqL.of e6) (dp_tws e7), .lst (SqL.of hca') (dp_tws e8), shaped_of (lay_tws _) (by decide), shaped_of (lay_tws _) (by decide), _, rfl, ?_⟩
    have e9 : (OS.map fun p => (p.2.1, p.2.2)).map (fun x : Addr × Tw => x.2) = OS.map fun p => p.2.2 := by rw [List.map_map]; rfl
    rw [e1, e9, SeqAt.eqv_refl _ (lay_tws _).1]
    exact iteF (hq' _ Xa)
end
end K2

-- text K2Za
set_option maxRecDepth 100000
set_option maxHeartbeats 4000000
namespace K2
open PySem PySem.Spec PyProof.Rows L2 LamX GX
section
variable {P : Program} {w : World} {K : PySem.W.Frag} {mg : Str → Option Value} {base : Heap}
variable {f : Addr} {cd : Value} {A : Around} {outer : List Env} {s : Shared} {H0 : Hp} {E : XK}
/-! ### the least sum of all sets that join as much -/
theorem far_nn (a b : Tw) : 0 ≤ farOf a b := by
  have sq : ∀ z : Int, 0 ≤ z * z := fun z => by
    rcases Int.le_total 0 z with h | h
    · exact Int.mul_nonneg h h
    · exact Int.mul_nonneg_of_nonpos_of_nonpos h h
  exact Int.add_nonneg (sq _) (sq _)
theorem lkT_nn {rs : List (List Int)} {OS : TSt} : ∀ k ∈ lkT rs OS, 0 ≤ k.2.2 := fun k hk => by
  unfold lkT linksL linksT at hk
  obtain ⟨row, hr, hk⟩ := List.mem_flatten.mp hk
  obtain ⟨i, _, rfl⟩ := List.mem_map.mp hr
  unfold rowLk at hk
  obtain ⟨y, _, rfl⟩ := List.mem_map.mp hk
  exact far_nn _ _
theorem lsets_map {α β : Type} (f : α → β) (L : List α) : (lsets L).map (List.map f) = lsets (L.map f) := by
  refine snoc_ind (P := fun L => (lsets L).map (List.map f) = lsets (L.map f)) rfl (fun xs x ih => ?_) L
  rw [lsets_snoc, List.map_append, List.map_append (f := f), List.map_cons, List.map_nil, lsets_snoc, List.map_map, ← ih, List.map_map]
  congr 1
  exact List.map_congr_left fun r _ => by show (r ++ [x]).map f = r.map f ++ [f x]; rw [List.map_append]; rfl
def tSumLk (K : PySem.W.Frag) (te : TE) : TE := fun σ H Q => σ.length = 32 ∧ te σ H fun v H1 => ∃ (k : Addr) (L : List (Addr × Lk3)), v = .ref k ∧ H1 k = some (.lst (refsL L)) ∧ isLinks H1 L ∧ Tabs (T K) H1 ∧ L.length ≤ 1000 ∧ ∀ H', Le (T K) H1 H' → Q (.int (sumFar (L.map (·.2)))) H'
theorem pe_sumLk {X : Cx} {K : PySem.W.Frag} (hK : X.K = K) {y : Str} {te : TE} {scope : Scope} {q1 q2 q3 q4 q5 q6 q7 q8 : Pos} {j : Nat} (hN : X.N.Nodup) (h27 : X.N[27]? = some ("link" : Str)) (hc : X.calm = true) (hgs : Gl X "sum") (hms : X.mg "sum" = none)
    (ok : BlkOk X.N X.env.scope scope [("link", 27)]) (hx : scope.names.lookup ("link" : Str) = some .local) (he : PE X (.Name y q8) te) (hm : ∀ σ H P P', (∀ v H', P v H' → P' v H') → te σ H P → te σ H P')
    (hs : starEach [Expr.ListComp (.Subscript (.Name "link" q2) (.Constant (.int 2) j q3) q4) [⟨.Name "link" q5, .Name y q8, [], 0⟩] scope q6] X.env = (false, eval (Expr.ListComp (.Subscript (.Name "link" q2) (.Constant (.int 2) j q3) q4) [⟨.Name "link" q5, .Name y q8, [], 0⟩] scope q6) X.env) :: starEach [] X.env := by rfl) :
    PE X (.Call (.Name "sum" q1) [.ListComp (.Subscript (.Name "link" q2) (.Constant (.int 2) j q3) q4) [⟨.Name "link" q5, .Name y q8, [], 0⟩] scope q6] [] q7) (tSumLk K te) := by
  subst hK
  refine pe_weak (pe_callB (cr_sum hc) hgs hms (by decide +kernel) (pa_cons (pe_lc (own := [("link", 27)]) (g := gName 27) hc hN (pi_list he) ok
    (fun _ _ _ _ _ => pg_name (i := 27) hN h27 (Or.inl (lookup_relabel_local hx)) (Or.inr (lookup_relabel_local hx)))
    (fun _ _ _ _ _ => pts_nil) (fun _ _ _ _ _ => pe_ix (r := rIxT X.K) ix_tup (pe_var (i := 27) h27 (Or.inl (lookup_relabel_local hx))) pe_int (fun _ _ => rfl))) pa_nil)) fun σ H Q ⟨hl, h⟩ => ?_
  obtain ⟨a0, a1, a2, a3, a4, a5, a6, a7, a8, a9, a10, a11, a12, a13, a14, a15, a16, a17, a18, a19, a20, a21, a22, a23, a24, a25, a26, a27, a28, a29, a30, a31, rfl⟩ := ex32 hl
  refine hm _ _ _ _ (fun v H1 g => ?_) h
  obtain ⟨k, L, rfl, hk, hL, hT, l1000, hq⟩ := g
  refine ⟨k, rfl, ⟨_, SqL.of hk⟩, fun D1 hD => ?_⟩
  refine lc_n L.length (fun i H' => Le (T X.K) H1 H' ∧ H' D1 = some (.lst ((((L.map (·.2)).take i).map fun l => l.2.2).map V.int))) ⟨(Le.refl hT).new hD, upd_same⟩ (fun i H2 hi ⟨L2, h2⟩ => ⟨Itl_go (L2.seqL (SqL.of hk)) (by unfold refsL; rw [List.length_map]; exact hi), ?_⟩) (fun H2 ⟨L2, h2⟩ => ⟨Itl_stop (L2.seqL (SqL.of hk)) (by unfold refsL; rw [List.length_map]; exact Nat.le_refl _), ?_⟩)
  · intro x H3 hy
    obtain ⟨rfl, hx2⟩ := Itl_yld (L2.seqL (SqL.of hk)) hy
    obtain ⟨z, hz, rfl⟩ := gmap hx2
    have hzz := L2.at (hL z (List.mem_of_getElem? hz))
    refine ⟨rfl, yes_ (iteT ⟨_, rfl, z.1, _, _, _, rfl, rfl, SqT.of hzz, atI_nat (j := 2) rfl, _, h2, ?_, L2.set hD h2, ?_⟩)⟩
    · rw [List.length_map, List.length_map, List.length_take]
      exact Nat.lt_of_le_of_lt (Nat.le_trans (Nat.min_le_left _ _) (show i ≤ 1000 by omega)) (by decide)
    · rw [upd_same, GX.take_snoc (c := z.2) (by rw [List.getElem?_map, hz]; rfl), List.map_append, List.map_append]
      rfl
  · rw [List.take_of_length_le (by rw [List.length_map]; exact Nat.le_refl _)] at h2
    exact ⟨D1, _, rfl, SqL.of h2, hq H2 L2⟩
variable {p0 d r n l dt : Addr} {rs : List (List Int)}
theorem ns9 (C : Ctx K mg base) (hr : Room 9 (XN P w K mg base f cd A outer s H0 E).A) : Step (XN P w K mg base f cd A outer s H0 E) (sn 9) (N6 K p0 d r n l dt rs allWeak) (N6 K p0 d r n l dt rs allWeak) := by
  have nn := sc_l_net.nd
  refine ⟨_, ps_if (pt_cmpR op_lt (pe_callB call_len_seq (by rfl) C.t.b_len PySem.boot_len (pa_cons (pv 13) pa_nil)) pe_int (nomark _))
    (pss_cons (ps_setLcT (i := 24) (own := [("row", 30)]) (g := gName 30) rfl nn rfl rfl takesA rfl rfl (sw_true rfl rfl rfl (by decide +kernel)) (pi_list (pe_cx (ok_lsets (P := P) (w := w) C) hr (by decide) rfl passA (pa_cons (pv 13) pa_nil))) (blkOk_by (N := n_l_net) (sc := defScope s_l_net) (by decide +kernel))
      (fun _ _ _ _ _ => (pg_name (i := 30) nn rfl (by first | exact Or.inl rfl | exact Or.inr rfl))) (fun _ _ _ _ _ _ _ px => by exact pts_one (pt_cmpR (r := rEqD K) (op_eqD hr.units) (pe_cx (ok_lgroups (P := P) (w := w) C) hr (by decide) rfl px (pa_cons (pv 12) (pa_cons (pv 30) pa_nil))) (pv 18) (nomark _)))
      (fun _ _ _ _ _ _ _ px => by exact pe_sumLk (K := K) (te := tVar 30) rfl nn rfl rfl (by rfl) C.t.b_sum (blk_any (blkOk_by (N := n_l_net) (sc := defScope s_l_net) (by decide +kernel)) (by decide +kernel)) rfl (pv 30) (fun σ H P P' m ⟨v, e1, h⟩ => ⟨v, e1, m _ _ h⟩)))
    (pss_one (ps_if (pt_cmpR op_ne (pe_sumLk (K := K) (te := tVar 19) rfl nn rfl rfl (by rfl) C.t.b_sum (blkOk_by (N := n_l_net) (sc := defScope s_l_net) (by decide +kernel)) rfl (pv 19) (fun σ H P P' m ⟨v, e1, h⟩ => ⟨v, e1, m _ _ h⟩))
      (pe_callB (cr_min rfl) (by rfl) C.t.b_min (by decide +kernel) (pa_cons (pv 24) pa_nil)) (nomark _)) (pss_one (ps_ret pe_bl)) pss_nil))) pss_nil, fun D σ H hM hq => ?_⟩
  obtain ⟨B, TS, OS, o, na, la, L, ga, ca, R, Cc, wa, sl, h13, h18, h19, h20, X, LS, hga, hR, eR, hca, hC, eC, hwa⟩ := hM
  have l900 := LS.len
  have n5 := LS.ns5
  refine ⟨_, h13, la, _, rfl, .inl (SqL.of (X.le.at LS.la)), _, _, rfl, rfl, _, rfl, ?_⟩
  have ll : (refsL L).length = L.length := by unfold refsL; rw [List.length_map]
  rw [ll]
  by_cases c8 : L.length < 8
  case neg =>
    rw [decide_eq_false (show ¬ ((L.length : Nat) : Int) < 8 by omega)]
    exact iteF (hq _ _ ⟨B, TS, OS, o, na, la, L, ga, ca, R, Cc, wa, sl, h13, h18, h19, h20, X, LS, hga, hR, eR, hca, hC, eC, hwa⟩)
  rw [decide_eq_true (show ((L.length : Nat) : Int) < 8 by omega)]
  refine iteT ?_
  obtain ⟨hl, h0, h1, h2, h5, h12⟩ := id sl
  refine ⟨_, h13, la, L, rfl, SqL.of (X.le.at LS.la), c8, X.tab, fun H1 t SR L1 ht hSR eSR => ?_⟩
  refine ⟨t, rfl, ⟨_, SqL.of ht⟩, fun D1 hD1 => ?_⟩
  have X1 := X.to L1
  have subs : ∀ y ∈ SR, y.2.Sublist L := fun y hy => (mem_lsets L y.2).mp (by rw [← eSR]; exact List.mem_map.mpr ⟨y, hy, rfl⟩)
  have lSR : SR.length ≤ 128 := by
    have e := congrArg List.length eSR
    rw [List.length_map, lsets_len] at e
    have : 2 ^ L.length ≤ 2 ^ 7 := Nat.pow_le_pow_right (by decide) (by omega)
    omega
  have eall : SR.map (fun y => y.2.map (·.2)) = lsets (lkT rs OS) := by
    rw [← LS.eq, ← lsets_map, ← eSR, List.map_map]
    rfl
  have ga1 := X1.le.at hga
  have R1 := Le.rwS X1.le hR
  have okr := part_ok LS.nd LS.wi LS.ok
  obtain ⟨a0, a1, a2, a3, a4, a5, a6, a7, a8, a9, a10, a11, a12, a13, a14, a15, a16, a17, a18, a19, a20, a21, a22, a23, a24, a25, a26, a27, a28, a29, a30, a31, rfl⟩ := ex32 hl
  cases h0; cases h1; cases h2; cases h5; cases h12; cases h13; cases h18; cases h19; cases h20
  refine lc_pick (fun y : Addr × List (Addr × Lk3) => decide (joinedL (nsT OS) (y.2.map (·.2)) = joinedL (nsT OS) (lkT rs OS))) (fun y => V.int (sumFar (y.2.map (·.2)))) (walksVL (T := T K) (SqL.of ht)) X1.tab hD1 (by omega) (fun y hy H' Y N L' hY hN => ?_) (fun H2 L2 hD2 => ?_)
  · have sub := subs y hy
    have wi : Within (nsT OS) (y.2.map (·.2)) := fun k hk => by
      obtain ⟨z, hz, rfl⟩ := List.mem_map.mp hk
      exact LS.wi _ (by rw [← LS.eq]; exact List.mem_map.mpr ⟨z, sub.subset hz, rfl⟩)
    have ly : y.2.length ≤ 7 := by have := sub.length_le; omega
    have hy1 := L'.at (hSR y hy)
    have lky : isLinks H' y.2 := fun z hz => L'.at (X1.le.at (LS.lk z (sub.subset hz)))
    refine ⟨rfl, ?_⟩
    refine ⟨_, rfl, _, rfl, na, y.1, nsT OS, y.2, rfl, SqL.of (L'.at (X1.le.at LS.na)), SqL.of hy1, lky, L'.tab, by omega, by omega, LS.ok, LS.nd, wi, fun H3 t3 R3 L3 ht3n ht3 hR3 eR3 => ?_⟩
    refine ⟨_, rfl, _, _, .lst (SqL.of ht3) (dp_rows hR3), .lst (SqL.of ((L'.trans L3).at ga1)) (dp_rows (Le.rwS (L'.trans L3) R1)), by rw [eR3]; exact shaped_rowsS (part_ok LS.nd wi LS.ok), by rw [eR]; exact shaped_rowsS okr, _, rfl, ?_⟩
    have ev : PyData.eqv (.list ((R3.map (·.2)).map tupS)) (.list ((R.map (·.2)).map tupS)) = decide (R3.map (·.2) = R.map (·.2)) := eqv_rowsS _ _
    rw [ev, eR3, eR]
    by_cases hb : joinedL (nsT OS) (y.2.map (·.2)) = joinedL (nsT OS) (lkT rs OS)
    · rw [decide_eq_true hb]
      exact iteT ⟨rfl, _, rfl, y.1, y.2, rfl, L3.at hy1, Le.lks L3 lky, L3.tab, by omega, fun H4 L4 => hY H4 (L3.trans L4) (decide_eq_true hb)⟩
    · rw [decide_eq_false hb]
      exact iteF (hN H3 L3 (decide_eq_false hb))
  have X2 := X1.to L2
  refine ⟨rfl, _, rfl, ca, Cc, rfl, X2.le.at hca, Le.lks X2.le hC, X2.tab, ?_, fun H3 L3 => ?_⟩
  · have e := congrArg List.length eC
    have h1 := kru_len (nsT OS) (lsort (lkT rs OS)) []
    have h2 := (lsort_perm (lkT rs OS)).length_eq
    have h3 := congrArg List.length LS.eq
    unfold cheapL at e
    rw [List.length_map] at e h3
    rw [List.length_nil] at h1
    omega
  have X3 := X2.to L3
  obtain ⟨⟨S0, s1, s2, s3⟩, least⟩ := cheap_least LS.nd LS.wi (lkT_nn (rs := rs) (OS := OS))
  have hD3 := L3.at hD2
  have ev : (SR.filter fun y : Addr × List (Addr × Lk3) => decide (joinedL (nsT OS) (y.2.map (·.2)) = joinedL (nsT OS) (lkT rs OS))).map (fun y => V.int (sumFar (y.2.map (·.2)))) = ((SR.filter fun y : Addr × List (Addr × Lk3) => decide (joinedL (nsT OS) (y.2.map (·.2)) = joinedL (nsT OS) (lkT rs OS))).map fun y => sumFar (y.2.map (·.2))).map V.int := by
    rw [List.map_map]; rfl
  rw [ev] at hD3
  have mems : ∀ m, m ∈ ((SR.filter fun y : Addr × List (Addr × Lk3) => decide (joinedL (nsT OS) (y.2.map (·.2)) = joinedL (nsT OS) (lkT rs OS))).map fun y => sumFar (y.2.map (·.2))) ↔ ∃ S ∈ lsets (lkT rs OS), joinedL (nsT OS) S = joinedL (nsT OS) (lkT rs OS) ∧ sumFar S = m := fun m => by
    rw [List.mem_map]
    constructor
    · rintro ⟨y, hy, rfl⟩
      obtain ⟨h1, h2⟩ := List.mem_filter.mp hy
      exact ⟨y.2.map (·.2), by rw [← eall]; exact List.mem_map.mpr ⟨y, h1, rfl⟩, of_decide_eq_true h2, rfl⟩
    · rintro ⟨S, h1, h2, rfl⟩
      rw [← eall] at h1
      obtain ⟨y, hy, rfl⟩ := List.mem_map.mp h1
      exact ⟨y, List.mem_filter.mpr ⟨hy, decide_eq_true h2⟩, rfl⟩
  have in0 := (mems _).mpr ⟨S0, s1, s2, s3⟩
  refine ⟨_, rfl, D1, _, rfl, SqL.of hD3, List.length_pos_of_mem in0, fun m hm hle => ⟨rfl, _, rfl, ?_⟩⟩
  obtain ⟨S1, t1, t2, t3⟩ := (mems m).mp hm
  have e1 := hle _ in0
  have e2 := least S1 t1 t2
  have em : sumFar (Cc.map (·.2)) = m := by rw [eC]; omega
  refine iteNS (show V.int (sumFar (Cc.map (·.2))) = V.int m by rw [em]) (hq _ _ ⟨B, TS, OS, o, na, la, L, ga, ca, R, Cc, wa, ⟨rfl, rfl, rfl, rfl, rfl, rfl⟩, rfl, rfl, rfl, rfl, X3, LS, hga, hR, eR, hca, hC, eC, hwa⟩)
end
end K2

-- text K2Zb
set_option maxRecDepth 100000
set_option maxHeartbeats 4000000
namespace K2
open PySem PySem.Spec PyProof.Rows L2 LamX GX
section
variable {P : Program} {w : World} {K : PySem.W.Frag} {mg : Str → Option Value} {base : Heap}
variable {f : Addr} {cd : Value} {A : Around} {outer : List Env} {s : Shared} {H0 : Hp} {E : XK}
/-! ### nearest numbers; the end -/
theorem least_fold : ∀ (xs : List (Int × Int)) (m : Int), (xs.foldl (fun m x => if x.1 < m then x.1 else m) m = m ∨ ∃ x ∈ xs, x.1 = xs.foldl (fun m x => if x.1 < m then x.1 else m) m) ∧ xs.foldl (fun m x => if x.1 < m then x.1 else m) m ≤ m ∧ ∀ x ∈ xs, xs.foldl (fun m x => if x.1 < m then x.1 else m) m ≤ x.1
  | [], m => ⟨.inl rfl, Int.le_refl _, fun x hx => by cases hx⟩
  | y :: r, m => by
    rw [List.foldl_cons]
    obtain ⟨h1, h2, h3⟩ := least_fold r (if y.1 < m then y.1 else m)
    by_cases c : y.1 < m
    · rw [if_pos c] at h1 h2 h3 ⊢
      refine ⟨.inr ?_, by omega, fun x hx => ?_⟩
      · rcases h1 with h1 | ⟨x, hx, e⟩
        · exact ⟨y, List.mem_cons_self, h1.symm⟩
        · exact ⟨x, List.mem_cons_of_mem _ hx, e⟩
      · rcases List.mem_cons.mp hx with rfl | hx
        · exact h2
        · exact h3 x hx
    · rw [if_neg c] at h1 h2 h3 ⊢
      refine ⟨?_, h2, fun x hx => ?_⟩
      · rcases h1 with h1 | ⟨x, hx, e⟩
        · exact .inl h1
        · exact .inr ⟨x, List.mem_cons_of_mem _ hx, e⟩
      · rcases List.mem_cons.mp hx with rfl | hx
        · omega
        · exact h3 x hx
theorem leastO_is {xs : List (Int × Int)} {m : Int × Int} (hm : m ∈ xs) (hle : ∀ y ∈ xs, m.1 ≤ y.1) : m.1 = leastO xs := by
  unfold leastO
  obtain ⟨h1, h2, h3⟩ := least_fold xs (xs.headD (0, 0)).1
  have a := h3 m hm
  have hh : ∃ x ∈ xs, x.1 = (xs.headD (0, 0)).1 := by
    cases xs with
    | nil => cases hm
    | cons y r => exact ⟨y, List.mem_cons_self, rfl⟩
  rcases h1 with h1 | ⟨x, hx, e⟩
  · obtain ⟨x, hx, e⟩ := hh
    have := hle x hx
    omega
  · have := hle x hx
    omega
variable {p0 d r n l dt : Addr} {rs : List (List Int)}
def N10 (K : PySem.W.Frag) (p0 d r n l dt : Addr) (rs : List (List Int)) : L2.St → Hp → Prop := fun σ H => ∃ B TS OS o na la L ga R, ∃ p q : Nat, Sl σ d r n o na ∧ At σ 13 (.ref la) ∧ At σ 18 (.ref ga) ∧ At σ 22 (.int (1 + (p : Int))) ∧ At σ 25 (.int ((q : Int) - 30)) ∧ p < 9 ∧ q < 60 ∧
  Nx K d B H ∧ Ls K p0 d r n l dt o na la rs TS OS L B ∧ B ga = some (.lst (refsS R)) ∧ isRowsS B R ∧ R.map (·.2) = joinedL (nsT OS) (lkT rs OS)
theorem ns10 (C : Ctx K mg base) (hr : Room 9 (XN P w K mg base f cd A outer s H0 E).A) : Step (XN P w K mg base f cd A outer s H0 E) (sn 10) (N6 K p0 d r n l dt rs allWeak) (N10 K p0 d r n l dt rs) := by
  have nn := sc_l_net.nd
  refine ⟨_, ps_asg (pe_tup (pa_cons (pe_op op_add pe_int (pe_cx (ok_roll (P := P) (w := w) C) hr (by decide) rfl passA (pa_cons (pv 0) (pa_cons pe_int pa_nil)))) (pa_cons (pe_op op_sub (pe_cx (ok_roll (P := P) (w := w) C) hr (by decide) rfl passA (pa_cons (pv 0) (pa_cons pe_int pa_nil))) pe_int) pa_nil))) (pg_tup rfl (pgs_cons (pg_name (i := 22) nn rfl (by first | exact Or.inl rfl | exact Or.inr rfl)) (pgs_cons (pg_name (i := 25) nn rfl (by first | exact Or.inl rfl | exact Or.inr rfl)) pgs_nil))), fun D σ H hM hq => ?_⟩
  obtain ⟨B, TS, OS, o, na, la, L, ga, ca, R, Cc, wa, sl, h13, h18, h19, h20, X, LS, hga, hR, eR, hca, hC, eC, hwa⟩ := hM
  obtain ⟨hl, h0, h1, h2, h5, h12⟩ := id sl
  obtain ⟨a0, a1, a2, a3, a4, a5, a6, a7, a8, a9, a10, a11, a12, a13, a14, a15, a16, a17, a18, a19, a20, a21, a22, a23, a24, a25, a26, a27, a28, a29, a30, a31, rfl⟩ := ex32 hl
  cases h0; cases h1; cases h2; cases h5; cases h12; cases h13; cases h18
  obtain ⟨qx, qy, qz, qd⟩ := X.dice
  refine ⟨_, rfl, d, qx, qy, qz, _, rfl, qd, by omega, by omega, fun qx qy qz qr q0 q1 => ?_⟩
  obtain ⟨p, hp, rfl⟩ : ∃ k : Nat, k < 9 ∧ qr = (k : Int) := ⟨qr.toNat, by omega, by omega⟩
  have X1 := X.roll qx qy qz
  generalize upd H d (dV qx qy qz) = H1 at X1 ⊢
  clear q0 q1 qd
  refine ⟨_, _, rfl, rfl, ?_⟩
  obtain ⟨qx, qy, qz, qd⟩ := X1.dice
  refine ⟨_, rfl, d, qx, qy, qz, _, rfl, qd, by omega, by omega, fun qx qy qz qr q0 q1 => ?_⟩
  obtain ⟨qn, hqn, rfl⟩ : ∃ k : Nat, k < 60 ∧ qr = (k : Int) := ⟨qr.toNat, by omega, by omega⟩
  have X2 := X1.roll qx qy qz
  generalize upd H1 d (dV qx qy qz) = H2 at X2 ⊢
  clear q0 q1 qd
  refine ⟨_, _, rfl, rfl, by show 2 ≤ sizeLine; decide, fun t ht => ?_⟩
  have X3 := X2.new (o := .tup [.int (1 + (p : Int)), .int ((qn : Int) - 30)]) ht
  refine ⟨t, _, rfl, SqT.of upd_same, rfl, _, _, rfl, _, _, rfl, rfl, ?_⟩
  exact hq _ _ ⟨B, TS, OS, o, na, la, L, ga, R, p, qn, ⟨rfl, rfl, rfl, rfl, rfl, rfl⟩, rfl, rfl, rfl, rfl, hp, hqn, X3, LS, hga, hR, eR⟩
def offD (x : Pr) : V := V.ref x.1
def isOff (H : Hp) (A : List Pr) : Prop := ∀ x ∈ A, H x.1 = some (.tup [.int x.2.1, .int x.2.2])
def N11 (K : PySem.W.Frag) (p0 d r n l dt : Addr) (rs : List (List Int)) : L2.St → Hp → Prop := fun σ H => ∃ B TS OS o na la L ga R fa Fs, ∃ p q : Nat, Sl σ d r n o na ∧ At σ 13 (.ref la) ∧ At σ 18 (.ref ga) ∧ At σ 22 (.int (1 + (p : Int))) ∧ At σ 25 (.int ((q : Int) - 30)) ∧ At σ 26 (.ref fa) ∧ p < 9 ∧ q < 60 ∧
  Nx K d B H ∧ Ls K p0 d r n l dt o na la rs TS OS L B ∧ B ga = some (.lst (refsS R)) ∧ isRowsS B R ∧ R.map (·.2) = joinedL (nsT OS) (lkT rs OS) ∧ B fa = some (.lst (Fs.map fun x : Pr => V.ref x.1)) ∧ isOff B Fs ∧ Fs.map (·.2) = offs ((q : Int) - 30) (1 + (p : Int))
theorem ns11 (C : Ctx K mg base) (hr : Room 9 (XN P w K mg base f cd A outer s H0 E).A) : Step (XN P w K mg base f cd A outer s H0 E) (sn 11) (N10 K p0 d r n l dt rs) (N11 K p0 d r n l dt rs) := by
  have nn := sc_l_net.nd
  refine ⟨_, ps_set (i := 26) nn rfl (by first | exact Or.inl rfl | exact Or.inr rfl) (pe_lc (own := [("k", 14)]) (g := gName 14) rfl nn (pi_range2 (by rfl) C.t.b_range (pa_cons (pe_un un_neg pe_int) (pa_cons pe_int pa_nil))) (blkOk_by (N := n_l_net) (sc := defScope s_l_net) (by decide +kernel)) (fun _ _ _ _ _ => (pg_name (i := 14) nn rfl (by first | exact Or.inl rfl | exact Or.inr rfl))) (fun _ _ _ _ _ => pts_nil)
    (fun _ _ _ _ _ => by exact pe_tup (pa_cons (pe_callB call_abs (by rfl) C.t.b_abs (by decide +kernel) (pa_cons (pe_op op_sub (pe_op op_mul (pv 14) (pv 22)) (pv 25)) pa_nil)) (pa_cons (pv 14) pa_nil)))), fun D σ H hM hq => ?_⟩
  obtain ⟨B, TS, OS, o, na, la, L, ga, R, p, q, sl, h13, h18, h22, h25, hp, hqn, X, LS, hga, hR, eR⟩ := hM
  obtain ⟨hl, h0, h1, h2, h5, h12⟩ := id sl
  obtain ⟨a0, a1, a2, a3, a4, a5, a6, a7, a8, a9, a10, a11, a12, a13, a14, a15, a16, a17, a18, a19, a20, a21, a22, a23, a24, a25, a26, a27, a28, a29, a30, a31, rfl⟩ := ex32 hl
  cases h0; cases h1; cases h2; cases h5; cases h12; cases h13; cases h18; cases h22; cases h25
  refine ⟨_, rfl, _, _, rfl, ⟨by decide, by decide, by decide, by decide⟩, fun D1 hD => ?_⟩
  refine lc_range (lo := -31) (n := 63) (fun i H' => Le (T K) H H' ∧ ∃ Fs : List Pr, H' D1 = some (.lst (Fs.map fun x : Pr => V.ref x.1)) ∧ isOff H' Fs ∧ Fs.map (·.2) = (List.range i).map fun k : Nat => (iabs ((-31 + (k : Int)) * (1 + (p : Int)) - ((q : Int) - 30)), -31 + (k : Int)))
    ⟨(Le.refl X.tab).new hD, [], upd_same, (fun x hx => by cases hx), rfl⟩ (fun i H1 hi ⟨L1, Fs, e1, e2, e3⟩ => ?_) (fun H1 ⟨L1, Fs, e1, e2, e3⟩ => ?_)
  · refine ⟨rfl, yes_ (iteT ⟨_, rfl, _, rfl, _, _, rfl, rfl, .inl ⟨by omega, by omega⟩, _, rfl, _, _, rfl, rfl, _, rfl, _, rfl, by show 2 ≤ sizeLine; decide, fun t ht => ?_⟩)⟩
    have hv : (if (-31 + (i : Int)) * (1 + (p : Int)) - ((q : Int) - 30) < 0 then -((-31 + (i : Int)) * (1 + (p : Int)) - ((q : Int) - 30)) else (-31 + (i : Int)) * (1 + (p : Int)) - ((q : Int) - 30)) = iabs ((-31 + (i : Int)) * (1 + (p : Int)) - ((q : Int) - 30)) := rfl
    rw [hv]
    have e4 := (upd_ne (o := .tup [.int (iabs ((-31 + (i : Int)) * (1 + (p : Int)) - ((q : Int) - 30))), .int (-31 + (i : Int))]) (ne_of_none e1 ht)).trans e1
    refine ⟨_, e4, ?_, (L1.new ht).set hD e4, Fs ++ [(t, iabs ((-31 + (i : Int)) * (1 + (p : Int)) - ((q : Int) - 30)), -31 + (i : Int))], ?_, fun y hy => ?_, ?_⟩
    · have := congrArg List.length e3
      rw [List.length_map, List.length_map, List.length_range] at this
      rw [List.length_map]
      exact Nat.lt_of_le_of_lt (show Fs.length ≤ 64 by omega) (by decide)
    · rw [upd_same, List.map_append]; rfl
    · rcases List.mem_append.mp hy with hy | hy
      · have f1 := e2 y hy
        have f2 := (upd_ne (o := .tup [.int (iabs ((-31 + (i : Int)) * (1 + (p : Int)) - ((q : Int) - 30))), .int (-31 + (i : Int))]) (ne_of_none f1 ht)).trans f1
        exact (upd_ne (fun w => by rw [w, e1] at f1; cases f1)).trans f2
      · rw [List.mem_singleton.mp hy]
        exact (upd_ne (ne_of_none e1 ht).symm).trans upd_same
    · rw [List.map_append, e3, List.range_succ, List.map_append]
      rfl
  · have X1 := X.to L1
    obtain ⟨X2, X3⟩ := X1.rebase
    refine hq _ _ ⟨_, TS, OS, o, na, la, L, ga, R, D1, Fs, p, q, ⟨rfl, rfl, rfl, rfl, rfl, rfl⟩, rfl, rfl, rfl, rfl, rfl, hp, hqn, X2, LS.to X3, X3.at hga, Le.rwS X3 hR, eR, hid_at e1 (fun w => X.off_new hD w), fun y hy => hid_at (e2 y hy) (X1.off (e2 y hy) fun _ _ _ e => by cases e), e3⟩
def N12 (K : PySem.W.Frag) (p0 d : Addr) : L2.St → Hp → Prop := fun σ H => Tabs (T K) H ∧ H p0 = some (.lst [.ref d])
theorem ns12 (C : Ctx K mg base) (hr : Room 9 (XN P w K mg base f cd A outer s H0 E).A) : Step (XN P w K mg base f cd A outer s H0 E) (sn 12) (N11 K p0 d r n l dt rs) (N12 K p0 d) := by
  have nn := sc_l_net.nd
  refine ⟨_, ps_if (PW.pt (pw_or (pt_cmpR (op_neD hr.units) (pe_callTy call_list_of (by rfl) C.t.b_list (by decide +kernel) (pa_cons (pe_cx (ok_nearest (P := P) (w := w) C) hr (by decide) rfl passA (pa_cons (pv 25) (pa_cons (pv 22) pa_nil))) pa_nil))
      (pe_lc (own := [("off", 31), ("k", 14)]) (g := gTup K 2 (gCons (gName 31) (gCons (gName 14) gNil))) rfl nn (pi_list (pv 26)) (blkOk_by (N := n_l_net) (sc := defScope s_l_net) (by decide +kernel)) (fun _ _ _ _ _ => by exact pg_tup rfl (pgs_cons (pg_name (i := 31) nn rfl (by first | exact Or.inl rfl | exact Or.inr rfl)) (pgs_cons (pg_name (i := 14) nn rfl (by first | exact Or.inl rfl | exact Or.inr rfl)) pgs_nil)))
        (fun _ _ _ _ _ => by exact pts_one (pt_cmpR op_eq (pv 31) (pe_ix (r := rIxT K) ix_tup (pe_callB (r := rMinT K) (cr_minT rfl (hu_of hr)) (by rfl) C.t.b_min (by decide +kernel) (pa_cons (pv 26) pa_nil)) pe_int (fun _ _ => rfl)) (nomark _))) (fun _ _ _ _ _ => pv 14)) (nomark _))
    (pw_or1 (pt_cmpR (op_neD hr.units) (pe_callTy call_list_of (by rfl) C.t.b_list (by decide +kernel) (pa_cons (pe_cx (ok_joined (P := P) (w := w) C) hr (by decide) rfl passA (pa_cons (pv 12) (pa_cons (pv 13) pa_nil))) pa_nil)) (pv 18) (nomark _))))) (pss_one (ps_ret pe_bl)) pss_nil, fun D σ H hM hq => ?_⟩
  obtain ⟨B, TS, OS, o, na, la, L, ga, R, fa, Fs, p, q, sl, h13, h18, h22, h25, h26, hp, hqn, X, LS, hga, hR, eR, hfa, hF, eF⟩ := hM
  have l900 := LS.len
  have n5 := LS.ns5
  obtain ⟨hl, h0, h1, h2, h5, h12⟩ := id sl
  obtain ⟨a0, a1, a2, a3, a4, a5, a6, a7, a8, a9, a10, a11, a12, a13, a14, a15, a16, a17, a18, a19, a20, a21, a22, a23, a24, a25, a26, a27, a28, a29, a30, a31, rfl⟩ := ex32 hl
  cases h0; cases h1; cases h2; cases h5; cases h12; cases h13; cases h18; cases h22; cases h25; cases h26
  refine ⟨_, rfl, _, rfl, (q : Int) - 30, 1 + (p : Int), rfl, by omega, by omega, fun t ht => ?_⟩
  have X1 := X.new (o := .tup ((near ((q : Int) - 30) (1 + (p : Int))).map V.int)) ht
  have ht1 : upd H t (.tup ((near ((q : Int) - 30) (1 + (p : Int))).map V.int)) t = some (.tup ((near ((q : Int) - 30) (1 + (p : Int))).map V.int)) := upd_same
  generalize upd H t (.tup ((near ((q : Int) - 30) (1 + (p : Int))).map V.int)) = H1 at X1 ht1 ⊢
  refine ⟨t, _, rfl, .inr (SqT.of ht1), fun c hc => ?_⟩
  have X2 := X1.new (o := .lst ((near ((q : Int) - 30) (1 + (p : Int))).map V.int)) hc
  have hc2 : upd H1 c (.lst ((near ((q : Int) - 30) (1 + (p : Int))).map V.int)) c = some (.lst ((near ((q : Int) - 30) (1 + (p : Int))).map V.int)) := upd_same
  generalize upd H1 c (.lst ((near ((q : Int) - 30) (1 + (p : Int))).map V.int)) = H2 at X2 hc2 ⊢
  have fa2 := X2.le.at hfa
  have lF : Fs.length = 63 := by have := congrArg List.length eF; unfold offs at this; rw [List.length_map, List.length_map, List.length_range] at this; exact this
  refine ⟨_, rfl, fa, rfl, ⟨_, SqL.of fa2⟩, fun D1 hD => ?_⟩
  refine lc_pick (fun x : Pr => decide (x.2.1 = leastO (offs ((q : Int) - 30) (1 + (p : Int))))) (fun x => V.int x.2.2) (walksVL (T := T K) (SqL.of fa2)) X2.tab hD (by omega) (fun x hx H' Y N L' hY hN => ?_) (fun H3 L3 hD3 => ?_)
  · have fx := L'.at (X2.le.at (hF x hx))
    refine ⟨x.1, _, rfl, SqT.of fx, rfl, _, _, rfl, _, _, rfl, rfl, rfl, ?_⟩
    refine ⟨_, rfl, _, rfl, fa, Fs, rfl, SqL.of (L'.at fa2), fun y hy => SqT.of (L'.at (X2.le.at (hF y hy))), (fun z => by rw [z] at lF; cases lF), fun m hm hle => ?_⟩
    have em : m.2.1 = leastO (offs ((q : Int) - 30) (1 + (p : Int))) := by
      rw [← eF]
      refine leastO_is (m := m.2) (List.mem_map.mpr ⟨m, hm, rfl⟩) fun y hy => ?_
      obtain ⟨z, hz, rfl⟩ := List.mem_map.mp hy
      exact hle z hz
    refine ⟨m.1, _, _, _, rfl, rfl, SqT.of (L'.at (X2.le.at (hF m hm))), atI_nat (j := 0) rfl, rfl, _, rfl, ?_⟩
    rw [em]
    by_cases e : x.2.1 = leastO (offs ((q : Int) - 30) (1 + (p : Int)))
    · exact iteDT (show V.int x.2.1 = V.int _ by rw [e]) ⟨_, rfl, hY H' (Le.refl L'.tab) (decide_eq_true e)⟩
    · exact iteDF (fun z => e (V.int.inj z)) (hN H' (Le.refl L'.tab) (decide_eq_false e))
  have en : ((Fs.filter fun x : Pr => decide (x.2.1 = leastO (offs ((q : Int) - 30) (1 + (p : Int))))).map fun x => V.int x.2.2) = (nearBy ((q : Int) - 30) (1 + (p : Int))).map V.int := by
    unfold nearBy
    conv => rhs; rw [← eF]
    rw [List.filter_map, List.map_map, List.map_map, eF]
    rfl
  rw [en, ← near_least (n := (q : Int)) (p := (p : Int)) (by omega) (by omega) (by omega) (by omega)] at hD3
  have X3 := X2.to L3
  refine ⟨_, _, .lst (SqL.of (L3.at hc2)) (DpAll.ints _), .lst (SqL.of hD3) (DpAll.ints _), shaped_ints _, shaped_ints _, _, rfl, ?_⟩
  rw [show PyData.eqv (.list ((near ((q : Int) - 30) (1 + (p : Int))).map PyData.int)) (.list ((near ((q : Int) - 30) (1 + (p : Int))).map PyData.int)) = true from (eqv_ints _ _).trans (decide_eq_true rfl)]
  refine iteF ?_
  have okl := lkT_ok (rs := rs) LS.tn.gt
  refine ⟨_, rfl, _, rfl, na, la, nsT OS, L, rfl, SqL.of (X3.le.at LS.na), .inl (SqL.of (X3.le.at LS.la)), Le.lks X3.le LS.lk, X3.tab, by omega, by omega, LS.ok, by rw [LS.eq]; exact okl, fun H4 t4 R4 L4 ht4n ht4 hR4 eR4 => ?_⟩
  rw [LS.eq] at eR4
  have ht4' : H4 t4 = some (.tup (refsS R4)) := ht4
  refine ⟨t4, _, rfl, .inr (SqT.of ht4'), fun c4 hc4 => ?_⟩
  have X5 := (X3.to L4).new (o := .lst (refsS R4)) hc4
  have hR5 : isRowsS (upd H4 c4 (.lst (refsS R4))) R4 := fun z hz => (upd_ne (ne_of_none (hR4 z hz) hc4)).trans (hR4 z hz)
  have hc5 : upd H4 c4 (.lst (refsS R4)) c4 = some (.lst (refsS R4)) := upd_same
  generalize upd H4 c4 (.lst (refsS R4)) = H5 at X5 hR5 hc5 ⊢
  have okr := part_ok LS.nd LS.wi LS.ok
  refine ⟨_, rfl, _, _, .lst (SqL.of hc5) (dp_rows hR5), .lst (SqL.of (X5.le.at hga)) (dp_rows (Le.rwS X5.le hR)), by rw [eR4]; exact shaped_rowsS okr, by rw [eR]; exact shaped_rowsS okr, _, rfl, ?_⟩
  rw [eR4, eR, SeqAt.eqv_refl _ (lay_rowsS okr).1]
  exact iteF (hq _ _ ⟨X5.tab, X5.le.at LS.tn.lp⟩)
/-! ### _law_net, joined -/
def spNetL (K : PySem.W.Frag) : Sp := fun vs H Q _ => ∃ (p0 d r n l dt : Addr) (rs : List (List Int)) (B : Hp), vs = [.ref d, .ref r, .ref n] ∧ Nw K d dt [] B H ∧ Gd K p0 d r n l dt rs B ∧ ∀ H', Tabs (T K) H' → H' p0 = some (.lst [.ref d]) → Q (.bl true) H'
def StepsR (X : Cx) (sts : List Stmt) (M : _root_.L2.St → Hp → Prop) (R : Ends → Prop) : Prop := ∃ t, PSs X sts t ∧ ∀ (D : Ends) (σ : _root_.L2.St) (H : Hp), M σ H → R D → t D σ H
theorem consR {X : Cx} {st : Stmt} {r : List Stmt} {M M1 : _root_.L2.St → Hp → Prop} {R : Ends → Prop} (a : Step X st M M1) (b : StepsR X r M1 R) : StepsR X (st :: r) M R := by
  obtain ⟨ta, ha, ha2⟩ := a
  obtain ⟨tb, hb, hb2⟩ := b
  exact ⟨_, C8.pss_cut ha hb, fun D σ H h k => ⟨M1, ha2 { D with nx := M1 } σ H h (fun _ _ z => z), fun σ' H' z => hb2 D σ' H' z k⟩⟩
theorem nall (C : Ctx K mg base) (hr : Room 9 (XN P w K mg base f (cdN K) A outer s H0 E).A) : StepsR (XN P w K mg base f (cdN K) A outer s H0 E) NB (N0 K p0 d r n l dt rs) (fun D => ∀ H', Tabs (T K) H' → H' p0 = some (.lst [.ref d]) → D.rt (.bl true) H') :=
  (consR (st := sn 0) (ns0 C hr) (consR (st := sn 1) (ns1 C hr) (consR (st := sn 2) (ns2 C hr) (consR (st := sn 3) (ns3 C hr) (consR (st := sn 4) (ns4 C hr) (consR (st := sn 5) (ns5 C hr) (consR (st := sn 6) (ns6 C hr) (consR (st := sn 7) (ns7 C hr) (consR (st := sn 8) (ns8 C hr) (consR (st := sn 9) (ns9 C hr) (consR (st := sn 10) (ns10 C hr) (consR (st := sn 11) (ns11 C hr) (consR (st := sn 12) (ns12 C hr) (r := [sn 13])
    ⟨_, pss_one (ps_ret pe_bl), fun D σ H hM hq => hq H hM.1 hM.2⟩)))))))))))))
theorem ok_netL (C : Ctx K mg base) : CalX P w K mg base 10 "_law_net" ["dice", "rows", "net"] (spNetL K) := by
  obtain ⟨fd, F⟩ := C.d.d_l_net
  refine ⟨_, fd, ?_, F.funD.bindsN fun _ _ _ _ _ _ us hl => (match us, hl with | [_, _, _], _ => rfl), F.kp, C.t.m_l_net⟩
  refine F.ok sc_l_net (fun vs H Q E h => ?_) (fun A outer s H vs Q E hr h => ?_)
  · obtain ⟨p0, d, r, n, l, dt, rs, B, rfl, _⟩ := h
    rfl
  · obtain ⟨p0, d, r, n, l, dt, rs, B, rfl, L, G, hq⟩ := h
    obtain ⟨ta, ha1, ha2⟩ := nall (P := P) (w := w) (f := He.fAd K ("_law_net", none)) (A := A) (outer := outer) (s := s) (H0 := H) (E := E) (p0 := p0) (d := d) (r := r) (n := n) (l := l) (dt := dt) (rs := rs) C hr
    exact ⟨ta, ha1, ha2 _ _ _ ⟨B, rfl, rfl, rfl, rfl, L, G⟩ hq⟩
end
end K2

-- text K2Wa
set_option maxRecDepth 100000
set_option maxHeartbeats 4000000
namespace K2
open PySem PySem.Spec PyProof.Rows L2 LamX GX
section
variable {P : Program} {w : World} {K : PySem.W.Frag} {mg : Str → Option Value} {base : Heap}
variable {f : Addr} {cd : Value} {A : Around} {outer : List Env} {s : Shared} {H0 : Hp} {E : XK}
/-! ### the law: its state -/
abbrev XW (P : Program) (w : World) (K : PySem.W.Frag) (mg : Str → Option Value) (base : Heap) (f : Addr) (cd : Value) (A : Around) (outer : List Env) (s : Shared) (H : Hp) (E : XK) : Cx := XA P w K mg base n_law "law" (defScope s_law) f cd A outer s H E
abbrev cdW (K : PySem.W.Frag) : Value := .ref (He.cT K ("law", none)).1
def WB : List Stmt := match defBody s_law with
  | st :: _ => forB st
  | _ => []
def sw (i : Nat) : Stmt := (WB[i]?).getD (.Pass default)
theorem WB_len : WB.length = 9 := by decide +kernel
theorem ex19 {σ : L2.St} (h : σ.length = 19) : ∃ a0 a1 a2 a3 a4 a5 a6 a7 a8 a9 a10 a11 a12 a13 a14 a15 a16 a17 a18, σ = a0 :: a1 :: a2 :: a3 :: a4 :: a5 :: a6 :: a7 :: a8 :: a9 :: a10 :: a11 :: a12 :: a13 :: a14 :: a15 :: a16 :: a17 :: a18 :: [] := by
  obtain ⟨a0, t0, rfl, h0⟩ := ex1 h
  obtain ⟨a1, t1, rfl, h1⟩ := ex1 h0
  obtain ⟨a2, t2, rfl, h2⟩ := ex1 h1
  obtain ⟨a3, t3, rfl, h3⟩ := ex1 h2
  obtain ⟨a4, t4, rfl, h4⟩ := ex1 h3
  obtain ⟨a5, t5, rfl, h5⟩ := ex1 h4
  obtain ⟨a6, t6, rfl, h6⟩ := ex1 h5
  obtain ⟨a7, t7, rfl, h7⟩ := ex1 h6
  obtain ⟨a8, t8, rfl, h8⟩ := ex1 h7
  obtain ⟨a9, t9, rfl, h9⟩ := ex1 h8
  obtain ⟨a10, t10, rfl, h10⟩ := ex1 h9
  obtain ⟨a11, t11, rfl, h11⟩ := ex1 h10
  obtain ⟨a12, t12, rfl, h12⟩ := ex1 h11
  obtain ⟨a13, t13, rfl, h13⟩ := ex1 h12
  obtain ⟨a14, t14, rfl, h14⟩ := ex1 h13
  obtain ⟨a15, t15, rfl, h15⟩ := ex1 h14
  obtain ⟨a16, t16, rfl, h16⟩ := ex1 h15
  obtain ⟨a17, t17, rfl, h17⟩ := ex1 h16
  obtain ⟨a18, t18, rfl, h18⟩ := ex1 h17
  have := List.length_eq_zero_iff.mp h18
  subst this
  exact ⟨a0, a1, a2, a3, a4, a5, a6, a7, a8, a9, a10, a11, a12, a13, a14, a15, a16, a17, a18, rfl⟩
/-- the dice in p0's list -/
structure Lx (K : PySem.W.Frag) (p0 d : Addr) (B H : Hp) : Prop where
  x : Nx K d B H
  lp : B p0 = some (.lst [.ref d])
section
variable {p0 d : Addr} {B H H' : Hp} {p : Addr} {o : HO}
theorem Lx.tab (h : Lx K p0 d B H) : Tabs (T K) H := h.x.tab
theorem Lx.to (h : Lx K p0 d B H) (l : Le (T K) H H') : Lx K p0 d B H' := ⟨h.x.to l, h.lp⟩
theorem Lx.new (h : Lx K p0 d B H) (n : H p = none) : Lx K p0 d B (upd H p o) := ⟨h.x.new n, h.lp⟩
theorem Lx.roll (h : Lx K p0 d B H) (x y z : Int) : Lx K p0 d B (upd H d (dV x y z)) := ⟨h.x.roll x y z, h.lp⟩
theorem Lx.dice (h : Lx K p0 d B H) : ∃ x y z, H d = some (dV x y z) := h.x.dice
theorem Lx.le (h : Lx K p0 d B H) : Le (T K) B H := h.x.le
theorem Lx.put {u : HO} (h : Lx K p0 d B H) (hp : B p = none) (h1 : H p = some u) (hu : PlainO u) (hne : p ≠ d) : Lx K p0 d B (upd H p o) := ⟨h.x.put hp h1 hu hne, h.lp⟩
theorem Lx.rebase (h : Lx K p0 d B H) : Lx K p0 d (hid H [d]) H ∧ Le (T K) B (hid H [d]) := ⟨⟨h.x.rebase.1, h.x.rebase.2.at h.lp⟩, h.x.rebase.2⟩
end
variable {p0 d : Addr}
def W0 (K : PySem.W.Frag) (p0 d : Addr) : _root_.L2.St → Hp → Prop := fun σ H => ∃ B, σ.length = 19 ∧ At σ 1 (.ref d) ∧ Lx K p0 d B H
def W1 (K : PySem.W.Frag) (p0 d : Addr) : _root_.L2.St → Hp → Prop := fun σ H => ∃ B, ∃ wd hg : Nat, σ.length = 19 ∧ At σ 1 (.ref d) ∧ At σ 2 (.int (wd : Int)) ∧ At σ 3 (.int (hg : Int)) ∧ 1 ≤ wd ∧ wd ≤ 7 ∧ 1 ≤ hg ∧ hg ≤ 7 ∧ Lx K p0 d B H
def W2 (K : PySem.W.Frag) (p0 d : Addr) : _root_.L2.St → Hp → Prop := fun σ H => ∃ B, ∃ wd hg tp : Nat, σ.length = 19 ∧ At σ 1 (.ref d) ∧ At σ 2 (.int (wd : Int)) ∧ At σ 3 (.int (hg : Int)) ∧ At σ 4 (.int (tp : Int)) ∧ 1 ≤ wd ∧ wd ≤ 7 ∧ 1 ≤ hg ∧ hg ≤ 7 ∧ 1 ≤ tp ∧ tp ≤ 30 ∧ Lx K p0 d B H
theorem ws0 (C : Ctx K mg base) (hr : Room 10 (XW P w K mg base f cd A outer s H0 E).A) : Step (XW P w K mg base f cd A outer s H0 E) (sw 0) (W0 K p0 d) (W1 K p0 d) := by
  have nn := sc_law.nd
  refine ⟨_, ps_asg (pe_tup (pa_cons (pe_op op_add pe_int (pe_cx (ok_roll (P := P) (w := w) C) hr (by decide) rfl passA (pa_cons (pv 1) (pa_cons pe_int pa_nil)))) (pa_cons (pe_op op_add pe_int (pe_cx (ok_roll (P := P) (w := w) C) hr (by decide) rfl passA (pa_cons (pv 1) (pa_cons pe_int pa_nil)))) pa_nil))) (pg_tup rfl (pgs_cons (pg_name (i := 2) nn rfl (by first | exact Or.inl rfl | exact Or.inr rfl)) (pgs_cons (pg_name (i := 3) nn rfl (by first | exact Or.inl rfl | exact Or.inr rfl)) pgs_nil))), fun D σ H hM hq => ?_⟩
  obtain ⟨B, hl, h1, L⟩ := hM
  obtain ⟨a0, a1, a2, a3, a4, a5, a6, a7, a8, a9, a10, a11, a12, a13, a14, a15, a16, a17, a18, rfl⟩ := ex19 hl
  cases h1
  obtain ⟨qx, qy, qz, qd⟩ := L.dice
  refine ⟨_, rfl, d, qx, qy, qz, _, rfl, qd, by omega, by omega, fun qx qy qz qr q0 q1 => ?_⟩
  obtain ⟨u, hu, rfl⟩ : ∃ k : Nat, k < 7 ∧ qr = (k : Int) := ⟨qr.toNat, by omega, by omega⟩
  have L1 := L.roll qx qy qz
  generalize upd H d (dV qx qy qz) = H1 at L1 ⊢
  clear q0 q1 qd
  refine ⟨_, _, rfl, rfl, ?_⟩
  obtain ⟨qx, qy, qz, qd⟩ := L1.dice
  refine ⟨_, rfl, d, qx, qy, qz, _, rfl, qd, by omega, by omega, fun qx qy qz qr q0 q1 => ?_⟩
  obtain ⟨v, hv, rfl⟩ : ∃ k : Nat, k < 7 ∧ qr = (k : Int) := ⟨qr.toNat, by omega, by omega⟩
  have L2 := L1.roll qx qy qz
  generalize upd H1 d (dV qx qy qz) = H2 at L2 ⊢
  clear q0 q1 qd
  refine ⟨_, _, rfl, rfl, by show 2 ≤ sizeLine; decide, fun t ht => ?_⟩
  have L3 := L2.new (o := .tup [.int (1 + (u : Int)), .int (1 + (v : Int))]) ht
  refine ⟨t, _, rfl, SqT.of upd_same, rfl, _, _, rfl, _, _, rfl, rfl, ?_⟩
  refine hq _ _ ⟨B, 1 + u, 1 + v, rfl, rfl, ?_, ?_, by omega, by omega, by omega, by omega, L3⟩
  · show some (some (V.int (1 + (u : Int)))) = some (some (V.int ((1 + u : Nat) : Int)))
    rw [Int.natCast_add]; rfl
  · show some (some (V.int (1 + (v : Int)))) = some (some (V.int ((1 + v : Nat) : Int)))
    rw [Int.natCast_add]; rfl
theorem ws1 (C : Ctx K mg base) (hr : Room 10 (XW P w K mg base f cd A outer s H0 E).A) : Step (XW P w K mg base f cd A outer s H0 E) (sw 1) (W1 K p0 d) (W2 K p0 d) := by
  have nn := sc_law.nd
  refine ⟨_, ps_set (i := 4) nn rfl (by first | exact Or.inl rfl | exact Or.inr rfl) (pe_op op_add pe_int (pe_cx (ok_roll (P := P) (w := w) C) hr (by decide) rfl passA (pa_cons (pv 1) (pa_cons pe_int pa_nil)))), fun D σ H hM hq => ?_⟩
  obtain ⟨B, wd, hg, hl, h1, h2, h3, w1, w7, g1, g7, L⟩ := hM
  obtain ⟨a0, a1, a2, a3, a4, a5, a6, a7, a8, a9, a10, a11, a12, a13, a14, a15, a16, a17, a18, rfl⟩ := ex19 hl
  cases h1; cases h2; cases h3
  obtain ⟨qx, qy, qz, qd⟩ := L.dice
  refine ⟨_, rfl, d, qx, qy, qz, _, rfl, qd, by omega, by omega, fun qx qy qz qr q0 q1 => ?_⟩
  obtain ⟨u, hu, rfl⟩ : ∃ k : Nat, k < 30 ∧ qr = (k : Int) := ⟨qr.toNat, by omega, by omega⟩
  have L1 := L.roll qx qy qz
  generalize upd H d (dV qx qy qz) = H1 at L1 ⊢
  clear q0 q1 qd
  refine ⟨_, _, rfl, rfl, ?_⟩
  refine hq _ _ ⟨B, wd, hg, 1 + u, rfl, rfl, rfl, rfl, ?_, w1, w7, g1, g7, by omega, by omega, L1⟩
  show some (some (V.int (1 + (u : Int)))) = some (some (V.int ((1 + u : Nat) : Int)))
  rw [Int.natCast_add]; rfl
end
end K2

-- text K2Wb
set_option maxRecDepth 100000
set_option maxHeartbeats 4000000
namespace K2
open PySem PySem.Spec PyProof.Rows L2 LamX GX
section
variable {P : Program} {w : World} {K : PySem.W.Frag} {mg : Str → Option Value} {base : Heap}
variable {f : Addr} {cd : Value} {A : Around} {outer : List Env} {s : Shared} {H0 : Hp} {E : XK}
/-! ### the law's rows -/
variable {p0 d : Addr}
theorem Lx.rebase2 {B H : Hp} {c : Addr} {xs : List V} (h : Lx K p0 d B H) (hc : H c = some (.lst xs)) (hn : B c = none) : Lx K p0 d (hid H [d, c]) H ∧ Le (T K) B (hid H [d, c]) := ⟨⟨(h.x.rebase2 hc hn).1, (h.x.rebase2 hc hn).2.at h.lp⟩, (h.x.rebase2 hc hn).2⟩
structure Gs (r : Addr) (rs : List (List Int)) (wd hg : Nat) (B : Hp) : Prop where
  grid : isGrid B r rs
  good : GoodL rs
  hgt : rs.length = hg
  wdt : (rs.headD []).length = wd
theorem Gs.to {T : List (Addr × Str)} {r : Addr} {rs : List (List Int)} {wd hg : Nat} {B B' : Hp} (g : Gs r rs wd hg B) (x : Le T B B') : Gs r rs wd hg B' := ⟨Le.grid x g.grid, g.good, g.hgt, g.wdt⟩
def W3 (K : PySem.W.Frag) (p0 d : Addr) : _root_.L2.St → Hp → Prop := fun σ H => ∃ B r rs, ∃ wd hg : Nat, σ.length = 19 ∧ At σ 1 (.ref d) ∧ At σ 2 (.int (wd : Int)) ∧ At σ 3 (.int (hg : Int)) ∧ At σ 5 (.ref r) ∧ 1 ≤ wd ∧ wd ≤ 7 ∧ 1 ≤ hg ∧ hg ≤ 7 ∧ Lx K p0 d B H ∧ Gs r rs wd hg B
def okRow (wd : Nat) (row : List Int) : Prop := row.length = wd ∧ ∀ z ∈ row, 0 ≤ z ∧ z ≤ 999
theorem ws2 (C : Ctx K mg base) (hr : Room 10 (XW P w K mg base f cd A outer s H0 E).A) : Step (XW P w K mg base f cd A outer s H0 E) (sw 2) (W2 K p0 d) (W3 K p0 d) := by
  have nn := sc_law.nd
  refine ⟨_, ps_set (i := 5) nn rfl (by first | exact Or.inl rfl | exact Or.inr rfl) (pe_lc (own := [("y", 14)]) (g := gName 14) rfl nn (pi_range1 (by rfl) C.t.b_range (pa_cons (pv 3) pa_nil)) (blkOk_by (N := n_law) (sc := defScope s_law) (by decide +kernel)) (fun _ _ _ _ _ => pg_name (i := 14) nn rfl (Or.inl rfl)) (fun _ _ _ _ _ => pts_nil)
    (fun _ _ _ _ _ => by
      apply pe_lc (own := [("x", 16)]) (g := gName 16)
      case hc => rfl
      case hN => exact nn
      case hi => exact pi_range1 (by rfl) C.t.b_range (pa_cons (pv 2) pa_nil)
      case ok => exact blkOk_by (by rfl)
      case hg => exact (fun _ _ _ _ _ => pg_name (i := 16) nn rfl (Or.inl rfl))
      case ht => exact (fun _ _ _ _ _ => pts_nil)
      case he => exact (fun _ _ _ _ _ => by exact pe_op op_mul (pe_cx (ok_roll (P := P) (w := w) C) hr (by decide) rfl passE0 (pa_cons (pv 1) (pa_cons (pv 4) pa_nil))) (pe_callTy call_int1 (by rfl) C.t.b_int (by decide +kernel) (pa_cons (pe_cmpR op_eq (pe_cx (ok_roll (P := P) (w := w) C) hr (by decide) rfl passE0 (pa_cons (pv 1) (pa_cons pe_int pa_nil))) pe_int (nomark _)) pa_nil))))), fun D σ H hM hq => ?_⟩
  obtain ⟨B, wd, hg, tp, hl, h1, h2, h3, h4, w1, w7, g1, g7, t1, t30, L⟩ := hM
  obtain ⟨a0, a1, a2, a3, a4, a5, a6, a7, a8, a9, a10, a11, a12, a13, a14, a15, a16, a17, a18, rfl⟩ := ex19 hl
  cases h1; cases h2; cases h3; cases h4
  refine ⟨_, rfl, _, rfl, by omega, by omega, fun D1 hD => ?_⟩
  rw [show ((hg : Nat) : Int).toNat = hg by omega]
  have D1d : D1 ≠ d := L.x.ne_new hD
  refine lc_range (lo := 0) (n := hg) (fun i H' => ∃ B, Lx K p0 d B H' ∧ B D1 = none ∧ ∃ R : List (Addr × List Int), R.length = i ∧ H' D1 = some (.lst (R.map fun x => V.ref x.1)) ∧ ∀ x ∈ R, B x.1 = some (.lst (x.2.map V.int)) ∧ okRow wd x.2)
    ⟨B, L.new hD, L.le.no _ hD, [], rfl, upd_same, (fun x hx => by cases hx)⟩ (fun i H1 hi ⟨B1, L1, b1, R, e1, e2, e3⟩ => ?_) (fun H1 ⟨B1, L1, b1, R, e1, e2, e3⟩ => ?_)
  · refine ⟨rfl, yes_ (iteT ⟨_, rfl, _, rfl, by omega, by omega, fun D2 hD2 => ?_⟩)⟩
    rw [show ((wd : Nat) : Int).toNat = wd by omega]
    have D2d : D2 ≠ d := L1.x.ne_new hD2
    have D12 : D1 ≠ D2 := ne_of_none e2 hD2
    have b2 : B1 D2 = none := L1.le.no _ hD2
    refine lc_range (lo := 0) (n := wd) (fun j H' => Lx K p0 d B1 H' ∧ H' D1 = some (.lst (R.map fun x => V.ref x.1)) ∧ ∃ ns : List Int, H' D2 = some (.lst (ns.map V.int)) ∧ ns.length = j ∧ ∀ z ∈ ns, 0 ≤ z ∧ z ≤ 999)
      ⟨L1.new hD2, (upd_ne D12).trans e2, [], upd_same, rfl, (fun x hx => by cases hx)⟩ (fun j H2 hj ⟨L2, f1, ns, f2, f3, f4⟩ => ?_) (fun H2 ⟨L2, f1, ns, f2, f3, f4⟩ => ?_)
    · refine ⟨rfl, yes_ (iteT ?_)⟩
      obtain ⟨qx, qy, qz, qd⟩ := L2.dice
      refine ⟨_, rfl, _, rfl, d, qx, qy, qz, _, rfl, qd, by omega, by omega, fun qx qy qz qr q0 q1 => ?_⟩
      obtain ⟨u, hu, rfl⟩ : ∃ k : Nat, k < tp ∧ qr = (k : Int) := ⟨qr.toNat, by omega, by omega⟩
      have L3 := L2.roll qx qy qz
      have sameu : ∀ a, a ≠ d → upd H2 d (dV qx qy qz) a = H2 a := fun a n => upd_ne n
      generalize upd H2 d (dV qx qy qz) = H3 at L3 sameu ⊢
      clear q0 q1 qd
      obtain ⟨qx, qy, qz, qd⟩ := L3.dice
      refine ⟨_, rfl, d, qx, qy, qz, _, rfl, qd, by omega, by omega, fun qx qy qz qr q0 q1 => ?_⟩
      obtain ⟨v, hv, rfl⟩ : ∃ k : Nat, k < 3 ∧ qr = (k : Int) := ⟨qr.toNat, by omega, by omega⟩
      have L4 := L3.roll qx qy qz
      have samev : ∀ a, a ≠ d → upd H3 d (dV qx qy qz) a = H3 a := fun a n => upd_ne n
      generalize upd H3 d (dV qx qy qz) = H4 at L4 samev ⊢
      clear q0 q1 qd
      refine ⟨rfl, .inr ⟨_, rfl, ?_⟩⟩
      have hb : (if decide (V.int (v : Int) = V.int 0) = true then (1 : Int) else 0) = 0 ∨ (if decide (V.int (v : Int) = V.int 0) = true then (1 : Int) else 0) = 1 := by
        by_cases c : decide (V.int (v : Int) = V.int 0) = true
        · rw [if_pos c]; exact .inr rfl
        · rw [if_neg c]; exact .inl rfl
      generalize (if decide (V.int (v : Int) = V.int 0) = true then (1 : Int) else 0) = bb at hb ⊢
      have f1' := (samev D1 D1d).trans ((sameu D1 D1d).trans f1)
      have f2' := (samev D2 D2d).trans ((sameu D2 D2d).trans f2)
      have hz : 0 ≤ (u : Int) * bb ∧ (u : Int) * bb ≤ 999 := by
        rcases hb with rfl | rfl <;> omega
      refine ⟨_, _, rfl, rfl, .inl ⟨by omega, by omega⟩, _, f2', ?_, L4.put b2 f2' trivial D2d, (upd_ne D12).trans f1', ns ++ [(u : Int) * bb], ?_, ?_, fun z hz2 => ?_⟩
      · rw [List.length_map, f3]
        exact Nat.lt_of_lt_of_le (show j < 64 by omega) (by decide)
      · rw [upd_same, List.map_append]; rfl
      · rw [List.length_append, f3]; rfl
      · rcases List.mem_append.mp hz2 with hz2 | hz2
        · exact f4 z hz2
        · rw [List.mem_singleton.mp hz2]; exact hz
    · have L3 := L2.put (o := .lst ((R.map fun x => V.ref x.1) ++ [V.ref D2])) b1 f1 trivial D1d
      have f5 : upd H2 D1 (.lst ((R.map fun x => V.ref x.1) ++ [V.ref D2])) D2 = some (.lst (ns.map V.int)) := (upd_ne (Ne.symm D12)).trans f2
      have f6 : upd H2 D1 (.lst ((R.map fun x => V.ref x.1) ++ [V.ref D2])) D1 = some (.lst ((R.map fun x => V.ref x.1) ++ [V.ref D2])) := upd_same
      refine ⟨_, f1, ?_, ?_⟩
      · rw [List.length_map, e1]
        exact Nat.lt_of_lt_of_le (show i < 64 by omega) (by decide)
      generalize upd H2 D1 (.lst ((R.map fun x => V.ref x.1) ++ [V.ref D2])) = H3 at L3 f5 f6 ⊢
      obtain ⟨L4, L5⟩ := L3.rebase2 f6 b1
      refine ⟨_, L4, hid_no (by simp), R ++ [(D2, ns)], by rw [List.length_append, e1]; rfl, ?_, fun x hx => ?_⟩
      · rw [f6, List.map_append]; rfl
      · rcases List.mem_append.mp hx with hx | hx
        · exact ⟨L5.at (e3 x hx).1, (e3 x hx).2⟩
        · rw [List.mem_singleton.mp hx]
          exact ⟨hid_at f5 (by simp [D2d, Ne.symm D12]), f3, f4⟩
  · obtain ⟨L2, L3⟩ := L1.rebase
    have gl : ∀ r ∈ R.map (·.2), okRow wd r := fun r hr => by
      obtain ⟨x, hx, rfl⟩ := List.mem_map.mp hr
      exact (e3 x hx).2
    have hw : ((R.map (·.2)).headD []).length = wd := by
      cases R with
      | nil => rw [List.length_nil] at e1; omega
      | cons a t => exact (gl a.2 List.mem_cons_self).1
    have lR : (R.map (·.2)).length = hg := by rw [List.length_map, e1]
    refine hq _ _ ⟨_, D1, R.map (·.2), wd, hg, rfl, rfl, rfl, rfl, rfl, w1, w7, g1, g7, L2, ⟨R, hid_at e2 (by simp [D1d]), fun x hx => L3.at (e3 x hx).1, rfl⟩, ⟨by omega, by omega, by omega, fun r hr => by rw [hw]; exact (gl r hr).1, fun r hr => (gl r hr).2⟩, lR, hw⟩
end
end K2

-- text K2Wc
set_option maxRecDepth 100000
set_option maxHeartbeats 4000000
namespace K2
open PySem PySem.Spec PyProof.Rows L2 LamX GX
section
variable {P : Program} {w : World} {K : PySem.W.Frag} {mg : Str → Option Value} {base : Heap}
variable {f : Addr} {cd : Value} {A : Around} {outer : List Env} {s : Shared} {H0 : Hp} {E : XK}
/-! ### land and net of the law -/
def Sw (σ : _root_.L2.St) (d r l0 n : Addr) (wd hg : Nat) : Prop := σ.length = 19 ∧ At σ 1 (.ref d) ∧ At σ 2 (.int (wd : Int)) ∧ At σ 3 (.int (hg : Int)) ∧ At σ 5 (.ref r) ∧ At σ 6 (.ref l0) ∧ At σ 7 (.ref n)
theorem Sw.set {σ : _root_.L2.St} {d r l0 n : Addr} {wd hg : Nat} (h : Sw σ d r l0 n wd hg) {j : Nat} {x : Option V} (hj : j ≠ 1 ∧ j ≠ 2 ∧ j ≠ 3 ∧ j ≠ 5 ∧ j ≠ 6 ∧ j ≠ 7) : Sw (σ.set j x) d r l0 n wd hg := by
  obtain ⟨a, b, c, e, g, k, m⟩ := h
  exact ⟨by rw [List.length_set]; exact a, at_set b (Ne.symm hj.1), at_set c (Ne.symm hj.2.1), at_set e (Ne.symm hj.2.2.1), at_set g (Ne.symm hj.2.2.2.1), at_set k (Ne.symm hj.2.2.2.2.1), at_set m (Ne.symm hj.2.2.2.2.2)⟩
structure Wl (K : PySem.W.Frag) (p0 d r n l dt l0 : Addr) (rs : List (List Int)) (wd hg : Nat) (B H : Hp) : Prop where
  nw : Nw K d dt [] B H
  gd : Gd K p0 d r n l dt rs B
  l0 : isLand K B l0 rs
  hgt : rs.length = hg
  wdt : (rs.headD []).length = wd
section
variable {p0 d r n l dt l0 : Addr} {rs : List (List Int)} {wd hg : Nat} {B H H' : Hp} {p : Addr} {o : HO}
theorem Wl.tab (h : Wl K p0 d r n l dt l0 rs wd hg B H) : Tabs (T K) H := h.nw.tab
theorem Wl.le (h : Wl K p0 d r n l dt l0 rs wd hg B H) : Le (T K) B H := h.nw.le
theorem Wl.dice (h : Wl K p0 d r n l dt l0 rs wd hg B H) : ∃ x y z, H d = some (dV x y z) := h.nw.dice
theorem Wl.to (h : Wl K p0 d r n l dt l0 rs wd hg B H) (x : Le (T K) H H') : Wl K p0 d r n l dt l0 rs wd hg B H' := ⟨h.nw.to x, h.gd, h.l0, h.hgt, h.wdt⟩
theorem Wl.new (h : Wl K p0 d r n l dt l0 rs wd hg B H) (x : H p = none) : Wl K p0 d r n l dt l0 rs wd hg B (upd H p o) := ⟨h.nw.new x, h.gd, h.l0, h.hgt, h.wdt⟩
theorem Wl.roll (h : Wl K p0 d r n l dt l0 rs wd hg B H) (x y z : Int) : Wl K p0 d r n l dt l0 rs wd hg B (upd H d (dV x y z)) := ⟨h.nw.roll x y z, h.gd, h.l0, h.hgt, h.wdt⟩
theorem Wl.rebase (h : Wl K p0 d r n l dt l0 rs wd hg B H) : Wl K p0 d r n l dt l0 rs wd hg (hid H [d, dt]) H ∧ Le (T K) B (hid H [d, dt]) := ⟨⟨h.nw.rebase.1, h.gd.to h.nw.rebase.2, Le.land h.nw.rebase.2 h.l0, h.hgt, h.wdt⟩, h.nw.rebase.2⟩
theorem Wl.off_new (h : Wl K p0 d r n l dt l0 rs wd hg B H) {a : Addr} (hv : H a = none) : a ∉ [d, dt] := h.nw.off_new hv
end
def V0 (K : PySem.W.Frag) (p0 d : Addr) : _root_.L2.St → Hp → Prop := fun σ H => ∃ B r n l dt l0 rs, ∃ wd hg : Nat, Sw σ d r l0 n wd hg ∧ Wl K p0 d r n l dt l0 rs wd hg B H
theorem land_hid {H : Hp} {l : Addr} {rs : List (List Int)} {ds : List Addr} (h : isLand K H l rs) (h1 : ∀ a C dx fs, H a = some (.ins C dx fs) → a ∉ ds) (h2 : ∀ a xs, H a = some (.tup xs) → a ∉ ds) : isLand K (hid H ds) l rs := by
  obtain ⟨dx, t, k1, L, k2, k3, k4⟩ := h
  exact ⟨dx, t, hid_at k1 (h1 _ _ _ _ k1), L, hid_at k2 (h2 _ _ k2), fun x hx => hid_at (k3 x hx) (h2 _ _ (k3 x hx)), k4⟩
variable {p0 d : Addr}
theorem ws3 (C : Ctx K mg base) (hr : Room 10 (XW P w K mg base f cd A outer s H0 E).A) : Step (XW P w K mg base f cd A outer s H0 E) (sw 3) (W3 K p0 d) (V0 K p0 d) := by
  have nn := sc_law.nd
  obtain ⟨fL, fdL, FL, bL, mkL, mgL⟩ := ok_land (P := P) (w := w) C
  obtain ⟨fN, fdN, FN, bN, mkN, mgN⟩ := ok_netI (P := P) (w := w) C
  refine ⟨_, ps_asg (pe_tup (pa_cons (pe_make mkL FL (hr.mono (by decide)) (by rfl) mgL bL .nil passA (pa_cons (pv 5) pa_nil)) (pa_cons (pe_make mkN FN (hr.mono (by decide)) (by rfl) mgN bN .nil passA (pa_cons (pe_make mkL FL (hr.mono (by decide)) (by rfl) mgL bL .nil passA (pa_cons (pv 5) pa_nil)) pa_nil)) pa_nil))) (pg_tup rfl (pgs_cons (pg_name (i := 6) nn rfl (by first | exact Or.inl rfl | exact Or.inr rfl)) (pgs_cons (pg_name (i := 7) nn rfl (by first | exact Or.inl rfl | exact Or.inr rfl)) pgs_nil))), fun D σ H hM hq => ?_⟩
  obtain ⟨B, r, rs, wd, hg, hl, h1, h2, h3, h5, w1, w7, g1, g7, L, G⟩ := hM
  obtain ⟨a0, a1, a2, a3, a4, a5, a6, a7, a8, a9, a10, a11, a12, a13, a14, a15, a16, a17, a18, rfl⟩ := ex19 hl
  cases h1; cases h2; cases h3; cases h5
  obtain ⟨R, hR1, hR2, hR3⟩ := G.grid
  have lok : landOk (R.map (·.2)) := by rw [hR3]; exact ⟨G.good, by rw [G.wdt]; omega⟩
  have lR : R.length ≤ 1000 := by have := congrArg List.length hR3; rw [List.length_map] at this; have := G.good.h2; omega
  have lr : ∀ x ∈ R, x.2.length ≤ 1000 := fun x hx => by
    have h1 : x.2 ∈ rs := by rw [← hR3]; exact List.mem_map.mpr ⟨x, hx, rfl⟩
    have := G.good.row _ h1
    have := G.good.w2
    omega
  refine ⟨_, rfl, ?_⟩
  intro x dx hx hdx hne
  have M1 := (Le.refl L.tab).new (o := .own x) hdx
  have hx1 : upd H dx (.own x) x = none := (upd_ne (Ne.symm hne)).trans hx
  refine ⟨x, r, dx, R, H, rfl, upd_same, hx, M1.new hx1, SqL.of (L.le.at hR1), fun z hz => SqL.of (L.le.at (hR2 z hz)), lR, lr, fun z => absurd lok z, fun _ H1 L1 hld => ⟨rfl, ?_⟩⟩
  rw [hR3] at hld
  have X1 := L.to L1
  refine ⟨_, rfl, ?_⟩
  intro y dy hy hdy hney
  have M2 := (Le.refl X1.tab).new (o := .own y) hdy
  have hy1 : upd H1 dy (.own y) y = none := (upd_ne (Ne.symm hney)).trans hy
  refine ⟨y, r, dy, R, H1, rfl, upd_same, hy, M2.new hy1, SqL.of (X1.le.at hR1), fun z hz => SqL.of (X1.le.at (hR2 z hz)), lR, lr, fun z => absurd lok z, fun _ H2 L2 hld2 => ⟨rfl, ?_⟩⟩
  rw [hR3] at hld2
  have X2 := X1.to L2
  have hldx := Le.land L2 hld
  intro z dz hz hdz hnez
  have M3 := (Le.refl X2.tab).new (o := .own z) hdz
  have hz1 : upd H2 dz (.own z) z = none := (upd_ne (Ne.symm hnez)).trans hz
  refine ⟨z, y, dz, H2, rfl, upd_same, hz, M3.new hz1, fun H3 dt L3 hdt hnet => ⟨rfl, ?_⟩⟩
  have X3 := X2.to L3
  have hl1 := Le.land L3 hldx
  have hl2 := Le.land L3 hld2
  refine ⟨by show 2 ≤ sizeLine; decide, fun t ht => ?_⟩
  have L4 := (Le.refl X3.tab).new (o := .tup [.ref x, .ref z]) ht
  have X4 := X3.to L4
  have hl14 := Le.land L4 hl1
  have hl24 := Le.land L4 hl2
  have hnet4 := Le.net L4 hnet
  have ht4 : upd H3 t (.tup [.ref x, .ref z]) t = some (.tup [.ref x, .ref z]) := upd_same
  generalize upd H3 t (.tup [.ref x, .ref z]) = H4 at X4 hl14 hl24 hnet4 ht4 ⊢
  refine ⟨t, _, rfl, SqT.of ht4, rfl, _, _, rfl, _, _, rfl, rfl, ?_⟩
  have ddt : d ≠ dt := fun e => by
    obtain ⟨a, b, c, h⟩ := X2.dice
    rw [e, hdt] at h; cases h
  have nw : Nw K d dt [] B H4 := ⟨L.x.nd, X2.le.no _ hdt, ddt, X4.le, X4.dice, hnet4.2.1⟩
  obtain ⟨n1, n2⟩ := nw.rebase
  obtain ⟨⟨dn, hn4⟩, _, _⟩ := hnet4
  refine hq _ _ ⟨_, r, z, y, dt, x, rs, wd, hg, ⟨rfl, rfl, rfl, rfl, rfl, rfl, rfl⟩, n1, ⟨Le.grid n2 G.grid, G.good, land_hid hl24 (fun a C dx fs h => nw.off h (fun _ _ _ e => by cases e) (fun e => by cases e)) (fun a xs h => nw.off h (fun _ _ _ e => by cases e) (fun e => by cases e)), ⟨dn, hid_at hn4 (nw.off hn4 (fun _ _ _ e => by cases e) (fun e => by cases e))⟩, by rw [G.hgt]; exact g7, by rw [G.wdt]; exact w7, by rw [G.wdt]; omega, n2.at L.lp⟩, land_hid hl14 (fun a C dx fs h => nw.off h (fun _ _ _ e => by cases e) (fun e => by cases e)) (fun a xs h => nw.off h (fun _ _ _ e => by cases e) (fun e => by cases e)), G.hgt, G.wdt⟩
end
end K2

-- text K2Wd
set_option maxRecDepth 100000
set_option maxHeartbeats 4000000
namespace K2
open PySem PySem.Spec PyProof.Rows L2 LamX GX
section
variable {P : Program} {w : World} {K : PySem.W.Frag} {mg : Str → Option Value} {base : Heap}
variable {f : Addr} {cd : Value} {A : Around} {outer : List Env} {s : Shared} {H0 : Hp} {E : XK}
/-! ### three looks on the land -/
def fw (i j : Nat) : Stmt := ((forB (sw i))[j]?).getD (.Pass default)
theorem fw4_len : (forB (sw 4)).length = 6 := by decide +kernel
def V1 (K : PySem.W.Frag) (p0 d : Addr) : _root_.L2.St → Hp → Prop := fun σ H => ∃ B r n l dt l0 rs, ∃ wd hg : Nat, ∃ o1 a, Sw σ d r l0 n wd hg ∧ Wl K p0 d r n l dt l0 rs wd hg B H ∧ At σ 9 (.ref o1) ∧ B o1 = some (.tup (tupT a)) ∧ inT rs a
def V2 (K : PySem.W.Frag) (p0 d : Addr) : _root_.L2.St → Hp → Prop := fun σ H => ∃ B r n l dt l0 rs, ∃ wd hg : Nat, ∃ o1 a o2 b, Sw σ d r l0 n wd hg ∧ Wl K p0 d r n l dt l0 rs wd hg B H ∧ At σ 9 (.ref o1) ∧ B o1 = some (.tup (tupT a)) ∧ inT rs a ∧ At σ 10 (.ref o2) ∧ B o2 = some (.tup (tupT b)) ∧ inT rs b
def V3 (K : PySem.W.Frag) (p0 d : Addr) : _root_.L2.St → Hp → Prop := fun σ H => ∃ B r n l dt l0 rs, ∃ wd hg : Nat, ∃ o1 a o2 b, ∃ m : Nat, Sw σ d r l0 n wd hg ∧ Wl K p0 d r n l dt l0 rs wd hg B H ∧ At σ 9 (.ref o1) ∧ B o1 = some (.tup (tupT a)) ∧ inT rs a ∧ At σ 10 (.ref o2) ∧ B o2 = some (.tup (tupT b)) ∧ inT rs b ∧ At σ 11 (.int (m : Int)) ∧ m < 20
def fitL (rs : List (List Int)) (a b : Tw) (m : Nat) : List Nat := (List.range (m + 1)).filter fun h : Nat => seesB rs (a.1, a.2.1, (h : Int)) b
def V4 (K : PySem.W.Frag) (p0 d : Addr) : _root_.L2.St → Hp → Prop := fun σ H => ∃ B r n l dt l0 rs, ∃ wd hg : Nat, ∃ o1 a o2 b fa, ∃ m : Nat, Sw σ d r l0 n wd hg ∧ Wl K p0 d r n l dt l0 rs wd hg B H ∧ At σ 9 (.ref o1) ∧ B o1 = some (.tup (tupT a)) ∧ inT rs a ∧ At σ 10 (.ref o2) ∧ B o2 = some (.tup (tupT b)) ∧ inT rs b ∧ At σ 11 (.int (m : Int)) ∧ m < 20 ∧ At σ 12 (.ref fa) ∧ B fa = some (.lst ((fitL rs a b m).map fun h : Nat => V.int (h : Int)))
variable {p0 d : Addr}
theorem wf0 (C : Ctx K mg base) (hr : Room 10 (XW P w K mg base f cd A outer s H0 E).A) : Step (XW P w K mg base f cd A outer s H0 E) (fw 4 0) (V0 K p0 d) (V1 K p0 d) := by
  have nn := sc_law.nd
  refine ⟨_, ps_set (i := 9) nn rfl (by first | exact Or.inl rfl | exact Or.inr rfl) (pe_tup (pa_cons (pe_cx (ok_roll (P := P) (w := w) C) hr (by decide) rfl passA (pa_cons (pv 1) (pa_cons (pv 2) pa_nil))) (pa_cons (pe_cx (ok_roll (P := P) (w := w) C) hr (by decide) rfl passA (pa_cons (pv 1) (pa_cons (pv 3) pa_nil))) (pa_cons (pe_cx (ok_roll (P := P) (w := w) C) hr (by decide) rfl passA (pa_cons (pv 1) (pa_cons pe_int pa_nil))) pa_nil)))), fun D σ H hM hq => ?_⟩
  obtain ⟨B, r, n, l, dt, l0, rs, wd, hg, sl, L⟩ := hM
  have w1 := L.gd.w1
  have w7 := L.gd.w7
  have h7 := L.gd.h7
  have g1 := L.gd.good.h1
  have ew := L.wdt
  have eh := L.hgt
  obtain ⟨hl, h1, h2, h3, h5, h6, h7'⟩ := id sl
  obtain ⟨qx, qy, qz, qd⟩ := L.dice
  refine ⟨_, h1, _, h2, d, qx, qy, qz, _, rfl, qd, by omega, by omega, fun qx qy qz qr q0 q1 => ?_⟩
  obtain ⟨x, hx, rfl⟩ : ∃ k : Nat, k < wd ∧ qr = (k : Int) := ⟨qr.toNat, by omega, by omega⟩
  have L1 := L.roll qx qy qz
  generalize upd H d (dV qx qy qz) = H1 at L1 ⊢
  clear q0 q1 qd
  obtain ⟨qx, qy, qz, qd⟩ := L1.dice
  refine ⟨_, h1, _, h3, d, qx, qy, qz, _, rfl, qd, by omega, by omega, fun qx qy qz qr q0 q1 => ?_⟩
  obtain ⟨y, hy, rfl⟩ : ∃ k : Nat, k < hg ∧ qr = (k : Int) := ⟨qr.toNat, by omega, by omega⟩
  have L2 := L1.roll qx qy qz
  generalize upd H1 d (dV qx qy qz) = H2 at L2 ⊢
  clear q0 q1 qd
  obtain ⟨qx, qy, qz, qd⟩ := L2.dice
  refine ⟨_, h1, d, qx, qy, qz, _, rfl, qd, by omega, by omega, fun qx qy qz qr q0 q1 => ?_⟩
  obtain ⟨z, hz, rfl⟩ : ∃ k : Nat, k < 12 ∧ qr = (k : Int) := ⟨qr.toNat, by omega, by omega⟩
  have L3 := L2.roll qx qy qz
  generalize upd H2 d (dV qx qy qz) = H3 at L3 ⊢
  clear q0 q1 qd
  refine ⟨by show 3 ≤ sizeLine; decide, fun t ht => ?_⟩
  have L4 := L3.new (o := .tup (tupT ((x : Int), (y : Int), (z : Int)))) ht
  obtain ⟨L5, L6⟩ := L4.rebase
  exact hq _ _ ⟨_, r, n, l, dt, l0, rs, wd, hg, t, ((x : Int), (y : Int), (z : Int)), sl.set (by decide), L5, at_self (by rw [hl]; decide), hid_at upd_same (L3.off_new ht), ⟨⟨by show (0 : Int) ≤ (y : Int); omega, by show (y : Int) < _; omega⟩, by show (0 : Int) ≤ (x : Int); omega, by show (x : Int) < _; omega⟩⟩
theorem wf1 (C : Ctx K mg base) (hr : Room 10 (XW P w K mg base f cd A outer s H0 E).A) : Step (XW P w K mg base f cd A outer s H0 E) (fw 4 1) (V1 K p0 d) (V2 K p0 d) := by
  have nn := sc_law.nd
  refine ⟨_, ps_set (i := 10) nn rfl (by first | exact Or.inl rfl | exact Or.inr rfl) (pe_tup (pa_cons (pe_cx (ok_roll (P := P) (w := w) C) hr (by decide) rfl passA (pa_cons (pv 1) (pa_cons (pv 2) pa_nil))) (pa_cons (pe_cx (ok_roll (P := P) (w := w) C) hr (by decide) rfl passA (pa_cons (pv 1) (pa_cons (pv 3) pa_nil))) (pa_cons (pe_cx (ok_roll (P := P) (w := w) C) hr (by decide) rfl passA (pa_cons (pv 1) (pa_cons pe_int pa_nil))) pa_nil)))), fun D σ H hM hq => ?_⟩
  obtain ⟨B, r, n, l, dt, l0, rs, wd, hg, o1, a, sl, L, h9, ho1, ia⟩ := hM
  have w1 := L.gd.w1
  have w7 := L.gd.w7
  have h7 := L.gd.h7
  have g1 := L.gd.good.h1
  have ew := L.wdt
  have eh := L.hgt
  obtain ⟨hl, h1, h2, h3, h5, h6, h7'⟩ := id sl
  obtain ⟨qx, qy, qz, qd⟩ := L.dice
  refine ⟨_, h1, _, h2, d, qx, qy, qz, _, rfl, qd, by omega, by omega, fun qx qy qz qr q0 q1 => ?_⟩
  obtain ⟨x, hx, rfl⟩ : ∃ k : Nat, k < wd ∧ qr = (k : Int) := ⟨qr.toNat, by omega, by omega⟩
  have L1 := L.roll qx qy qz
  generalize upd H d (dV qx qy qz) = H1 at L1 ⊢
  clear q0 q1 qd
  obtain ⟨qx, qy, qz, qd⟩ := L1.dice
  refine ⟨_, h1, _, h3, d, qx, qy, qz, _, rfl, qd, by omega, by omega, fun qx qy qz qr q0 q1 => ?_⟩
  obtain ⟨y, hy, rfl⟩ : ∃ k : Nat, k < hg ∧ qr = (k : Int) := ⟨qr.toNat, by omega, by omega⟩
  have L2 := L1.roll qx qy qz
  generalize upd H1 d (dV qx qy qz) = H2 at L2 ⊢
  clear q0 q1 qd
  obtain ⟨qx, qy, qz, qd⟩ := L2.dice
  refine ⟨_, h1, d, qx, qy, qz, _, rfl, qd, by omega, by omega, fun qx qy qz qr q0 q1 => ?_⟩
  obtain ⟨z, hz, rfl⟩ : ∃ k : Nat, k < 12 ∧ qr = (k : Int) := ⟨qr.toNat, by omega, by omega⟩
  have L3 := L2.roll qx qy qz
  generalize upd H2 d (dV qx qy qz) = H3 at L3 ⊢
  clear q0 q1 qd
  refine ⟨by show 3 ≤ sizeLine; decide, fun t ht => ?_⟩
  have L4 := L3.new (o := .tup (tupT ((x : Int), (y : Int), (z : Int)))) ht
  obtain ⟨L5, L6⟩ := L4.rebase
  exact hq _ _ ⟨_, r, n, l, dt, l0, rs, wd, hg, o1, a, t, ((x : Int), (y : Int), (z : Int)), sl.set (by decide), L5, at_set h9 (by decide), L6.at ho1, ia, at_self (by rw [hl]; decide), hid_at upd_same (L3.off_new ht), ⟨⟨by show (0 : Int) ≤ (y : Int); omega, by show (y : Int) < _; omega⟩, by show (0 : Int) ≤ (x : Int); omega, by show (x : Int) < _; omega⟩⟩
theorem wf2 (C : Ctx K mg base) (hr : Room 10 (XW P w K mg base f cd A outer s H0 E).A) : Step (XW P w K mg base f cd A outer s H0 E) (fw 4 2) (V2 K p0 d) (V2 K p0 d) := by
  have nn := sc_law.nd
  obtain ⟨fS, fdS, FS, bS, mS, cS⟩ := ok_sees (P := P) (w := w) C
  obtain ⟨fH, fdH, FH, bH, mH, cH⟩ := ok_height (P := P) (w := w) C
  refine ⟨_, ps_if (PW.pt (pw_or (pt_cmpR op_ne (pe_meth (pv 6) cS mS FS (hr.mono (by decide)) bS .nil passA (pa_cons (pv 9) (pa_cons (pv 10) pa_nil))) (pe_cx (ok_lsees (P := P) (w := w) C) hr (by decide) rfl passA (pa_cons (pv 5) (pa_cons (pv 9) (pa_cons (pv 10) pa_nil)))) (nomark _))
    (pw_or (pt_cmpR op_ne (pe_meth (pv 6) cS mS FS (hr.mono (by decide)) bS .nil passA (pa_cons (pv 10) (pa_cons (pv 9) pa_nil))) (pe_meth (pv 6) cS mS FS (hr.mono (by decide)) bS .nil passA (pa_cons (pv 9) (pa_cons (pv 10) pa_nil))) (nomark _))
    (pw_or1 (pt_cmpR op_ne (pe_meth (pv 6) cH mH FH (hr.mono (by decide)) bH .nil passA (pa_cons (pe_ix ix_tup (pv 9) pe_int (fun _ _ => rfl)) (pa_cons (pe_ix ix_tup (pv 9) pe_int (fun _ _ => rfl)) pa_nil))) (pe_ix ix_list (pe_ix ix_list (pv 5) (pe_ix ix_tup (pv 9) pe_int (fun _ _ => rfl)) (fun _ _ => rfl)) (pe_ix ix_tup (pv 9) pe_int (fun _ _ => rfl)) (fun _ _ => rfl)) (nomark _)))))) (pss_one (ps_ret pe_bl)) pss_nil, fun D σ H hM hq => ?_⟩
  obtain ⟨B, r, n, l, dt, l0, rs, wd, hg, o1, a, o2, b, sl, L, h9, ho1, ia, h10, ho2, ib⟩ := hM
  obtain ⟨hl, h1, h2, h3, h5, h6, h7'⟩ := id sl
  obtain ⟨dxl, tl, hl1, hl2⟩ := id L.l0
  have G := L.gd.good
  have at1 := fun {H'} (x : Le (T K) B H') => x.at ho1
  refine ⟨_, h6, l0, dxl, _, rfl, L.le.at hl1, rfl, _, h9, _, h10, l0, o1, o2, rs, a, b, rfl, Le.land L.le L.l0, G, L.tab, SqT.of (L.le.at ho1), SqT.of (L.le.at ho2), fun _ _ H1 L1 => ?_, fun z => absurd ⟨ia, ib⟩ z⟩
  have X1 := L.to L1
  refine ⟨_, h5, _, h9, _, h10, r, o1, o2, rs, a, b, rfl, Le.grid X1.le L.gd.grid, G, SqT.of (X1.le.at ho1), SqT.of (X1.le.at ho2), ia, ib, rfl, _, rfl, ?_⟩
  rw [lSees_eq ia ib]
  refine iteNS rfl ?_
  refine ⟨_, h6, l0, dxl, _, rfl, X1.le.at hl1, rfl, _, h10, _, h9, l0, o2, o1, rs, b, a, rfl, Le.land X1.le L.l0, G, X1.tab, SqT.of (X1.le.at ho2), SqT.of (X1.le.at ho1), fun _ _ H2 L2 => ?_, fun z => absurd ⟨ib, ia⟩ z⟩
  have X2 := X1.to L2
  refine ⟨_, h6, l0, dxl, _, rfl, X2.le.at hl1, rfl, _, h9, _, h10, l0, o1, o2, rs, a, b, rfl, Le.land X2.le L.l0, G, X2.tab, SqT.of (X2.le.at ho1), SqT.of (X2.le.at ho2), fun _ _ H3 L3 => ?_, fun z => absurd ⟨ia, ib⟩ z⟩
  have X3 := X2.to L3
  refine ⟨rfl, _, rfl, ?_⟩
  refine iteNS (by rw [sees_sym]) ?_
  obtain ⟨Lr, hL, hLl, cell, _⟩ := grid_cell G (Le.grid X3.le L.gd.grid)
  obtain ⟨u, c1, c2, c3⟩ := cell a.1 a.2.1 ia
  refine ⟨_, h6, l0, dxl, _, rfl, X3.le.at hl1, rfl, _, h9, o1, _, _, _, rfl, rfl, SqT.of (X3.le.at ho1), atI_nat (j := 0) rfl, _, h9, o1, _, _, _, rfl, rfl, SqT.of (X3.le.at ho1), atI_nat (j := 1) rfl, l0, a.1, a.2.1, rs, rfl, Le.land X3.le L.l0, G, X3.tab, fun _ => ?_, fun z => absurd ia z⟩
  refine ⟨_, h5, _, h9, o1, _, _, _, rfl, rfl, SqT.of (X3.le.at ho1), atI_nat (j := 1) rfl, r, _, _, _, rfl, rfl, SqL.of hL, c1, _, h9, o1, _, _, _, rfl, rfl, SqT.of (X3.le.at ho1), atI_nat (j := 0) rfl, u, _, _, _, rfl, rfl, SqL.of c2, c3, rfl, _, rfl, ?_⟩
  exact iteNS rfl (hq _ _ ⟨B, r, n, l, dt, l0, rs, wd, hg, o1, a, o2, b, sl, X3, h9, ho1, ia, h10, ho2, ib⟩)
theorem wf3 (C : Ctx K mg base) (hr : Room 10 (XW P w K mg base f cd A outer s H0 E).A) : Step (XW P w K mg base f cd A outer s H0 E) (fw 4 3) (V2 K p0 d) (V3 K p0 d) := by
  have nn := sc_law.nd
  refine ⟨_, ps_set (i := 11) nn rfl (by first | exact Or.inl rfl | exact Or.inr rfl) (pe_cx (ok_roll (P := P) (w := w) C) hr (by decide) rfl passA (pa_cons (pv 1) (pa_cons pe_int pa_nil))), fun D σ H hM hq => ?_⟩
  obtain ⟨B, r, n, l, dt, l0, rs, wd, hg, o1, a, o2, b, sl, L, h9, ho1, ia, h10, ho2, ib⟩ := hM
  obtain ⟨hl, h1, h2, h3, h5, h6, h7'⟩ := id sl
  obtain ⟨qx, qy, qz, qd⟩ := L.dice
  refine ⟨_, h1, d, qx, qy, qz, _, rfl, qd, by omega, by omega, fun qx qy qz qr q0 q1 => ?_⟩
  obtain ⟨m, hm, rfl⟩ : ∃ k : Nat, k < 20 ∧ qr = (k : Int) := ⟨qr.toNat, by omega, by omega⟩
  have L1 := L.roll qx qy qz
  generalize upd H d (dV qx qy qz) = H1 at L1 ⊢
  clear q0 q1 qd
  exact hq _ _ ⟨B, r, n, l, dt, l0, rs, wd, hg, o1, a, o2, b, m, sl.set (by decide), L1, at_set h9 (by decide), ho1, ia, at_set h10 (by decide), ho2, ib, at_self (by rw [hl]; decide), hm⟩
end
end K2

-- text K2We
set_option maxRecDepth 100000
set_option maxHeartbeats 4000000
namespace K2
open PySem PySem.Spec PyProof.Rows L2 LamX GX
section
variable {P : Program} {w : World} {K : PySem.W.Frag} {mg : Str → Option Value} {base : Heap}
variable {f : Addr} {cd : Value} {A : Around} {outer : List Env} {s : Shared} {H0 : Hp} {E : XK}
/-! ### the least height; what is seen -/
variable {p0 d : Addr}
theorem wf4 (C : Ctx K mg base) (hr : Room 10 (XW P w K mg base f cd A outer s H0 E).A) : Step (XW P w K mg base f cd A outer s H0 E) (fw 4 4) (V3 K p0 d) (V4 K p0 d) := by
  have nn := sc_law.nd
  refine ⟨_, ps_setLc (i := 12) (own := [("height", 17)]) (g := gName 17) rfl nn rfl rfl (sw_true rfl rfl rfl (by decide +kernel)) (pi_range1 (by rfl) C.t.b_range (pa_cons (pe_op op_add (pv 11) pe_int) pa_nil)) (blkOk_by (N := n_law) (sc := defScope s_law) (by decide +kernel)) (fun _ _ _ _ _ => (pg_name (i := 17) nn rfl (by first | exact Or.inl rfl | exact Or.inr rfl)))
    (fun _ _ _ _ _ => by exact pts_one (pt_val (pe_cx (ok_lsees (P := P) (w := w) C) hr (by decide) rfl passE0 (pa_cons (pv 5) (pa_cons (pe_op (r := rCatT K) op_catT (pe_slice (r := rSlT K) sl_tup (pv 9) po_none (po_some pe_int)) (pe_tup (pa_cons (pv 17) pa_nil))) (pa_cons (pv 10) pa_nil)))))) (fun _ _ _ _ _ => pv 17), fun D σ H hM hq => ?_⟩
  obtain ⟨B, r, n, l, dt, l0, rs, wd, hg, o1, a, o2, b, m, sl, L, h9, ho1, ia, h10, ho2, ib, h11, hm⟩ := hM
  obtain ⟨hl, h1, h2, h3, h5, h6, h7'⟩ := id sl
  obtain ⟨a0, a1, a2, a3, a4, a5, a6, a7, a8, a9, a10, a11, a12, a13, a14, a15, a16, a17, a18, rfl⟩ := ex19 hl
  cases h1; cases h2; cases h3; cases h5; cases h6; cases h7'; cases h9; cases h10; cases h11
  have G := L.gd.good
  refine ⟨_, rfl, _, _, rfl, rfl, _, rfl, by omega, by omega, fun D1 hD => ?_⟩
  rw [show ((m : Nat) : Int) + 1 = ((m + 1 : Nat) : Int) by omega, Int.toNat_natCast]
  refine lc_range (lo := 0) (n := m + 1) (fun i H' => Le (T K) H H' ∧ H' D1 = some (.lst (((List.range i).filter fun h : Nat => seesB rs (a.1, a.2.1, (h : Int)) b).map fun h : Nat => V.int (h : Int)))) ⟨(Le.refl L.tab).new hD, upd_same⟩ (fun i H1 hi ⟨L1, e1⟩ => ?_) (fun H1 ⟨L1, e1⟩ => ?_)
  · have X1 := L.to L1
    refine ⟨rfl, _, rfl, _, rfl, _, rfl, o1, _, rfl, SqT.of (X1.le.at ho1), (fun z => absurd z.2 (by show ¬ (2 : Nat) = 3; decide)), fun q hqn => ?_⟩
    have ecut : cutV (tupT a) none (some 2) = [V.int a.1, V.int a.2.1] := rfl
    rw [ecut, Int.zero_add]
    have U1 := (Le.refl X1.tab).new (o := .tup [V.int a.1, V.int a.2.1]) hqn
    have hq2 : upd H1 q (.tup [V.int a.1, V.int a.2.1]) q = some (.tup [V.int a.1, V.int a.2.1]) := upd_same
    generalize upd H1 q (.tup [V.int a.1, V.int a.2.1]) = H2 at U1 hq2 ⊢
    refine ⟨_, rfl, by show 1 ≤ sizeLine; decide, fun q2 hq2n => ?_⟩
    have U2 := U1.new (o := .tup [V.int (i : Int)]) hq2n
    have hq3 := (upd_ne (o := .tup [V.int (i : Int)]) (ne_of_none hq2 hq2n)).trans hq2
    have hq23 : upd H2 q2 (.tup [V.int (i : Int)]) q2 = some (.tup [V.int (i : Int)]) := upd_same
    generalize upd H2 q2 (.tup [V.int (i : Int)]) = H3 at U2 hq3 hq23 ⊢
    refine ⟨q, q2, _, _, rfl, rfl, SqT.of hq3, SqT.of hq23, (fun z => by cases z), by show 2 + 1 ≤ sizeLine; decide, (fun z => by cases z), fun _ q4 hq4 => ?_⟩
    have U3 := U2.new (o := .tup (tupT (a.1, a.2.1, (i : Int)))) hq4
    have hq44 : upd H3 q4 (.tup (tupT (a.1, a.2.1, (i : Int)))) q4 = some (.tup (tupT (a.1, a.2.1, (i : Int)))) := upd_same
    show ∃ v, _
    refine ⟨_, rfl, r, q4, o2, rs, (a.1, a.2.1, (i : Int)), b, rfl, Le.grid (X1.to U3).le L.gd.grid, G, SqT.of hq44, SqT.of ((X1.to U3).le.at ho2), ia, ib, _, rfl, ?_⟩
    have e4 := U3.at e1
    rw [lSees_eq (a := (a.1, a.2.1, (i : Int))) ia ib]
    have esn : (List.range (i + 1)).filter (fun h : Nat => seesB rs (a.1, a.2.1, (h : Int)) b) = (List.range i).filter (fun h : Nat => seesB rs (a.1, a.2.1, (h : Int)) b) ++ (if seesB rs (a.1, a.2.1, (i : Int)) b = true then [i] else []) := by
      rw [List.range_succ, List.filter_append]
      by_cases e : seesB rs (a.1, a.2.1, (i : Int)) b = true
      · rw [if_pos e]; simp [e]
      · rw [if_neg e]; simp [e]
    cases hs : seesB rs (a.1, a.2.1, (i : Int)) b with
    | true =>
      rw [hs, if_pos rfl] at esn
      refine iteT ⟨_, rfl, _, e4, ?_, (L1.trans U3).set hD e4, ?_⟩
      · rw [List.length_map]
        exact Nat.lt_of_le_of_lt (Nat.le_trans (List.length_filter_le _ _) (by rw [List.length_range]; exact (show i ≤ 64 by omega))) (by decide)
      · rw [upd_same, esn, List.map_append]
        rfl
    | false =>
      rw [hs, if_neg (by decide), List.append_nil] at esn
      refine iteF ⟨L1.trans U3, ?_⟩
      rw [esn]; exact e4
  · have X1 := L.to L1
    obtain ⟨X2, X3⟩ := X1.rebase
    exact hq _ _ ⟨_, r, n, l, dt, l0, rs, wd, hg, o1, a, o2, b, D1, m, ⟨rfl, rfl, rfl, rfl, rfl, rfl, rfl⟩, X2, rfl, X3.at ho1, ia, rfl, X3.at ho2, ib, rfl, hm, rfl, hid_at e1 (L.off_new hD)⟩
theorem wf5 (C : Ctx K mg base) (hr : Room 10 (XW P w K mg base f cd A outer s H0 E).A) : Step (XW P w K mg base f cd A outer s H0 E) (fw 4 5) (V4 K p0 d) (V1 K p0 d) := by
  have nn := sc_law.nd
  obtain ⟨fS, fdS, FS, bS, mS, cS⟩ := ok_needed (P := P) (w := w) C
  refine ⟨_, ps_if (pt_cmpR op_ne (pe_meth (pv 6) cS mS FS (hr.mono (by decide)) bS .nil passA (pa_cons (pe_ix ix_tup (pv 9) pe_int (fun _ _ => rfl)) (pa_cons (pe_ix ix_tup (pv 9) pe_int (fun _ _ => rfl)) (pa_cons (pv 10) (pa_cons (pv 11) pa_nil)))))
    (pe_ifExp (pt_cmpR (op_neD hr.units) (pv 12) (pe_lst pa_nil) (nomark _)) (pe_ix ix_list (pv 12) pe_int (fun _ _ => rfl)) pe_non) (nomark _)) (pss_one (ps_ret pe_bl)) pss_nil, fun D σ H hM hq => ?_⟩
  obtain ⟨B, r, n, l, dt, l0, rs, wd, hg, o1, a, o2, b, fa, m, sl, L, h9, ho1, ia, h10, ho2, ib, h11, hm, h12, hfa⟩ := hM
  obtain ⟨hl, h1, h2, h3, h5, h6, h7'⟩ := id sl
  obtain ⟨dxl, tl, hl1, hl2⟩ := id L.l0
  have G := L.gd.good
  refine ⟨_, h6, l0, dxl, _, rfl, L.le.at hl1, rfl, _, h9, o1, _, _, _, rfl, rfl, SqT.of (L.le.at ho1), atI_nat (j := 0) rfl, _, h9, o1, _, _, _, rfl, rfl, SqT.of (L.le.at ho1), atI_nat (j := 1) rfl, _, h10, _, h11, l0, o2, rs, a.1, a.2.1, b, m, rfl, Le.land L.le L.l0, G, by omega, L.tab, SqT.of (L.le.at ho2), fun _ H1 L1 => ?_, fun z => absurd ⟨ia, ib⟩ z⟩
  have X1 := L.to L1
  refine ⟨_, h12, by show 0 ≤ sizeLine; decide, fun e he => ?_⟩
  have hf1 := X1.le.at hfa
  have X2 := X1.new (o := .lst []) he
  have hf2 := (upd_ne (o := .lst []) (ne_of_none hf1 he)).trans hf1
  have he2 : upd H1 e (.lst []) e = some (.lst (([] : List Int).map V.int)) := upd_same
  generalize upd H1 e (.lst []) = H2 at X2 hf2 he2 ⊢
  have hf3 : H2 fa = some (.lst (((fitL rs a b m).map fun h : Nat => (h : Int)).map V.int)) := by rw [hf2, List.map_map]; rfl
  refine ⟨_, _, .lst (SqL.of hf3) (DpAll.ints _), .lst (SqL.of he2) (DpAll.ints _), shaped_ints _, shaped_ints _, _, rfl, ?_⟩
  have ev : PyData.eqv (.list (((fitL rs a b m).map fun h : Nat => (h : Int)).map PyData.int)) (.list (([] : List Int).map PyData.int)) = decide (((fitL rs a b m).map fun h : Nat => (h : Int)) = []) := eqv_ints _ _
  rw [ev]
  have done : ∀ H', Wl K p0 d r n l dt l0 rs wd hg B H' → D.nx σ H' := fun H' X => hq _ _ ⟨B, r, n, l, dt, l0, rs, wd, hg, o1, a, sl, X, h9, ho1, ia⟩
  have hfind : (List.range (m + 1)).find? (fun h : Nat => seesB rs (a.1, a.2.1, (h : Int)) b) = (fitL rs a b m).head? := by
    unfold fitL; rw [List.head?_filter]
  have en : needV rs a.1 a.2.1 b (m + 1) = match (fitL rs a b m).head? with
    | some h => V.int (h : Int)
    | none => .non := by unfold needV; rw [hfind]; try (cases (fitL rs a b m).head? <;> rfl)
  cases hfl : fitL rs a b m with
  | nil =>
    rw [hfl] at en
    have en : needV rs a.1 a.2.1 b (m + 1) = V.non := en
    refine iteF ⟨by rw [en]; rfl, _, rfl, ?_⟩
    rw [en]
    exact iteNS rfl (done _ X2)
  | cons h0 t =>
    rw [hfl] at en hf2
    have en : needV rs a.1 a.2.1 b (m + 1) = V.int (h0 : Int) := en
    refine iteT ⟨_, h12, fa, _, _, _, rfl, rfl, SqL.of hf2, atI_nat (j := 0) rfl, by rw [en]; rfl, _, rfl, ?_⟩
    rw [en]
    exact iteNS rfl (done _ X2)
theorem ws4 (C : Ctx K mg base) (hr : Room 10 (XW P w K mg base f cd A outer s H0 E).A) : Step (XW P w K mg base f cd A outer s H0 E) (sw 4) (V0 K p0 d) (V1 K p0 d) := by
  have nn := sc_law.nd
  obtain ⟨tb, hb1, hb2⟩ : Steps (XW P w K mg base f cd A outer s H0 E) [fw 4 0, fw 4 1, fw 4 2, fw 4 3, fw 4 4, fw 4 5] (V0 K p0 d) (V1 K p0 d) := (wf0 C hr).cons ((wf1 C hr).cons ((wf2 C hr).cons ((wf3 C hr).cons ((wf4 C hr).cons ((wf5 C hr).cons .nil)))))
  refine ⟨_, ps_for (body := forB (sw 4)) ownsA rfl (pi_range1 (by rfl) C.t.b_range (pa_cons pe_int pa_nil)) (pg_name (i := 8) nn rfl (by first | exact Or.inl rfl | exact Or.inr rfl)) hb1, fun D σ H hM hq => ?_⟩
  refine ⟨3, rfl, by decide, by decide, ?_⟩
  refine for_range (lo := 0) (n := 3) (fun i σ' H' => V0 K p0 d σ' H' ∧ (0 < i → V1 K p0 d σ' H')) ⟨hM, fun z => by omega⟩ (fun i σ' H' hi hP => ?_) (fun σ' H' hP => hq _ _ (hP.2 (by decide)))
  obtain ⟨B, r, n, l, dt, l0, rs, wd, hg, sl, L⟩ := hP.1
  refine hb2 _ _ _ ⟨B, r, n, l, dt, l0, rs, wd, hg, sl.set (by decide), L⟩ fun σ'' H'' h => ⟨?_, fun _ => h⟩
  obtain ⟨B, r, n, l, dt, l0, rs, wd, hg, o1, a, sl, L, h9, ho1, ia⟩ := h
  exact ⟨B, r, n, l, dt, l0, rs, wd, hg, sl, L⟩
end
end K2

-- text K2Wf
set_option maxRecDepth 100000
set_option maxHeartbeats 4000000
namespace K2
open PySem PySem.Spec PyProof.Rows L2 LamX GX
section
variable {P : Program} {w : World} {K : PySem.W.Frag} {mg : Str → Option Value} {base : Heap}
variable {f : Addr} {cd : Value} {A : Around} {outer : List Env} {s : Shared} {H0 : Hp} {E : XK}
/-! ### what is seen; the own net; one round -/
variable {p0 d : Addr}
def V6 (K : PySem.W.Frag) (p0 d : Addr) (k : Nat → Nat) : _root_.L2.St → Hp → Prop := fun σ H => ∃ B r n l dt l0 rs, ∃ wd hg : Nat, ∃ o1 a se, ∃ Aa : List (Addr × Pt), Sw σ d r l0 n wd hg ∧ Wl K p0 d r n l dt l0 rs wd hg B H ∧ At σ 9 (.ref o1) ∧ B o1 = some (.tup (tupT a)) ∧ inT rs a ∧ At σ 13 (.ref se) ∧ H se = some (.lst (refsOf Aa)) ∧ isPts H Aa ∧ Aa.map (·.2) = seenL rs a (k hg)
theorem ws5 (C : Ctx K mg base) (hr : Room 10 (XW P w K mg base f cd A outer s H0 E).A) : Step (XW P w K mg base f cd A outer s H0 E) (sw 5) (V1 K p0 d) (V6 K p0 d fun _ => 0) := by
  have nn := sc_law.nd
  refine ⟨_, ps_set (i := 13) nn rfl (by first | exact Or.inl rfl | exact Or.inr rfl) (pe_lst pa_nil), fun D σ H hM hq => ?_⟩
  obtain ⟨B, r, n, l, dt, l0, rs, wd, hg, o1, a, sl, L, h9, ho1, ia⟩ := hM
  refine ⟨by show 0 ≤ sizeLine; decide, fun e he => ?_⟩
  exact hq _ _ ⟨B, r, n, l, dt, l0, rs, wd, hg, o1, a, e, [], sl.set (by decide), L.new he, at_set h9 (by decide), ho1, ia, at_self (by rw [sl.1]; decide), upd_same, (fun x hx => by cases hx), rfl⟩
theorem ws6 (C : Ctx K mg base) (hr : Room 10 (XW P w K mg base f cd A outer s H0 E).A) : Step (XW P w K mg base f cd A outer s H0 E) (sw 6) (V6 K p0 d fun _ => 0) (V6 K p0 d id) := by
  have nn := sc_law.nd
  refine ⟨_, ps_for ownsA rfl (pi_range1 (by rfl) C.t.b_range (pa_cons (pv 3) pa_nil)) (pg_name (i := 14) nn rfl (by first | exact Or.inl rfl | exact Or.inr rfl)) (pss_one (ps_set (i := 13) nn rfl (by first | exact Or.inl rfl | exact Or.inr rfl) (pe_op op_cat (pv 13) (pe_lc (own := [("x", 16)]) (g := gName 16) rfl nn (pi_range1 (by rfl) C.t.b_range (pa_cons (pv 2) pa_nil)) (blkOk_by (N := n_law) (sc := defScope s_law) (by decide +kernel)) (fun _ _ _ _ _ => (pg_name (i := 16) nn rfl (by first | exact Or.inl rfl | exact Or.inr rfl)))
    (fun _ _ _ _ _ => by exact pts_one (pt_val (pe_cx (ok_lsees (P := P) (w := w) C) hr (by decide) rfl passE0 (pa_cons (pv 5) (pa_cons (pv 9) (pa_cons (pe_tup (pa_cons (pv 16) (pa_cons (pv 14) (pa_cons pe_int pa_nil)))) pa_nil)))))) (fun _ _ _ _ _ => by exact pe_tup (pa_cons (pv 16) (pa_cons (pv 14) pa_nil))))))), fun D σ H hM hq => ?_⟩
  obtain ⟨B, r, n, l, dt, l0, rs, wd, hg, o1, a, se, Aa, sl, L, h9, ho1, ia, h13, e1, e2, e3⟩ := hM
  have G := L.gd.good
  have ew := L.wdt
  have eh := L.hgt
  have w7 := L.gd.w7
  have h7 := L.gd.h7
  obtain ⟨_, _, _, h3, _⟩ := id sl
  refine ⟨_, h3, _, rfl, by omega, by omega, ?_⟩
  rw [show ((hg : Nat) : Int).toNat = hg by omega]
  refine for_range (lo := 0) (n := hg) (fun i σ' H' => Sw σ' d r l0 n wd hg ∧ Wl K p0 d r n l dt l0 rs wd hg B H' ∧ At σ' 9 (.ref o1) ∧ ∃ se, ∃ Aa : List (Addr × Pt), At σ' 13 (.ref se) ∧ H' se = some (.lst (refsOf Aa)) ∧ isPts H' Aa ∧ Aa.map (·.2) = seenL rs a i) ⟨sl, L, h9, se, Aa, h13, e1, e2, e3⟩ (fun i σ H1 hi ⟨sl, L1, h9, se, Aa, h13, e1, e2, e3⟩ => ?_) (fun σ H1 ⟨sl, L1, h9, se, Aa, h13, e1, e2, e3⟩ => hq _ _ ⟨B, r, n, l, dt, l0, rs, wd, hg, o1, a, se, Aa, sl, L1, h9, ho1, ia, h13, e1, e2, e3⟩)
  obtain ⟨hl, h1, h2, h3, h5, h6, h7'⟩ := id sl
  obtain ⟨a0, a1, a2, a3, a4, a5, a6, a7, a8, a9, a10, a11, a12, a13, a14, a15, a16, a17, a18, rfl⟩ := ex19 hl
  cases h1; cases h2; cases h3; cases h5; cases h6; cases h7'; cases h9; cases h13
  rw [Int.zero_add]
  have lA : Aa.length ≤ 64 := by
    have h1 := congrArg List.length e3
    have h2 := seenL_len rs a i
    rw [List.length_map] at h1
    have h3 : i * (rs.headD []).length ≤ 7 * 7 := Nat.mul_le_mul (by omega) (by omega)
    omega
  refine ⟨_, rfl, _, rfl, _, rfl, by omega, by omega, fun D1 hD => ?_⟩
  rw [show ((wd : Nat) : Int).toNat = wd by omega]
  refine lc_range (lo := 0) (n := wd) (fun j H' => Le (T K) H1 H' ∧ ∃ A2 : List (Addr × Pt), H' D1 = some (.lst (refsOf A2)) ∧ isPts H' A2 ∧ A2.map (·.2) = rowSeen rs a i j) ⟨(Le.refl L1.tab).new hD, [], upd_same, (fun x hx => by cases hx), rfl⟩ (fun j H2 hj ⟨L2, A2, f1, f2, f3⟩ => ?_) (fun H2 ⟨L2, A2, f1, f2, f3⟩ => ?_)
  · have X2 := L1.to L2
    rw [Int.zero_add]
    refine ⟨rfl, _, rfl, _, rfl, _, rfl, _, rfl, by show 3 ≤ sizeLine; decide, fun q hqn => ?_⟩
    have U1 := (Le.refl X2.tab).new (o := .tup (tupT ((j : Int), (i : Int), 0))) hqn
    have hq2 : upd H2 q (.tup (tupT ((j : Int), (i : Int), 0))) q = some (.tup (tupT ((j : Int), (i : Int), 0))) := upd_same
    show ∃ r0 p1 p2 rs0 a0 b0, _
    have ib : inT rs ((j : Int), (i : Int), 0) := ⟨⟨by show (0 : Int) ≤ (i : Int); omega, by show (i : Int) < _; omega⟩, by show (0 : Int) ≤ (j : Int); omega, by show (j : Int) < _; omega⟩
    refine ⟨r, o1, q, rs, a, ((j : Int), (i : Int), 0), rfl, Le.grid (X2.to U1).le L1.gd.grid, G, SqT.of ((X2.to U1).le.at ho1), SqT.of hq2, ia, ib, _, rfl, ?_⟩
    have f12 := (upd_ne (o := .tup (tupT ((j : Int), (i : Int), 0))) (ne_of_none f1 hqn)).trans f1
    have f22 : isPts (upd H2 q (.tup (tupT ((j : Int), (i : Int), 0)))) A2 := fun z hz => (upd_ne (ne_of_none (f2 z hz) hqn)).trans (f2 z hz)
    have LL := L2.trans U1
    show (if lSees rs a ((j : Int), (i : Int), 0) = true then _ else _)
    rw [lSees_eq ia ib]
    have esn := rowSeen_succ rs a i j
    cases hs : seesB rs a ((j : Int), (i : Int), 0) with
    | false =>
      rw [hs, if_neg (by decide)] at esn
      exact iteF ⟨LL, A2, f12, f22, by rw [esn]; exact f3⟩
    | true =>
      rw [hs, if_pos rfl] at esn
      refine iteT ⟨_, rfl, _, rfl, by show 2 ≤ sizeLine; decide, fun t ht => ?_⟩
      have f13 := (upd_ne (o := .tup [V.int (j : Int), V.int (i : Int)]) (ne_of_none f12 ht)).trans f12
      have l2 : A2.length ≤ 64 := by
        have h1 := congrArg List.length f3
        have h2 := rowSeen_len rs a i j
        rw [List.length_map] at h1
        omega
      refine ⟨_, f13, ?_, (LL.new ht).set hD f13, A2 ++ [(t, (j : Int), (i : Int))], ?_, fun z hz => ?_, ?_⟩
      · unfold refsOf
        rw [List.length_map]
        exact Nat.lt_of_le_of_lt l2 (by decide)
      · rw [upd_same]
        unfold refsOf
        rw [List.map_append]; rfl
      · rcases List.mem_append.mp hz with hz | hz
        · have g1 := f22 z hz
          have g2 := (upd_ne (o := .tup [V.int (j : Int), V.int (i : Int)]) (ne_of_none g1 ht)).trans g1
          exact (upd_ne (fun w => by rw [w, f13] at g2; cases g2)).trans g2
        · rw [List.mem_singleton.mp hz]
          exact (upd_ne (ne_of_none f12 ht).symm).trans upd_same
      · rw [List.map_append, f3, esn]; rfl
  · have X2 := L1.to L2
    have l2 : A2.length ≤ 64 := by
      have h1 := congrArg List.length f3
      have h2 := rowSeen_len rs a i wd
      rw [List.length_map] at h1
      omega
    refine ⟨se, D1, _, _, rfl, rfl, L2.at e1, f1, by unfold refsOf; rw [List.length_map, List.length_map]; exact Nat.le_trans (show Aa.length + A2.length ≤ 128 by omega) (by decide), fun p hp => ?_⟩
    refine ⟨⟨rfl, rfl, rfl, rfl, rfl, rfl, rfl⟩, X2.new hp, rfl, p, Aa ++ A2, rfl, ?_, fun z hz => ?_, ?_⟩
    · rw [upd_same]
      unfold refsOf
      rw [List.map_append]
    · have hz0 : H2 z.1 = some (.tup [.int z.2.1, .int z.2.2]) := by
        rcases List.mem_append.mp hz with hz | hz
        · exact L2.at (e2 z hz)
        · exact f2 z hz
      exact (upd_ne (ne_of_none hz0 hp)).trans hz0
    · rw [List.map_append, e3, f3, seenL_succ, ew]
theorem lay_pts (A : List Pt) : (PyData.list (A.map ptD)).canLay0 = true ∧ (PyData.list (A.map ptD)).depth ≤ 2 := lay_list fun d hd => by
  obtain ⟨a, ha, rfl⟩ := List.mem_map.mp hd
  exact lay_pt a
theorem dp_pts' {H : Hp} {L : List (Addr × Pt)} (h : isPts H L) : DpAll K H (refsOf L) ((L.map (·.2)).map ptD) := by
  have := dp_pts (K := K) h
  rw [List.map_map]; exact this
theorem ws7 (C : Ctx K mg base) (hr : Room 10 (XW P w K mg base f cd A outer s H0 E).A) : Step (XW P w K mg base f cd A outer s H0 E) (sw 7) (V6 K p0 d id) (V0 K p0 d) := by
  have nn := sc_law.nd
  obtain ⟨fS, fdS, FS, bS, mS, cS⟩ := ok_seen (P := P) (w := w) C
  refine ⟨_, ps_if (pt_cmpR (op_neD hr.units) (pe_callTy call_list_of (by rfl) C.t.b_list (by decide +kernel) (pa_cons (pe_meth (pv 6) cS mS FS (hr.mono (by decide)) bS .nil passA (pa_cons (pv 9) pa_nil)) pa_nil)) (pv 13) (nomark _)) (pss_one (ps_ret pe_bl)) pss_nil, fun D σ H hM hq => ?_⟩
  obtain ⟨B, r, n, l, dt, l0, rs, wd, hg, o1, a, se, Aa, sl, L, h9, ho1, ia, h13, e1, e2, e3⟩ := hM
  have G := L.gd.good
  obtain ⟨hl, h1, h2, h3, h5, h6, h7'⟩ := id sl
  obtain ⟨dxl, tl, hl1, hl2⟩ := id L.l0
  refine ⟨_, h6, l0, dxl, _, rfl, L.le.at hl1, rfl, _, h9, l0, o1, rs, a, rfl, Le.land L.le L.l0, G, L.gd.w1, L.tab, SqT.of (L.le.at ho1), fun _ H1 A1 t L1 htn ht hA1 eA1 => ?_, fun z => absurd ia z⟩
  refine ⟨t, _, rfl, .inr (SqT.of ht), fun c hc => ?_⟩
  have X1 := (L.to L1).new (o := .lst (refsOf A1)) hc
  have e12 := (upd_ne (o := .lst (refsOf A1)) (ne_of_none (L1.at e1) hc)).trans (L1.at e1)
  have e22 : isPts (upd H1 c (.lst (refsOf A1))) Aa := fun z hz => (upd_ne (ne_of_none (L1.at (e2 z hz)) hc)).trans (L1.at (e2 z hz))
  have hA2 : isPts (upd H1 c (.lst (refsOf A1))) A1 := fun z hz => (upd_ne (ne_of_none (hA1 z hz) hc)).trans (hA1 z hz)
  have hc2 : upd H1 c (.lst (refsOf A1)) c = some (.lst (refsOf A1)) := upd_same
  generalize upd H1 c (.lst (refsOf A1)) = H2 at X1 e12 e22 hA2 hc2 ⊢
  refine ⟨_, h13, _, _, .lst (SqL.of hc2) (dp_pts' hA2), .lst (SqL.of e12) (dp_pts' e22), shaped_of (lay_pts _) (by decide), shaped_of (lay_pts _) (by decide), _, rfl, ?_⟩
  have e3' : Aa.map (·.2) = seenL rs a rs.length := by rw [e3, L.hgt]; rfl
  rw [eA1, e3', SeqAt.eqv_refl _ (lay_pts _).1]
  exact iteF (hq _ _ ⟨B, r, n, l, dt, l0, rs, wd, hg, sl, X1⟩)
def V9 (K : PySem.W.Frag) (p0 d : Addr) : _root_.L2.St → Hp → Prop := fun σ H => σ.length = 19 ∧ Tabs (T K) H ∧ H p0 = some (.lst [.ref d])
theorem ws8 (C : Ctx K mg base) (hr : Room 10 (XW P w K mg base f cd A outer s H0 E).A) : Step (XW P w K mg base f cd A outer s H0 E) (sw 8) (V0 K p0 d) (V9 K p0 d) := by
  have nn := sc_law.nd
  refine ⟨_, ps_if (pt_not (pt_val (pe_cx (ok_netL (P := P) (w := w) C) hr (by decide) rfl passA (pa_cons (pv 1) (pa_cons (pv 5) (pa_cons (pv 7) pa_nil)))))) (pss_one (ps_ret pe_bl)) pss_nil, fun D σ H hM hq => ?_⟩
  obtain ⟨B, r, n, l, dt, l0, rs, wd, hg, sl, L⟩ := hM
  obtain ⟨hl, h1, h2, h3, h5, h6, h7'⟩ := id sl
  exact ⟨_, h1, _, h5, _, h7', p0, d, r, n, l, dt, rs, B, rfl, L.nw, L.gd, fun H' hT hp => ⟨_, rfl, iteF (hq _ _ ⟨hl, hT, hp⟩)⟩⟩
theorem wround (C : Ctx K mg base) (hr : Room 10 (XW P w K mg base f cd A outer s H0 E).A) : Steps (XW P w K mg base f cd A outer s H0 E) [sw 0, sw 1, sw 2, sw 3, sw 4, sw 5, sw 6, sw 7, sw 8] (W0 K p0 d) (V9 K p0 d) :=
  (ws0 C hr).cons ((ws1 C hr).cons ((ws2 C hr).cons ((ws3 C hr).cons ((ws4 C hr).cons ((ws5 C hr).cons ((ws6 C hr).cons ((ws7 C hr).cons ((ws8 C hr).cons .nil))))))))
end
end K2

-- text K2Wg
set_option maxRecDepth 100000
set_option maxHeartbeats 4000000
namespace K2
open PySem PySem.Spec PyProof.Rows L2 LamX GX
section
variable {P : Program} {w : World} {K : PySem.W.Frag} {mg : Str → Option Value} {base : Heap}
variable {f : Addr} {cd : Value} {A : Around} {outer : List Env} {s : Shared} {H0 : Hp} {E : XK}
/-! ### the law's plain part: what cannot be -/
def eltsL : Stmt → List Expr
  | .Assign _ (.List es _) _ => es
  | _ => []
def lamE (i : Nat) : Expr := (eltsL ((defBody s_law)[4]?.getD (.Pass default)))[i]?.getD (.Constant .none 0 default)
def RP : List (List Int) := [[0, 5, 0]]
theorem RP_good : GoodL RP := ⟨by decide, by decide, by decide, by decide, by decide⟩
def TP (u : Addr) : TSt := [("a", u, (0, 0, 10))]
/-- the plain land and net stand -/
def Pln (K : PySem.W.Frag) (σ : _root_.L2.St) (H : Hp) : Prop := ∃ l n dt u, σ[6]? = some (some (.ref l)) ∧ σ[7]? = some (some (.ref n)) ∧ isLand K H l RP ∧ isNet K H n l dt (TP u) ∧ Tabs (T K) H
/-- the lambda lets TowerError out -/
def LamR (K : PySem.W.Frag) (X : Cx) (e : Expr) : Prop := match e with
  | .Lambda params body scope _ => ∃ t : XK → TE, LamOk X 6 ⟨params, body, scope, t⟩ ∧ ∀ (E : XK) (σ : _root_.L2.St) (H : Hp) (Q : VK), Pln K σ H → (∀ H', Le (T K) H H' → E (.ref (aTE K)) none H') → t E σ H Q
  | _ => False
theorem mkl_bad {H1 : Hp} {a : Addr} {R : List (Addr × List Int)} {Q : VK} {E : XK} (hT : Tabs (T K) H1) (ha : SqL K H1 a (R.map fun x => V.ref x.1)) (hr : ∀ x ∈ R, SqL K H1 x.1 (x.2.map V.int)) (hb : ¬ landOk (R.map (·.2))) (h1 : R.length ≤ 1000) (h2 : ∀ x ∈ R, x.2.length ≤ 1000) (hE : ∀ H', Le (T K) H1 H' → E (.ref (aTE K)) none H') :
    ∀ x dx, H1 x = none → H1 dx = none → dx ≠ x → spLand K (.ref x :: ([.ref a] ++ [])) (upd (upd H1 dx (.own x)) x (.ins (aLd K) dx [])) Q E := fun x dx hx hdx hne => by
  have L1 := (Le.refl hT).new (o := .own x) hdx
  have hx1 : upd H1 dx (.own x) x = none := (upd_ne (Ne.symm hne)).trans hx
  exact ⟨x, a, dx, R, H1, rfl, upd_same, hx, L1.new hx1, ha, hr, h1, h2, fun _ => hE, fun h => absurd h hb⟩
theorem lam0 (C : Ctx K mg base) : LamR K (XW P w K mg base f cd A outer s H0 E) (lamE 0) := by
  obtain ⟨fL, fdL, FL, bL, mkL, mgL⟩ := ok_land (P := P) (w := w) C
  refine ⟨fun E => _, ⟨lamS_by (sc := defScope s_law) (by rfl), fun _ _ _ _ _ => rfl, fun A2 outer2 s2 H2 E2 f2 c2 hr2 => pe_make mkL FL (hr2.mono (by decide)) (by rfl) mgL bL .nil passLm (pa_cons (pe_lst pa_nil) pa_nil)⟩, fun E σ H Q hP hE => ?_⟩
  obtain ⟨l, n, dt, u, h6, h7, hl, hn, hT⟩ := hP
  refine ⟨by show 0 ≤ sizeLine; decide, fun z hz => ?_⟩
  have UZ := (Le.refl hT).new (o := .lst []) hz
  intro x dx hx hdx hne
  exact mkl_bad (R := []) UZ.tab (SqL.of upd_same) (fun y hy => by cases hy) (show ¬ landOk [] from fun z => absurd z.1.h1 (by decide)) (by show 0 ≤ 1000; decide) (fun y hy => by cases hy) (fun H' L => hE _ (UZ.trans L)) x dx hx hdx hne
theorem lam1 (C : Ctx K mg base) : LamR K (XW P w K mg base f cd A outer s H0 E) (lamE 1) := by
  obtain ⟨fL, fdL, FL, bL, mkL, mgL⟩ := ok_land (P := P) (w := w) C
  refine ⟨fun E => _, ⟨lamS_by (sc := defScope s_law) (by rfl), fun _ _ _ _ _ => rfl, fun A2 outer2 s2 H2 E2 f2 c2 hr2 => pe_make mkL FL (hr2.mono (by decide)) (by rfl) mgL bL .nil passLm (pa_cons (pe_lst (pa_cons (pe_lst pa_nil) pa_nil)) pa_nil)⟩, fun E σ H Q hP hE => ?_⟩
  obtain ⟨l, n, dt, u, h6, h7, hl, hn, hT⟩ := hP
  refine ⟨by show 0 ≤ sizeLine; decide, fun a ha => ?_⟩
  have U0 := (Le.refl hT).new (o := .lst []) ha
  have ea : upd H a (.lst []) a = some (.lst []) := upd_same
  generalize upd H a (.lst []) = G0 at U0 ea ⊢
  refine ⟨by show 1 ≤ sizeLine; decide, fun z hz => ?_⟩
  have UZ := U0.new (o := .lst [.ref a]) hz
  have ea := (upd_ne (o := .lst [.ref a]) (ne_of_none ea hz)).trans ea
  intro x dx hx hdx hne
  exact mkl_bad (R := [(a, [])]) UZ.tab (SqL.of upd_same) (fun y hy => by
      simp only [List.mem_cons, List.not_mem_nil, or_false] at hy
      rcases hy with rfl
      · exact SqL.of ea) (show ¬ landOk [[]] from fun z => absurd z.2 (by decide)) (by show 1 ≤ 1000; decide) (by intro y hy; simp only [List.mem_cons, List.not_mem_nil, or_false] at hy; rcases hy with rfl <;> exact Nat.le_of_ble_eq_true rfl) (fun H' L => hE _ (UZ.trans L)) x dx hx hdx hne
theorem lam2 (C : Ctx K mg base) : LamR K (XW P w K mg base f cd A outer s H0 E) (lamE 2) := by
  obtain ⟨fL, fdL, FL, bL, mkL, mgL⟩ := ok_land (P := P) (w := w) C
  refine ⟨fun E => _, ⟨lamS_by (sc := defScope s_law) (by rfl), fun _ _ _ _ _ => rfl, fun A2 outer2 s2 H2 E2 f2 c2 hr2 => pe_make mkL FL (hr2.mono (by decide)) (by rfl) mgL bL .nil passLm (pa_cons (pe_lst (pa_cons (pe_lst (pa_cons pe_int pa_nil)) (pa_cons (pe_lst (pa_cons pe_int (pa_cons pe_int pa_nil))) pa_nil))) pa_nil)⟩, fun E σ H Q hP hE => ?_⟩
  obtain ⟨l, n, dt, u, h6, h7, hl, hn, hT⟩ := hP
  refine ⟨by show 1 ≤ sizeLine; decide, fun a ha => ?_⟩
  have U0 := (Le.refl hT).new (o := .lst [.int (0)]) ha
  have ea : upd H a (.lst [.int (0)]) a = some (.lst [.int (0)]) := upd_same
  generalize upd H a (.lst [.int (0)]) = G0 at U0 ea ⊢
  refine ⟨by show 2 ≤ sizeLine; decide, fun b hb => ?_⟩
  have U1 := U0.new (o := .lst [.int (0), .int (0)]) hb
  have eb : upd G0 b (.lst [.int (0), .int (0)]) b = some (.lst [.int (0), .int (0)]) := upd_same
  have ea := (upd_ne (o := .lst [.int (0), .int (0)]) (ne_of_none ea hb)).trans ea
  generalize upd G0 b (.lst [.int (0), .int (0)]) = G1 at U1 ea eb ⊢
  refine ⟨by show 2 ≤ sizeLine; decide, fun z hz => ?_⟩
  have UZ := U1.new (o := .lst [.ref a, .ref b]) hz
  have ea := (upd_ne (o := .lst [.ref a, .ref b]) (ne_of_none ea hz)).trans ea
  have eb := (upd_ne (o := .lst [.ref a, .ref b]) (ne_of_none eb hz)).trans eb
  intro x dx hx hdx hne
  exact mkl_bad (R := [(a, [0]), (b, [0, 0])]) UZ.tab (SqL.of upd_same) (fun y hy => by
      simp only [List.mem_cons, List.not_mem_nil, or_false] at hy
      rcases hy with rfl | rfl
      · exact SqL.of ea
      · exact SqL.of eb) (show ¬ landOk [[0], [0, 0]] from fun z => absurd (z.1.row [0, 0] (by decide)) (by decide)) (by show 2 ≤ 1000; decide) (by intro y hy; simp only [List.mem_cons, List.not_mem_nil, or_false] at hy; rcases hy with rfl | rfl <;> exact Nat.le_of_ble_eq_true rfl) (fun H' L => hE _ (UZ.trans L)) x dx hx hdx hne
theorem lam3 (C : Ctx K mg base) : LamR K (XW P w K mg base f cd A outer s H0 E) (lamE 3) := by
  obtain ⟨fL, fdL, FL, bL, mkL, mgL⟩ := ok_land (P := P) (w := w) C
  refine ⟨fun E => _, ⟨lamS_by (sc := defScope s_law) (by rfl), fun _ _ _ _ _ => rfl, fun A2 outer2 s2 H2 E2 f2 c2 hr2 => pe_make mkL FL (hr2.mono (by decide)) (by rfl) mgL bL .nil passLm (pa_cons (pe_lst (pa_cons (pe_lst (pa_cons pe_int pa_nil)) pa_nil)) pa_nil)⟩, fun E σ H Q hP hE => ?_⟩
  obtain ⟨l, n, dt, u, h6, h7, hl, hn, hT⟩ := hP
  refine ⟨by show 1 ≤ sizeLine; decide, fun a ha => ?_⟩
  have U0 := (Le.refl hT).new (o := .lst [.int (1000)]) ha
  have ea : upd H a (.lst [.int (1000)]) a = some (.lst [.int (1000)]) := upd_same
  generalize upd H a (.lst [.int (1000)]) = G0 at U0 ea ⊢
  refine ⟨by show 1 ≤ sizeLine; decide, fun z hz => ?_⟩
  have UZ := U0.new (o := .lst [.ref a]) hz
  have ea := (upd_ne (o := .lst [.ref a]) (ne_of_none ea hz)).trans ea
  intro x dx hx hdx hne
  exact mkl_bad (R := [(a, [1000])]) UZ.tab (SqL.of upd_same) (fun y hy => by
      simp only [List.mem_cons, List.not_mem_nil, or_false] at hy
      rcases hy with rfl
      · exact SqL.of ea) (show ¬ landOk [[1000]] from fun z => absurd (z.1.val [1000] (by decide) 1000 (by decide)) (by decide)) (by show 1 ≤ 1000; decide) (by intro y hy; simp only [List.mem_cons, List.not_mem_nil, or_false] at hy; rcases hy with rfl <;> exact Nat.le_of_ble_eq_true rfl) (fun H' L => hE _ (UZ.trans L)) x dx hx hdx hne
theorem lam4 (C : Ctx K mg base) : LamR K (XW P w K mg base f cd A outer s H0 E) (lamE 4) := by
  obtain ⟨fL, fdL, FL, bL, mkL, mgL⟩ := ok_land (P := P) (w := w) C
  refine ⟨fun E => _, ⟨lamS_by (sc := defScope s_law) (by rfl), fun _ _ _ _ _ => rfl, fun A2 outer2 s2 H2 E2 f2 c2 hr2 => pe_make mkL FL (hr2.mono (by decide)) (by rfl) mgL bL .nil passLm (pa_cons (pe_lst (pa_cons (pe_lst (pa_cons (pe_un un_neg pe_int) pa_nil)) pa_nil)) pa_nil)⟩, fun E σ H Q hP hE => ?_⟩
  obtain ⟨l, n, dt, u, h6, h7, hl, hn, hT⟩ := hP
  refine ⟨_, rfl, by show 1 ≤ sizeLine; decide, fun a ha => ?_⟩
  have U0 := (Le.refl hT).new (o := .lst [.int (-1)]) ha
  have ea : upd H a (.lst [.int (-1)]) a = some (.lst [.int (-1)]) := upd_same
  generalize upd H a (.lst [.int (-1)]) = G0 at U0 ea ⊢
  refine ⟨by show 1 ≤ sizeLine; decide, fun z hz => ?_⟩
  have UZ := U0.new (o := .lst [.ref a]) hz
  have ea := (upd_ne (o := .lst [.ref a]) (ne_of_none ea hz)).trans ea
  intro x dx hx hdx hne
  exact mkl_bad (R := [(a, [-1])]) UZ.tab (SqL.of upd_same) (fun y hy => by
      simp only [List.mem_cons, List.not_mem_nil, or_false] at hy
      rcases hy with rfl
      · exact SqL.of ea) (show ¬ landOk [[-1]] from fun z => absurd (z.1.val [-1] (by decide) (-1) (by decide)) (by decide)) (by show 1 ≤ 1000; decide) (by intro y hy; simp only [List.mem_cons, List.not_mem_nil, or_false] at hy; rcases hy with rfl <;> exact Nat.le_of_ble_eq_true rfl) (fun H' L => hE _ (UZ.trans L)) x dx hx hdx hne
theorem lam5 (C : Ctx K mg base) : LamR K (XW P w K mg base f cd A outer s H0 E) (lamE 5) := by
  obtain ⟨fL, fdL, FL, bL, mkL, mgL⟩ := ok_land (P := P) (w := w) C
  refine ⟨fun E => _, ⟨lamS_by (sc := defScope s_law) (by rfl), fun _ _ _ _ _ => rfl, fun A2 outer2 s2 H2 E2 f2 c2 hr2 => pe_make mkL FL (hr2.mono (by decide)) (by rfl) mgL bL .nil passLm (pa_cons (pe_op op_rep (pe_lst (pa_cons (pe_lst (pa_cons pe_int pa_nil)) pa_nil)) pe_int) pa_nil)⟩, fun E σ H Q hP hE => ?_⟩
  obtain ⟨l, n, dt, u, h6, h7, hl, hn, hT⟩ := hP
  refine ⟨by show 1 ≤ sizeLine; decide, fun a ha => ?_⟩
  have U0 := (Le.refl hT).new (o := .lst [.int 0]) ha
  have ea : upd H a (.lst [.int 0]) a = some (.lst [.int 0]) := upd_same
  generalize upd H a (.lst [.int 0]) = G0 at U0 ea ⊢
  refine ⟨by show 1 ≤ sizeLine; decide, fun b hb => ?_⟩
  have U1 := U0.new (o := .lst [.ref a]) hb
  have eb : upd G0 b (.lst [.ref a]) b = some (.lst [.ref a]) := upd_same
  have ea := (upd_ne (o := .lst [.ref a]) (ne_of_none ea hb)).trans ea
  generalize upd G0 b (.lst [.ref a]) = G1 at U1 ea eb ⊢
  refine ⟨_, _, _, rfl, rfl, eb, by decide, by decide, by show 1 * 21 ≤ sizeLine; decide, fun z hz => ?_⟩
  have UZ := U1.new (o := .lst (List.replicate (21 : Int).toNat [V.ref a]).flatten) hz
  have ea := (upd_ne (o := .lst (List.replicate (21 : Int).toNat [V.ref a]).flatten) (ne_of_none ea hz)).trans ea
  intro x dx hx hdx hne
  exact mkl_bad (R := List.replicate 21 (a, [0])) UZ.tab (SqL.of upd_same) (fun y hy => by rw [(List.mem_replicate.mp hy).2]; exact SqL.of ea) (fun z => absurd z.1.h2 (by show ¬ 21 ≤ 20; decide)) (by show 21 ≤ 1000; decide) (fun y hy => by rw [(List.mem_replicate.mp hy).2]; exact Nat.le_of_ble_eq_true rfl) (fun H' L => hE _ (UZ.trans L)) x dx hx hdx hne
theorem lam6 (C : Ctx K mg base) : LamR K (XW P w K mg base f cd A outer s H0 E) (lamE 6) := by
  obtain ⟨fM, fdM, FM, bM, mM, cM⟩ := ok_height (P := P) (w := w) C
  refine ⟨fun E => _, ⟨lamS_by (sc := defScope s_law) (by rfl), fun _ _ _ _ _ => rfl, fun A2 outer2 s2 H2 E2 f2 c2 hr2 => pe_meth (pv 6) cM mM FM (hr2.mono (by decide)) bM .nil passLm (pa_cons pe_int (pa_cons pe_int pa_nil))⟩, fun E σ H Q hP hE => ?_⟩
  obtain ⟨l, n, dt, u, h6, h7, hl, hn, hT⟩ := hP
  obtain ⟨dxl, tl, hl1, hl2⟩ := id hl
  exact ⟨_, h6, l, dxl, _, rfl, hl1, rfl, l, 3, 0, RP, rfl, hl, RP_good, hT, fun z => absurd z (by decide), fun _ => hE⟩
theorem lam7 (C : Ctx K mg base) : LamR K (XW P w K mg base f cd A outer s H0 E) (lamE 7) := by
  obtain ⟨fM, fdM, FM, bM, mM, cM⟩ := ok_height (P := P) (w := w) C
  refine ⟨fun E => _, ⟨lamS_by (sc := defScope s_law) (by rfl), fun _ _ _ _ _ => rfl, fun A2 outer2 s2 H2 E2 f2 c2 hr2 => pe_meth (pv 6) cM mM FM (hr2.mono (by decide)) bM .nil passLm (pa_cons pe_int (pa_cons (pe_un un_neg pe_int) pa_nil))⟩, fun E σ H Q hP hE => ?_⟩
  obtain ⟨l, n, dt, u, h6, h7, hl, hn, hT⟩ := hP
  obtain ⟨dxl, tl, hl1, hl2⟩ := id hl
  exact ⟨_, h6, l, dxl, _, rfl, hl1, rfl, _, rfl, l, 0, -1, RP, rfl, hl, RP_good, hT, fun z => absurd z (by decide), fun _ => hE⟩
theorem lam8 (C : Ctx K mg base) : LamR K (XW P w K mg base f cd A outer s H0 E) (lamE 8) := by
  obtain ⟨fM, fdM, FM, bM, mM, cM⟩ := ok_sees (P := P) (w := w) C
  refine ⟨fun E => _, ⟨lamS_by (sc := defScope s_law) (by rfl), fun _ _ _ _ _ => rfl, fun A2 outer2 s2 H2 E2 f2 c2 hr2 => pe_meth (pv 6) cM mM FM (hr2.mono (by decide)) bM .nil passLm (pa_cons (pe_tup (pa_cons pe_int (pa_cons pe_int (pa_cons pe_int pa_nil)))) (pa_cons (pe_tup (pa_cons pe_int (pa_cons pe_int (pa_cons pe_int pa_nil)))) pa_nil))⟩, fun E σ H Q hP hE => ?_⟩
  obtain ⟨l, n, dt, u, h6, h7, hl, hn, hT⟩ := hP
  obtain ⟨dxl, tl, hl1, hl2⟩ := id hl
  refine ⟨_, h6, l, dxl, _, rfl, hl1, rfl, ?_⟩
  refine ⟨by show 3 ≤ sizeLine; decide, fun q0 hq0 => ?_⟩
  have U0 := (Le.refl hT).new (o := .tup (tupT (0, 0, 0))) hq0
  have eq0 : upd H q0 (.tup (tupT (0, 0, 0))) q0 = some (.tup (tupT (0, 0, 0))) := upd_same
  refine ⟨by show 3 ≤ sizeLine; decide, fun q1 hq1 => ?_⟩
  have U1 := U0.new (o := .tup (tupT (0, 1, 0))) hq1
  have eq1 : upd (upd H q0 (.tup (tupT (0, 0, 0)))) q1 (.tup (tupT (0, 1, 0))) q1 = some (.tup (tupT (0, 1, 0))) := upd_same
  have eq0 := (upd_ne (o := .tup (tupT (0, 1, 0))) (ne_of_none eq0 hq1)).trans eq0
  exact ⟨l, q0, q1, RP, (0, 0, 0), (0, 1, 0), rfl, Le.land U1 hl, RP_good, U1.tab, SqT.of eq0, SqT.of eq1, fun _ z => absurd z (by decide), fun _ H' L => hE _ (U1.trans L)⟩
theorem lam9 (C : Ctx K mg base) : LamR K (XW P w K mg base f cd A outer s H0 E) (lamE 9) := by
  obtain ⟨fM, fdM, FM, bM, mM, cM⟩ := ok_seen (P := P) (w := w) C
  refine ⟨fun E => _, ⟨lamS_by (sc := defScope s_law) (by rfl), fun _ _ _ _ _ => rfl, fun A2 outer2 s2 H2 E2 f2 c2 hr2 => pe_meth (pv 6) cM mM FM (hr2.mono (by decide)) bM .nil passLm (pa_cons (pe_tup (pa_cons pe_int (pa_cons pe_int (pa_cons pe_int pa_nil)))) pa_nil)⟩, fun E σ H Q hP hE => ?_⟩
  obtain ⟨l, n, dt, u, h6, h7, hl, hn, hT⟩ := hP
  obtain ⟨dxl, tl, hl1, hl2⟩ := id hl
  refine ⟨_, h6, l, dxl, _, rfl, hl1, rfl, ?_⟩
  refine ⟨by show 3 ≤ sizeLine; decide, fun q0 hq0 => ?_⟩
  have U0 := (Le.refl hT).new (o := .tup (tupT (9, 9, 0))) hq0
  have eq0 : upd H q0 (.tup (tupT (9, 9, 0))) q0 = some (.tup (tupT (9, 9, 0))) := upd_same
  exact ⟨l, q0, RP, (9, 9, 0), rfl, Le.land U0 hl, RP_good, by decide, U0.tab, SqT.of eq0, fun z => absurd z (by decide), fun _ H' L => hE _ (U0.trans L)⟩
theorem lam10 (C : Ctx K mg base) : LamR K (XW P w K mg base f cd A outer s H0 E) (lamE 10) := by
  obtain ⟨fM, fdM, FM, bM, mM, cM⟩ := ok_needed (P := P) (w := w) C
  refine ⟨fun E => _, ⟨lamS_by (sc := defScope s_law) (by rfl), fun _ _ _ _ _ => rfl, fun A2 outer2 s2 H2 E2 f2 c2 hr2 => pe_meth (pv 6) cM mM FM (hr2.mono (by decide)) bM .nil passLm (pa_cons pe_int (pa_cons pe_int (pa_cons (pe_tup (pa_cons pe_int (pa_cons pe_int (pa_cons pe_int pa_nil)))) (pa_cons pe_int pa_nil))))⟩, fun E σ H Q hP hE => ?_⟩
  obtain ⟨l, n, dt, u, h6, h7, hl, hn, hT⟩ := hP
  obtain ⟨dxl, tl, hl1, hl2⟩ := id hl
  refine ⟨_, h6, l, dxl, _, rfl, hl1, rfl, ?_⟩
  refine ⟨by show 3 ≤ sizeLine; decide, fun q0 hq0 => ?_⟩
  have U0 := (Le.refl hT).new (o := .tup (tupT (0, 0, 0))) hq0
  have eq0 : upd H q0 (.tup (tupT (0, 0, 0))) q0 = some (.tup (tupT (0, 0, 0))) := upd_same
  exact ⟨l, q0, RP, 9, 9, (0, 0, 0), 5, rfl, Le.land U0 hl, RP_good, by decide, U0.tab, SqT.of eq0, fun z => absurd z.1 (by decide), fun _ H' L => hE _ (U0.trans L)⟩
theorem lam11 (C : Ctx K mg base) : LamR K (XW P w K mg base f cd A outer s H0 E) (lamE 11) := by
  obtain ⟨fM, fdM, FM, bM, mM, cM⟩ := ok_build (P := P) (w := w) C
  refine ⟨fun E => _, ⟨lamS_by (sc := defScope s_law) (by rfl), fun _ _ _ _ _ => rfl, fun A2 outer2 s2 H2 E2 f2 c2 hr2 => pe_meth (pv 7) cM mM FM (hr2.mono (by decide)) bM .nil passLm (pa_cons pe_str (pa_cons pe_int (pa_cons pe_int (pa_cons pe_int pa_nil))))⟩, fun E σ H Q hP hE => ?_⟩
  obtain ⟨l, n, dt, u, h6, h7, hl, hn, hT⟩ := hP
  obtain ⟨⟨dx, hn1⟩, hn2, hn3⟩ := id hn
  exact ⟨_, h7, n, dx, _, rfl, hn1, rfl, n, l, dt, RP, TP u, "a", 1, 0, 0, hid H [dt], rfl, hn, hl, RP_good, by show ([("a" : Str)]).Nodup; decide, hT, by show 1 < 64; decide, hid_no (by simp), hid_le hT, fun _ => hE, fun z => absurd (.inr (.inl (List.mem_cons_self))) z⟩
theorem lam12 (C : Ctx K mg base) : LamR K (XW P w K mg base f cd A outer s H0 E) (lamE 12) := by
  obtain ⟨fM, fdM, FM, bM, mM, cM⟩ := ok_build (P := P) (w := w) C
  refine ⟨fun E => _, ⟨lamS_by (sc := defScope s_law) (by rfl), fun _ _ _ _ _ => rfl, fun A2 outer2 s2 H2 E2 f2 c2 hr2 => pe_meth (pv 7) cM mM FM (hr2.mono (by decide)) bM .nil passLm (pa_cons pe_str (pa_cons pe_int (pa_cons pe_int (pa_cons pe_int pa_nil))))⟩, fun E σ H Q hP hE => ?_⟩
  obtain ⟨l, n, dt, u, h6, h7, hl, hn, hT⟩ := hP
  obtain ⟨⟨dx, hn1⟩, hn2, hn3⟩ := id hn
  exact ⟨_, h7, n, dx, _, rfl, hn1, rfl, n, l, dt, RP, TP u, "", 1, 0, 0, hid H [dt], rfl, hn, hl, RP_good, by show ([("a" : Str)]).Nodup; decide, hT, by show 1 < 64; decide, hid_no (by simp), hid_le hT, fun _ => hE, fun z => absurd (.inr (.inr (.inl rfl))) z⟩
theorem lam13 (C : Ctx K mg base) : LamR K (XW P w K mg base f cd A outer s H0 E) (lamE 13) := by
  obtain ⟨fM, fdM, FM, bM, mM, cM⟩ := ok_build (P := P) (w := w) C
  refine ⟨fun E => _, ⟨lamS_by (sc := defScope s_law) (by rfl), fun _ _ _ _ _ => rfl, fun A2 outer2 s2 H2 E2 f2 c2 hr2 => pe_meth (pv 7) cM mM FM (hr2.mono (by decide)) bM .nil passLm (pa_cons pe_str (pa_cons pe_int (pa_cons pe_int (pa_cons pe_int pa_nil))))⟩, fun E σ H Q hP hE => ?_⟩
  obtain ⟨l, n, dt, u, h6, h7, hl, hn, hT⟩ := hP
  obtain ⟨⟨dx, hn1⟩, hn2, hn3⟩ := id hn
  exact ⟨_, h7, n, dx, _, rfl, hn1, rfl, n, l, dt, RP, TP u, "b", 0, 0, 0, hid H [dt], rfl, hn, hl, RP_good, by show ([("a" : Str)]).Nodup; decide, hT, by show 1 < 64; decide, hid_no (by simp), hid_le hT, fun _ => hE, fun z => absurd (.inr (.inr (.inr (.inr (.inr ⟨_, List.mem_cons_self, rfl, rfl⟩))))) z⟩
theorem lam14 (C : Ctx K mg base) : LamR K (XW P w K mg base f cd A outer s H0 E) (lamE 14) := by
  obtain ⟨fM, fdM, FM, bM, mM, cM⟩ := ok_build (P := P) (w := w) C
  refine ⟨fun E => _, ⟨lamS_by (sc := defScope s_law) (by rfl), fun _ _ _ _ _ => rfl, fun A2 outer2 s2 H2 E2 f2 c2 hr2 => pe_meth (pv 7) cM mM FM (hr2.mono (by decide)) bM .nil passLm (pa_cons pe_str (pa_cons pe_int (pa_cons pe_int (pa_cons pe_int pa_nil))))⟩, fun E σ H Q hP hE => ?_⟩
  obtain ⟨l, n, dt, u, h6, h7, hl, hn, hT⟩ := hP
  obtain ⟨⟨dx, hn1⟩, hn2, hn3⟩ := id hn
  exact ⟨_, h7, n, dx, _, rfl, hn1, rfl, n, l, dt, RP, TP u, "b", 1, 0, 201, hid H [dt], rfl, hn, hl, RP_good, by show ([("a" : Str)]).Nodup; decide, hT, by show 1 < 64; decide, hid_no (by simp), hid_le hT, fun _ => hE, fun z => absurd (.inr (.inr (.inr (.inl (by decide))))) z⟩
theorem lam15 (C : Ctx K mg base) : LamR K (XW P w K mg base f cd A outer s H0 E) (lamE 15) := by
  obtain ⟨fM, fdM, FM, bM, mM, cM⟩ := ok_build (P := P) (w := w) C
  refine ⟨fun E => _, ⟨lamS_by (sc := defScope s_law) (by rfl), fun _ _ _ _ _ => rfl, fun A2 outer2 s2 H2 E2 f2 c2 hr2 => pe_meth (pv 7) cM mM FM (hr2.mono (by decide)) bM .nil passLm (pa_cons pe_str (pa_cons pe_int (pa_cons pe_int (pa_cons pe_int pa_nil))))⟩, fun E σ H Q hP hE => ?_⟩
  obtain ⟨l, n, dt, u, h6, h7, hl, hn, hT⟩ := hP
  obtain ⟨⟨dx, hn1⟩, hn2, hn3⟩ := id hn
  exact ⟨_, h7, n, dx, _, rfl, hn1, rfl, n, l, dt, RP, TP u, "b", 3, 0, 0, hid H [dt], rfl, hn, hl, RP_good, by show ([("a" : Str)]).Nodup; decide, hT, by show 1 < 64; decide, hid_no (by simp), hid_le hT, fun _ => hE, fun z => absurd (.inl (by decide)) z⟩
theorem lam16 (C : Ctx K mg base) : LamR K (XW P w K mg base f cd A outer s H0 E) (lamE 16) := by
  obtain ⟨fM, fdM, FM, bM, mM, cM⟩ := ok_tower (P := P) (w := w) C
  refine ⟨fun E => _, ⟨lamS_by (sc := defScope s_law) (by rfl), fun _ _ _ _ _ => rfl, fun A2 outer2 s2 H2 E2 f2 c2 hr2 => pe_meth (pv 7) cM mM FM (hr2.mono (by decide)) bM .nil passLm (pa_cons pe_str pa_nil)⟩, fun E σ H Q hP hE => ?_⟩
  obtain ⟨l, n, dt, u, h6, h7, hl, hn, hT⟩ := hP
  obtain ⟨⟨dx, hn1⟩, hn2, hn3⟩ := id hn
  exact ⟨_, h7, n, dx, _, rfl, hn1, rfl, n, l, dt, TP u, "z", rfl, hn, hT, fun p z => absurd z (by show ¬ look (TP u) "z" = some p; rw [show look (TP u) "z" = none from look_none (show ¬ ("z" : Str) ∈ [("a" : Str)] by decide)]; simp), fun _ => hE⟩
end
end K2

-- text K2Wh
set_option maxRecDepth 100000
set_option maxHeartbeats 4000000
namespace K2
open PySem PySem.Spec PyProof.Rows L2 LamX GX
section
variable {P : Program} {w : World} {K : PySem.W.Frag} {mg : Str → Option Value} {base : Heap}
variable {f : Addr} {cd : Value} {A : Around} {outer : List Env} {s : Shared} {H0 : Hp} {E : XK}
/-! ### the law's plain part, walked -/
def pl (i : Nat) : Stmt := ((defBody s_law)[i]?).getD (.Pass default)
theorem pl_len : (defBody s_law).length = 7 := by decide +kernel
def tLams (X : Cx) (T : List (Addr × Str)) : List LamD → TA
  | [] => tNil
  | d :: r => tCons (tLamV X T d.params d.body d.scope) (tLams X T r)
theorem lams_run {X : Cx} {T : List (Addr × Str)} : ∀ {ds : List LamD} {σ : _root_.L2.St} {H : Hp} {Q : List V → Hp → Prop}, Tabs T H →
    (∀ (fs : List (Addr × Addr)) (H' : Hp), Le T H H' → fs.length = ds.length → (∀ (i : Nat) (d : LamD) (p : Addr × Addr), ds[i]? = some d → fs[i]? = some p → H' p.1 = some (lamAt X d p.1 p.2) ∧ H' p.2 = some (CodeO p.2 (X.env.qual ++ "<lambda>"))) → Q (fs.map fun p => V.ref p.1) H') → tLams X T ds σ H Q
  | [], σ, H, Q, hT, h => h [] H (Le.refl hT) rfl fun i d p hd => by simp at hd
  | d :: r, σ, H, Q, hT, h => ⟨hT, fun f c' H1 L1 hf hl hc => lams_run L1.tab fun fs H2 L2 hlen hall => by
      refine h ((f, c') :: fs) H2 (L1.trans L2) (by rw [List.length_cons, List.length_cons, hlen]) fun i d2 p hd hp => ?_
      cases i with
      | zero =>
        cases Option.some.inj hd
        cases Option.some.inj hp
        exact ⟨L2.ext _ _ hl (fun ps z => by cases z), L2.ext _ _ hc (fun ps z => by cases z)⟩
      | succ i => exact hall i d2 p hd hp⟩
structure LamP (K : PySem.W.Frag) (X : Cx) (d : LamD) : Prop where
  ok : LamOk X 6 d
  r : ∀ (E : XK) (σ : _root_.L2.St) (H : Hp) (Q : VK), Pln K σ H → (∀ H', Le (T K) H H' → E (.ref (aTE K)) none H') → d.t E σ H Q
def hdefOf (X : Cx) (e : Expr) : Prop := match e with
  | .Lambda params _ _ _ => defaultsOf params X.env = ([], [])
  | _ => False
theorem lamP_of {X : Cx} {e : Expr} {c P : Addr} (h : LamR K X e) (hd : hdefOf X e) (TB : TabB X.base X.mg c P) (hcode : X.env.code = .ref c) (hmT : (P, X.env.qual ++ "<lambda>") ∈ T K) (hu : ∀ p ∈ T K, p.1 = P → p.2 = X.env.qual ++ "<lambda>") :
    ∃ d : LamD, LamP K X d ∧ PE X e (tLamV X (T K) d.params d.body d.scope) := by
  unfold LamR at h
  unfold hdefOf at hd
  split at h
  · obtain ⟨t, h1, h2⟩ := h
    exact ⟨_, ⟨h1, h2⟩, pe_lam TB hcode hmT hu h1.s hd⟩
  · exact h.elim
def tMidA (t : TA) : TA := fun σ H Q => ∃ Mid : List V → Hp → Prop, t σ H Mid ∧ ∀ vs H', Mid vs H' → Q vs H'
theorem pa_midA {X : Cx} {es : List Expr} {t : TA} (h : PA X es t) : PA X es (tMidA t) := by
  refine ⟨fun pos pins s σ H Q I ⟨Mid, hm, hq⟩ => thn (h.run pos pins s σ H Mid I hm) fun v s1 ⟨x, H1, I1, r1, q1⟩ => ⟨x, H1, I1, r1, hq x H1 q1⟩⟩
theorem pa_lam0 {X : Cx} {T : List (Addr × Str)} : PA X [] (tLams X T []) := pa_nil
theorem pa_lam {X : Cx} {T : List (Addr × Str)} {e : Expr} {es : List Expr} {d : LamD} {r : List LamD} (h : PE X e (tLamV X T d.params d.body d.scope)) (hr : PA X es (tLams X T r)) (hs : starEach (e :: es) X.env = (false, eval e X.env) :: starEach es X.env := by rfl) : PA X (e :: es) (tLams X T (d :: r)) := pa_cons h hr hs
theorem Pln.to {σ : _root_.L2.St} {H H' : Hp} (h : Pln K σ H) (x : Le (T K) H H') : Pln K σ H' := by
  obtain ⟨l, n, dt, u, h6, h7, hl, hn, hT⟩ := h
  exact ⟨l, n, dt, u, h6, h7, Le.land x hl, Le.net x hn, x.tab⟩
theorem Pln.tab {σ : _root_.L2.St} {H : Hp} (h : Pln K σ H) : Tabs (T K) H := by obtain ⟨_, _, _, _, _, _, _, _, hT⟩ := h; exact hT
def P0 (K : PySem.W.Frag) : _root_.L2.St → Hp → Prop := fun σ H => σ.length = 19 ∧ Tabs (T K) H
def P1 (K : PySem.W.Frag) : _root_.L2.St → Hp → Prop := fun σ H => ∃ l, σ.length = 19 ∧ At σ 6 (.ref l) ∧ isLand K H l RP ∧ Tabs (T K) H
def P2 (K : PySem.W.Frag) : _root_.L2.St → Hp → Prop := fun σ H => ∃ l n dt, σ.length = 19 ∧ At σ 6 (.ref l) ∧ At σ 7 (.ref n) ∧ isLand K H l RP ∧ isNet K H n l dt [] ∧ Tabs (T K) H
def P3 (K : PySem.W.Frag) : _root_.L2.St → Hp → Prop := fun σ H => σ.length = 19 ∧ Pln K σ H
theorem pl1 (C : Ctx K mg base) (hr : Room 10 (XW P w K mg base f cd A outer s H0 E).A) : Step (XW P w K mg base f cd A outer s H0 E) (pl 1) (P0 K) (P1 K) := by
  have nn := sc_law.nd
  obtain ⟨fL, fdL, FL, bL, mkL, mgL⟩ := ok_land (P := P) (w := w) C
  refine ⟨_, ps_set (i := 6) nn rfl (by first | exact Or.inl rfl | exact Or.inr rfl) (pe_make mkL FL (hr.mono (by decide)) (by rfl) mgL bL .nil passA (pa_cons (pe_lst (pa_cons (pe_lst (pa_cons pe_int (pa_cons pe_int (pa_cons pe_int pa_nil)))) pa_nil)) pa_nil)), fun D σ H hM hq => ?_⟩
  obtain ⟨hl, hT⟩ := hM
  refine ⟨by show 3 ≤ sizeLine; decide, fun a ha => ?_⟩
  have U0 := (Le.refl hT).new (o := .lst [.int 0, .int 5, .int 0]) ha
  have ea : upd H a (.lst [.int 0, .int 5, .int 0]) a = some (.lst [.int 0, .int 5, .int 0]) := upd_same
  generalize upd H a (.lst [.int 0, .int 5, .int 0]) = G0 at U0 ea ⊢
  refine ⟨by show 1 ≤ sizeLine; decide, fun b hb => ?_⟩
  have U1 := U0.new (o := .lst [.ref a]) hb
  have eb : upd G0 b (.lst [.ref a]) b = some (.lst [.ref a]) := upd_same
  have ea := (upd_ne (o := .lst [.ref a]) (ne_of_none ea hb)).trans ea
  generalize upd G0 b (.lst [.ref a]) = G1 at U1 ea eb ⊢
  intro x dx hx hdx hne
  have M1 := (Le.refl U1.tab).new (o := .own x) hdx
  have hx1 : upd G1 dx (.own x) x = none := (upd_ne (Ne.symm hne)).trans hx
  have lok : landOk ([(a, ([0, 5, 0] : List Int))].map (·.2)) := show landOk RP from ⟨RP_good, by decide⟩
  refine ⟨x, b, dx, [(a, [0, 5, 0])], G1, rfl, upd_same, hx, M1.new hx1, SqL.of eb, fun y hy => by rw [List.mem_singleton.mp hy]; exact SqL.of ea, by show 1 ≤ 1000; decide, fun y hy => by rw [List.mem_singleton.mp hy]; exact Nat.le_of_ble_eq_true rfl, fun z => absurd lok z, fun _ H2 L2 hld => ⟨rfl, ?_⟩⟩
  exact hq _ _ ⟨x, by rw [List.length_set]; exact hl, at_self (by rw [hl]; decide), hld, L2.tab⟩
theorem pl2 (C : Ctx K mg base) (hr : Room 10 (XW P w K mg base f cd A outer s H0 E).A) : Step (XW P w K mg base f cd A outer s H0 E) (pl 2) (P1 K) (P2 K) := by
  have nn := sc_law.nd
  obtain ⟨fN, fdN, FN, bN, mkN, mgN⟩ := ok_netI (P := P) (w := w) C
  refine ⟨_, ps_set (i := 7) nn rfl (by first | exact Or.inl rfl | exact Or.inr rfl) (pe_make mkN FN (hr.mono (by decide)) (by rfl) mgN bN .nil passA (pa_cons (pv 6) pa_nil)), fun D σ H hM hq => ?_⟩
  obtain ⟨l, hl, h6, hld, hT⟩ := hM
  refine ⟨_, h6, ?_⟩
  intro z dz hz hdz hnez
  have M3 := (Le.refl hT).new (o := .own z) hdz
  have hz1 : upd H dz (.own z) z = none := (upd_ne (Ne.symm hnez)).trans hz
  refine ⟨z, l, dz, H, rfl, upd_same, hz, M3.new hz1, fun H3 dt L3 hdt hnet => ⟨rfl, ?_⟩⟩
  exact hq _ _ ⟨l, z, dt, by rw [List.length_set]; exact hl, at_set h6 (by decide), at_self (by rw [hl]; decide), Le.land L3 hld, hnet, L3.tab⟩
theorem pl3 (C : Ctx K mg base) (hr : Room 10 (XW P w K mg base f cd A outer s H0 E).A) : Step (XW P w K mg base f cd A outer s H0 E) (pl 3) (P2 K) (P3 K) := by
  obtain ⟨fB, fdB, FB, bB, mB, cB⟩ := ok_build (P := P) (w := w) C
  refine ⟨_, ps_expr (pe_meth (pv 7) cB mB FB (hr.mono (by decide)) bB .nil passA (pa_cons pe_str (pa_cons pe_int (pa_cons pe_int (pa_cons pe_int pa_nil))))), fun D σ H hM hq => ?_⟩
  obtain ⟨l, n, dt, hl, h6, h7, hld, hn, hT⟩ := hM
  obtain ⟨⟨dx, hn1⟩, hn2, hn3⟩ := id hn
  have good : ¬ noBuild RP [] "a" 0 0 10 := by
    rintro (z | z | z | z | z | ⟨p, hp, _⟩)
    · exact z (by decide)
    · cases z
    · exact absurd z (by decide)
    · exact z (by decide)
    · exact absurd z (by decide)
    · cases hp
  have hldh : isLand K (hid H [dt]) l RP := land_hid hld (fun a C dx fs h e => by rw [List.mem_singleton.mp e, hn2] at h; cases h) (fun a xs h e => by rw [List.mem_singleton.mp e, hn2] at h; cases h)
  refine ⟨_, h7, n, dx, _, rfl, hn1, rfl, n, l, dt, RP, [], "a", 0, 0, 10, hid H [dt], rfl, hn, hld, RP_good, List.nodup_nil, hT, by show 0 < 64; decide, hid_no (by simp), hid_le hT, fun z => absurd z good, fun _ H' u L' hu hnet => ?_⟩
  exact hq _ _ ⟨hl, l, n, dt, u, h6, h7, Le.land L' hldh, hnet, L'.tab⟩
end
end K2

-- text K2Wi
set_option maxRecDepth 100000
set_option maxHeartbeats 4000000
namespace K2
open PySem PySem.Spec PyProof.Rows L2 LamX GX
section
variable {P : Program} {w : World} {K : PySem.W.Frag} {mg : Str → Option Value} {base : Heap}
variable {f : Addr} {cd : Value} {A : Around} {outer : List Env} {s : Shared} {H0 : Hp} {E : XK}
/-! ### the law, joined -/
theorem need_val : needV RP 0 0 (2, 0, 0) 21 = .int 10 := by decide +kernel
theorem sees_val : seesB RP (0, 0, 0) (2, 0, 0) = false := by decide +kernel
theorem seen_val : seenL RP (0, 0, 0) 1 = [(0, 0), (1, 0)] := by decide +kernel
theorem btw_val : btw 0 0 2 1 1 2 = [(1, 0), (1, 1)] := by decide +kernel
theorem near_val : near 1 2 = [0, 1] := by decide +kernel
theorem in_rp : inT RP (0, 0, 0) ∧ inT RP (2, 0, 0) := by decide
theorem pl6 (C : Ctx K mg base) (hr : Room 10 (XW P w K mg base f cd A outer s H0 E).A) : StepsR (XW P w K mg base f cd A outer s H0 E) [pl 6] (P3 K) (fun D => ∀ H', D.rt (.bl true) H') := by
  have nn := sc_law.nd
  obtain ⟨fN, fdN, FN, bN, mN, cN⟩ := ok_needed (P := P) (w := w) C
  obtain ⟨fS, fdS, FS, bS, mS, cS⟩ := ok_sees (P := P) (w := w) C
  obtain ⟨fF, fdF, FF, bF, mF, cF⟩ := ok_seen (P := P) (w := w) C
  refine ⟨_, pss_one (ps_ret
    (pe_and (pe_cmpR op_eq (pe_meth (pv 6) cN mN FN (hr.mono (by decide)) bN .nil passA (pa_cons pe_int (pa_cons pe_int (pa_cons (pe_tup (pa_cons pe_int (pa_cons pe_int (pa_cons pe_int pa_nil)))) (pa_cons pe_int pa_nil))))) pe_int (nomark _))
    (pe_and (pe_not (pe_meth (pv 6) cS mS FS (hr.mono (by decide)) bS .nil passA (pa_cons (pe_tup (pa_cons pe_int (pa_cons pe_int (pa_cons pe_int pa_nil)))) (pa_cons (pe_tup (pa_cons pe_int (pa_cons pe_int (pa_cons pe_int pa_nil)))) pa_nil))))
    (pe_and (pe_cmpR (op_eqD hr.units) (pe_meth (pv 6) cF mF FF (hr.mono (by decide)) bF .nil passA (pa_cons (pe_tup (pa_cons pe_int (pa_cons pe_int (pa_cons pe_int pa_nil)))) pa_nil)) (pe_tup (pa_cons (pe_tup (pa_cons pe_int (pa_cons pe_int pa_nil))) (pa_cons (pe_tup (pa_cons pe_int (pa_cons pe_int pa_nil))) pa_nil))) (nomark _))
    (pe_and (pe_cmpR (op_eqD hr.units) (pe_cx (ok_between (P := P) (w := w) C) hr (by decide) rfl passA (pa_cons (pe_tup (pa_cons pe_int (pa_cons pe_int pa_nil))) (pa_cons pe_int (pa_cons pe_int (pa_cons pe_int (pa_cons pe_int pa_nil)))))) (pe_tup (pa_cons (pe_tup (pa_cons pe_int (pa_cons pe_int pa_nil))) (pa_cons (pe_tup (pa_cons pe_int (pa_cons pe_int pa_nil))) pa_nil))) (nomark _))
    (pe_and (pe_cmpR (op_eqD hr.units) (pe_cx (ok_lkey (P := P) (w := w) C) hr (by decide) rfl passA (pa_cons (pe_tup (pa_cons pe_str (pa_cons pe_str (pa_cons pe_int pa_nil)))) pa_nil)) (pe_tup (pa_cons pe_int (pa_cons pe_str (pa_cons pe_str pa_nil)))) (nomark _))
    (pe_one (pe_cmpR (op_eqD hr.units) (pe_cx (ok_nearest (P := P) (w := w) C) hr (by decide) rfl passA (pa_cons pe_int (pa_cons pe_int pa_nil))) (pe_tup (pa_cons pe_int (pa_cons pe_int pa_nil))) (nomark _))))))))), fun D σ H hM hq => ?_⟩
  obtain ⟨hl, l, n, dt, u, h6, h7, hld, hn, hT⟩ := hM
  obtain ⟨dxl, tl, hl1, hl2⟩ := id hld
  -- needed
  refine ⟨_, h6, l, dxl, _, rfl, hl1, rfl, by show 3 ≤ sizeLine; decide, fun q0 hq0 => ?_⟩
  have U0 := (Le.refl hT).new (o := .tup (tupT (2, 0, 0))) hq0
  have e0 : upd H q0 (.tup (tupT (2, 0, 0))) q0 = some (.tup (tupT (2, 0, 0))) := upd_same
  refine ⟨l, q0, RP, 0, 0, (2, 0, 0), 20, rfl, Le.land U0 hld, RP_good, by decide, U0.tab, SqT.of e0, fun _ H1 L1 => ?_, fun z => absurd ⟨in_rp.1, in_rp.2⟩ z⟩
  have LA := U0.trans L1
  rw [need_val]
  refine ⟨rfl, _, rfl, iteT ?_⟩
  -- sees
  refine ⟨_, h6, l, dxl, _, rfl, LA.at hl1, rfl, by show 3 ≤ sizeLine; decide, fun q1 hq1 => ?_⟩
  have U1 := (Le.refl L1.tab).new (o := .tup (tupT (0, 0, 0))) hq1
  have e1 : upd H1 q1 (.tup (tupT (0, 0, 0))) q1 = some (.tup (tupT (0, 0, 0))) := upd_same
  refine ⟨by show 3 ≤ sizeLine; decide, fun q2 hq2 => ?_⟩
  have U2 := U1.new (o := .tup (tupT (2, 0, 0))) hq2
  have e2 : upd (upd H1 q1 (.tup (tupT (0, 0, 0)))) q2 (.tup (tupT (2, 0, 0))) q2 = some (.tup (tupT (2, 0, 0))) := upd_same
  have e1' := (upd_ne (o := .tup (tupT (2, 0, 0))) (ne_of_none e1 hq2)).trans e1
  refine ⟨l, q1, q2, RP, (0, 0, 0), (2, 0, 0), rfl, Le.land (LA.trans U2) hld, RP_good, U2.tab, SqT.of e1', SqT.of e2, fun _ _ H2 L2 => ?_, fun z => absurd in_rp z⟩
  have LB := (LA.trans U2).trans L2
  rw [sees_val]
  refine ⟨_, rfl, _, rfl, iteT ?_⟩
  -- seen
  refine ⟨_, h6, l, dxl, _, rfl, LB.at hl1, rfl, by show 3 ≤ sizeLine; decide, fun q3 hq3 => ?_⟩
  have U3 := (Le.refl L2.tab).new (o := .tup (tupT (0, 0, 0))) hq3
  have e3 : upd H2 q3 (.tup (tupT (0, 0, 0))) q3 = some (.tup (tupT (0, 0, 0))) := upd_same
  refine ⟨l, q3, RP, (0, 0, 0), rfl, Le.land (LB.trans U3) hld, RP_good, by decide, U3.tab, SqT.of e3, fun _ H3 A3 t3 L3 ht3n ht3 hA3 eA3 => ?_, fun z => absurd in_rp.1 z⟩
  have eA3 : A3.map (·.2) = [(0, 0), (1, 0)] := eA3.trans seen_val
  refine ⟨by show 2 ≤ sizeLine; decide, fun a ha => ?_⟩
  have V1 := (Le.refl L3.tab).new (o := .tup [.int 0, .int 0]) ha
  have ea : upd H3 a (.tup [.int 0, .int 0]) a = some (.tup [.int 0, .int 0]) := upd_same
  generalize upd H3 a (.tup [.int 0, .int 0]) = G1 at V1 ea ⊢
  refine ⟨by show 2 ≤ sizeLine; decide, fun b hb => ?_⟩
  have V2 := V1.new (o := .tup [.int 1, .int 0]) hb
  have eb : upd G1 b (.tup [.int 1, .int 0]) b = some (.tup [.int 1, .int 0]) := upd_same
  have ea := (upd_ne (o := .tup [.int 1, .int 0]) (ne_of_none ea hb)).trans ea
  generalize upd G1 b (.tup [.int 1, .int 0]) = G2 at V2 ea eb ⊢
  refine ⟨by show 2 ≤ sizeLine; decide, fun c hc => ?_⟩
  have V3 := V2.new (o := .tup [.ref a, .ref b]) hc
  have ec : upd G2 c (.tup [.ref a, .ref b]) c = some (.tup [.ref a, .ref b]) := upd_same
  have ea := (upd_ne (o := .tup [.ref a, .ref b]) (ne_of_none ea hc)).trans ea
  have eb := (upd_ne (o := .tup [.ref a, .ref b]) (ne_of_none eb hc)).trans eb
  generalize upd G2 c (.tup [.ref a, .ref b]) = G3 at V3 ea eb ec ⊢
  have shp : SeqAt.shaped (.tuple [ptD (0, 0), ptD (1, 0)]) = true := by decide +kernel
  have dp3 := dp_pts' (K := K) (fun z hz => V3.at (hA3 z hz) : isPts G3 A3)
  rw [eA3] at dp3
  refine ⟨.tuple [ptD (0, 0), ptD (1, 0)], .tuple [ptD (0, 0), ptD (1, 0)], .tup (SqT.of (V3.at ht3)) dp3, .tup (SqT.of ec) (.cons (.tup (SqT.of ea) (DpAll.ints [0, 0])) (.cons (.tup (SqT.of eb) (DpAll.ints [1, 0])) .nil)), shp, shp, ?_⟩
  rw [show PyData.eqv (.tuple [ptD (0, 0), ptD (1, 0)]) (.tuple [ptD (0, 0), ptD (1, 0)]) = true by decide +kernel]
  refine ⟨_, rfl, iteT ?_⟩
  -- between
  refine ⟨by show 2 ≤ sizeLine; decide, fun o1 ho1 => ?_⟩
  have W1 := (Le.refl V3.tab).new (o := .tup [.int 0, .int 0]) ho1
  have eo : upd G3 o1 (.tup [.int 0, .int 0]) o1 = some (.tup [.int 0, .int 0]) := upd_same
  refine ⟨o1, 0, 0, 2, 1, 1, 2, [], rfl, SqT.of eo, W1.tab, by decide, by decide, ⟨by decide, by decide⟩, fun A4 t4 H4 L4 eA4 hA4 ht4 => ?_⟩
  rw [btw_val] at eA4
  refine ⟨by show 2 ≤ sizeLine; decide, fun a ha => ?_⟩
  have V1 := (Le.refl L4.tab).new (o := .tup [.int 1, .int 0]) ha
  have ea : upd H4 a (.tup [.int 1, .int 0]) a = some (.tup [.int 1, .int 0]) := upd_same
  generalize upd H4 a (.tup [.int 1, .int 0]) = G1 at V1 ea ⊢
  refine ⟨by show 2 ≤ sizeLine; decide, fun b hb => ?_⟩
  have V2 := V1.new (o := .tup [.int 1, .int 1]) hb
  have eb : upd G1 b (.tup [.int 1, .int 1]) b = some (.tup [.int 1, .int 1]) := upd_same
  have ea := (upd_ne (o := .tup [.int 1, .int 1]) (ne_of_none ea hb)).trans ea
  generalize upd G1 b (.tup [.int 1, .int 1]) = G2 at V2 ea eb ⊢
  refine ⟨by show 2 ≤ sizeLine; decide, fun c hc => ?_⟩
  have V3 := V2.new (o := .tup [.ref a, .ref b]) hc
  have ec : upd G2 c (.tup [.ref a, .ref b]) c = some (.tup [.ref a, .ref b]) := upd_same
  have ea := (upd_ne (o := .tup [.ref a, .ref b]) (ne_of_none ea hc)).trans ea
  have eb := (upd_ne (o := .tup [.ref a, .ref b]) (ne_of_none eb hc)).trans eb
  generalize upd G2 c (.tup [.ref a, .ref b]) = G4 at V3 ea eb ec ⊢
  have shp2 : SeqAt.shaped (.tuple [ptD (1, 0), ptD (1, 1)]) = true := by decide +kernel
  have dp4 := dp_pts' (K := K) (fun z hz => V3.at (hA4 z hz) : isPts G4 A4)
  rw [eA4] at dp4
  refine ⟨.tuple [ptD (1, 0), ptD (1, 1)], .tuple [ptD (1, 0), ptD (1, 1)], .tup (SqT.of (V3.at ht4)) dp4, .tup (SqT.of ec) (.cons (.tup (SqT.of ea) (DpAll.ints [1, 0])) (.cons (.tup (SqT.of eb) (DpAll.ints [1, 1])) .nil)), shp2, shp2, ?_⟩
  rw [show PyData.eqv (.tuple [ptD (1, 0), ptD (1, 1)]) (.tuple [ptD (1, 0), ptD (1, 1)]) = true by decide +kernel]
  refine ⟨_, rfl, iteT ?_⟩
  -- link_key
  refine ⟨by show 3 ≤ sizeLine; decide, fun k1 hk1 => ?_⟩
  have Y1 := (Le.refl V3.tab).new (o := .tup [.str "a", .str "b", .int 3]) hk1
  have ek : upd G4 k1 (.tup [.str "a", .str "b", .int 3]) k1 = some (.tup [.str "a", .str "b", .int 3]) := upd_same
  refine ⟨k1, ("a", "b", 3), rfl, ek, fun k2 hk2 => ?_⟩
  have Y2 := Y1.new (o := .tup [.int 3, .str "a", .str "b"]) hk2
  have ek2 : upd (upd G4 k1 (.tup [.str "a", .str "b", .int 3])) k2 (.tup [.int 3, .str "a", .str "b"]) k2 = some (.tup [.int 3, .str "a", .str "b"]) := upd_same
  generalize upd (upd G4 k1 (.tup [.str "a", .str "b", .int 3])) k2 (.tup [.int 3, .str "a", .str "b"]) = G5 at Y2 ek2 ⊢
  refine ⟨by show 3 ≤ sizeLine; decide, fun k3 hk3 => ?_⟩
  have Y3 := Y2.new (o := .tup [.int 3, .str "a", .str "b"]) hk3
  have ek3 : upd G5 k3 (.tup [.int 3, .str "a", .str "b"]) k3 = some (.tup [.int 3, .str "a", .str "b"]) := upd_same
  have ek2 := (upd_ne (o := .tup [.int 3, .str "a", .str "b"]) (ne_of_none ek2 hk3)).trans ek2
  generalize upd G5 k3 (.tup [.int 3, .str "a", .str "b"]) = G6 at Y3 ek2 ek3 ⊢
  have shp3 : SeqAt.shaped (lkKey ("a", "b", 3)) = true := by decide +kernel
  refine ⟨lkKey ("a", "b", 3), lkKey ("a", "b", 3), .tup (SqT.of ek2) (.cons (.int _) (.cons (.str _) (.cons (.str _) .nil))), .tup (SqT.of ek3) (.cons (.int _) (.cons (.str _) (.cons (.str _) .nil))), shp3, shp3, ?_⟩
  rw [show PyData.eqv (lkKey ("a", "b", 3)) (lkKey ("a", "b", 3)) = true by decide +kernel]
  refine ⟨_, rfl, iteT ?_⟩
  -- nearest
  refine ⟨1, 2, rfl, by decide, by decide, fun t5 ht5 => ?_⟩
  rw [near_val]
  have Z1 := (Le.refl Y3.tab).new (o := .tup (([0, 1] : List Int).map V.int)) ht5
  have e5 : upd G6 t5 (.tup (([0, 1] : List Int).map V.int)) t5 = some (.tup (([0, 1] : List Int).map V.int)) := upd_same
  generalize upd G6 t5 (.tup (([0, 1] : List Int).map V.int)) = G7 at Z1 e5 ⊢
  refine ⟨by show 2 ≤ sizeLine; decide, fun t6 ht6 => ?_⟩
  have e6 := (upd_ne (o := .tup [.int 0, .int 1]) (ne_of_none e5 ht6)).trans e5
  refine ⟨.tuple [.int 0, .int 1], .tuple [.int 0, .int 1], .tup (SqT.of e6) (DpAll.ints [0, 1]), .tup (SqT.of upd_same) (DpAll.ints [0, 1]), rfl, rfl, ?_⟩
  rw [show PyData.eqv (.tuple [.int 0, .int 1]) (.tuple [.int 0, .int 1]) = true by decide]
  exact hq _
end
end K2

-- text K2Wj
set_option maxRecDepth 100000
set_option maxHeartbeats 4000000
namespace K2
open PySem PySem.Spec PyProof.Rows L2 LamX GX
section
variable {P : Program} {w : World} {K : PySem.W.Frag} {mg : Str → Option Value} {base : Heap}
variable {f : Addr} {cd : Value} {A : Around} {outer : List Env} {s : Shared} {H0 : Hp} {E : XK}
/-! ### the law, joined -/
def Fam (X : Cx) (K : PySem.W.Frag) (fs : List (Addr × Addr)) (H : Hp) (ds : List LamD) : Prop := (∀ d ∈ ds, LamP K X d) ∧ fs.length ≤ 17 ∧ ∀ (i : Nat) (p : Addr × Addr), fs[i]? = some p → ∃ d, d ∈ ds ∧ H p.1 = some (lamAt X d p.1 p.2) ∧ H p.2 = some (CodeO p.2 (X.env.qual ++ "<lambda>"))
theorem pl456 (C : Ctx K mg base) (hr : Room 10 (XW P w K mg base (He.fAd K ("law", none)) (cdW K) A outer s H0 E).A) : StepsR (XW P w K mg base (He.fAd K ("law", none)) (cdW K) A outer s H0 E) [pl 4, pl 5, pl 6] (P3 K) (fun D => ∀ H', D.rt (.bl true) H') := by
  have nn := sc_law.nd
  obtain ⟨tb6, hb6, h6b⟩ := pl6 (P := P) (w := w) (f := He.fAd K ("law", none)) (cd := cdW K) (A := A) (outer := outer) (s := s) (H0 := H0) (E := E) C hr
  obtain ⟨t20, i20⟩ := C.t.i_MOST_SIDE
  obtain ⟨t30, i30⟩ := C.t.i_MOST_TOWERS
  obtain ⟨gd, G⟩ := C.d.d_l_told
  have gb := G.funD.bindsN (ps := ["what"]) fun _ _ _ _ _ _ us hl => (match us, hl with | [_], _ => rfl)
  have gkp := G.kp
  obtain ⟨oc, od, dV, kV, doc, pm, an, ct, osl, ge, glk, ghcd, ghd, ghk⟩ := G.ex
  subst ge
  obtain ⟨d0, p0, v0⟩ := lamP_of (lam0 (P := P) (w := w) (f := He.fAd K ("law", none)) (cd := cdW K) (A := A) (outer := outer) (s := s) (H0 := H0) (E := E) C) rfl (C.b _ (tf_mem 5)) rfl (T_mem 5) (T_uniq C.u 5)
  obtain ⟨d1, p1, v1⟩ := lamP_of (lam1 (P := P) (w := w) (f := He.fAd K ("law", none)) (cd := cdW K) (A := A) (outer := outer) (s := s) (H0 := H0) (E := E) C) rfl (C.b _ (tf_mem 5)) rfl (T_mem 5) (T_uniq C.u 5)
  obtain ⟨d2, p2, v2⟩ := lamP_of (lam2 (P := P) (w := w) (f := He.fAd K ("law", none)) (cd := cdW K) (A := A) (outer := outer) (s := s) (H0 := H0) (E := E) C) rfl (C.b _ (tf_mem 5)) rfl (T_mem 5) (T_uniq C.u 5)
  obtain ⟨d3, p3, v3⟩ := lamP_of (lam3 (P := P) (w := w) (f := He.fAd K ("law", none)) (cd := cdW K) (A := A) (outer := outer) (s := s) (H0 := H0) (E := E) C) rfl (C.b _ (tf_mem 5)) rfl (T_mem 5) (T_uniq C.u 5)
  obtain ⟨d4, p4, v4⟩ := lamP_of (lam4 (P := P) (w := w) (f := He.fAd K ("law", none)) (cd := cdW K) (A := A) (outer := outer) (s := s) (H0 := H0) (E := E) C) rfl (C.b _ (tf_mem 5)) rfl (T_mem 5) (T_uniq C.u 5)
  obtain ⟨d5, p5, v5⟩ := lamP_of (lam5 (P := P) (w := w) (f := He.fAd K ("law", none)) (cd := cdW K) (A := A) (outer := outer) (s := s) (H0 := H0) (E := E) C) rfl (C.b _ (tf_mem 5)) rfl (T_mem 5) (T_uniq C.u 5)
  obtain ⟨d6, p6, v6⟩ := lamP_of (lam6 (P := P) (w := w) (f := He.fAd K ("law", none)) (cd := cdW K) (A := A) (outer := outer) (s := s) (H0 := H0) (E := E) C) rfl (C.b _ (tf_mem 5)) rfl (T_mem 5) (T_uniq C.u 5)
  obtain ⟨d7, p7, v7⟩ := lamP_of (lam7 (P := P) (w := w) (f := He.fAd K ("law", none)) (cd := cdW K) (A := A) (outer := outer) (s := s) (H0 := H0) (E := E) C) rfl (C.b _ (tf_mem 5)) rfl (T_mem 5) (T_uniq C.u 5)
  obtain ⟨d8, p8, v8⟩ := lamP_of (lam8 (P := P) (w := w) (f := He.fAd K ("law", none)) (cd := cdW K) (A := A) (outer := outer) (s := s) (H0 := H0) (E := E) C) rfl (C.b _ (tf_mem 5)) rfl (T_mem 5) (T_uniq C.u 5)
  obtain ⟨d9, p9, v9⟩ := lamP_of (lam9 (P := P) (w := w) (f := He.fAd K ("law", none)) (cd := cdW K) (A := A) (outer := outer) (s := s) (H0 := H0) (E := E) C) rfl (C.b _ (tf_mem 5)) rfl (T_mem 5) (T_uniq C.u 5)
  obtain ⟨d10, p10, v10⟩ := lamP_of (lam10 (P := P) (w := w) (f := He.fAd K ("law", none)) (cd := cdW K) (A := A) (outer := outer) (s := s) (H0 := H0) (E := E) C) rfl (C.b _ (tf_mem 5)) rfl (T_mem 5) (T_uniq C.u 5)
  obtain ⟨d11, p11, v11⟩ := lamP_of (lam11 (P := P) (w := w) (f := He.fAd K ("law", none)) (cd := cdW K) (A := A) (outer := outer) (s := s) (H0 := H0) (E := E) C) rfl (C.b _ (tf_mem 5)) rfl (T_mem 5) (T_uniq C.u 5)
  obtain ⟨d12, p12, v12⟩ := lamP_of (lam12 (P := P) (w := w) (f := He.fAd K ("law", none)) (cd := cdW K) (A := A) (outer := outer) (s := s) (H0 := H0) (E := E) C) rfl (C.b _ (tf_mem 5)) rfl (T_mem 5) (T_uniq C.u 5)
  obtain ⟨d13, p13, v13⟩ := lamP_of (lam13 (P := P) (w := w) (f := He.fAd K ("law", none)) (cd := cdW K) (A := A) (outer := outer) (s := s) (H0 := H0) (E := E) C) rfl (C.b _ (tf_mem 5)) rfl (T_mem 5) (T_uniq C.u 5)
  obtain ⟨d14, p14, v14⟩ := lamP_of (lam14 (P := P) (w := w) (f := He.fAd K ("law", none)) (cd := cdW K) (A := A) (outer := outer) (s := s) (H0 := H0) (E := E) C) rfl (C.b _ (tf_mem 5)) rfl (T_mem 5) (T_uniq C.u 5)
  obtain ⟨d15, p15, v15⟩ := lamP_of (lam15 (P := P) (w := w) (f := He.fAd K ("law", none)) (cd := cdW K) (A := A) (outer := outer) (s := s) (H0 := H0) (E := E) C) rfl (C.b _ (tf_mem 5)) rfl (T_mem 5) (T_uniq C.u 5)
  obtain ⟨d16, p16, v16⟩ := lamP_of (lam16 (P := P) (w := w) (f := He.fAd K ("law", none)) (cd := cdW K) (A := A) (outer := outer) (s := s) (H0 := H0) (E := E) C) rfl (C.b _ (tf_mem 5)) rfl (T_mem 5) (T_uniq C.u 5)
  have fam : ∀ d ∈ ([d0, d1, d2, d3, d4, d5, d6, d7, d8, d9, d10, d11, d12, d13, d14, d15, d16] : List LamD), LamP K (XW P w K mg base (He.fAd K ("law", none)) (cdW K) A outer s H0 E) d := by
    intro d hd
    simp only [List.mem_cons, List.not_mem_nil, or_false] at hd
    rcases hd with rfl | rfl | rfl | rfl | rfl | rfl | rfl | rfl | rfl | rfl | rfl | rfl | rfl | rfl | rfl | rfl | rfl
    · exact p0
    · exact p1
    · exact p2
    · exact p3
    · exact p4
    · exact p5
    · exact p6
    · exact p7
    · exact p8
    · exact p9
    · exact p10
    · exact p11
    · exact p12
    · exact p13
    · exact p14
    · exact p15
    · exact p16
  have hfam : ∀ d ∈ ([d0, d1, d2, d3, d4, d5, d6, d7, d8, d9, d10, d11, d12, d13, d14, d15, d16] : List LamD), LamOk (XW P w K mg base (He.fAd K ("law", none)) (cdW K) A outer s H0 E) 6 d := fun d hd => (fam d hd).ok
  refine ⟨_, C8.pss_cut (ps_set (i := 15) nn rfl (by first | exact Or.inl rfl | exact Or.inr rfl) (pe_lst (pa_midA (pa_lam v0 (pa_lam v1 (pa_lam v2 (pa_lam v3 (pa_lam v4 (pa_lam v5 (pa_lam v6 (pa_lam v7 (pa_lam v8 (pa_lam v9 (pa_lam v10 (pa_lam v11 (pa_lam v12 (pa_lam v13 (pa_lam v14 (pa_lam v15 (pa_lam v16 pa_lam0))))))))))))))))))))
    (C8.pss_cut (ps_if (PW.pt (pw_or (pt_cmpR (op_neD hr.units) (pe_lcB (own := [("f", 18)]) (g := gName 18) rfl nn rfl rfl takesA (pi_list (pv 15)) (blkOk_by (N := n_law) (sc := defScope s_law) (by decide +kernel))
            (fun _ _ _ _ _ => pg_name (i := 18) nn rfl (Or.inl rfl))
            (fun _ _ _ _ _ _ back => pts_one (pt_cmpR op_ne (pe_toldV (j := 18) back hfam (by rfl) C.t.m_l_told gkp glk ghcd gb sc_l_told rfl (.inl rfl) (told_gives (by rfl) C.t.m_TowerError (by decide) fun _ => rfl) (hr.mono (by decide)) rfl (.inl rfl)) pe_str (nomark _)))
            (fun _ _ _ _ _ _ _ _ => pe_int)) (pe_lst pa_nil) (nomark _))
          (pw_or1 (pt_cmpR (op_neD hr.units) (pe_tup (pa_cons (pe_glob (by rfl) i20 (v := .int 20) ⟨_, rfl⟩) (pa_cons (pe_glob (by rfl) i30 (v := .int 30) ⟨_, rfl⟩) pa_nil))) (pe_tup (pa_cons pe_int (pa_cons pe_int pa_nil))) (nomark _)))))
        (pss_one (ps_ret pe_bl)) pss_nil) hb6), fun D σ H hM hq => ?_⟩
  obtain ⟨hl, hP⟩ := hM
  refine ⟨fun σ' H' => P3 K σ' H' ∧ ∃ lb fs, At σ' 15 (.ref lb) ∧ H' lb = some (.lst (fs.map fun p : Addr × Addr => V.ref p.1)) ∧ Fam (XW P w K mg base (He.fAd K ("law", none)) (cdW K) A outer s H0 E) K fs H' [d0, d1, d2, d3, d4, d5, d6, d7, d8, d9, d10, d11, d12, d13, d14, d15, d16], ?_, ?_⟩
  · refine ⟨fun vs H3 => ∃ fs : List (Addr × Addr), vs = (fs.map fun p => V.ref p.1) ∧ Le (T K) H H3 ∧ Fam (XW P w K mg base (He.fAd K ("law", none)) (cdW K) A outer s H0 E) K fs H3 [d0, d1, d2, d3, d4, d5, d6, d7, d8, d9, d10, d11, d12, d13, d14, d15, d16], ?_, ?_⟩
    · refine lams_run hP.tab fun fs H3 L3 hlen hall => ?_
      refine ⟨fs, rfl, L3, fam, by rw [hlen]; exact Nat.le_refl 17, fun i p hp => ?_⟩
      have hi : i < 17 := by
        have := (List.getElem?_eq_some_iff.mp hp).1
        rw [hlen] at this
        exact this
      obtain ⟨d, hd⟩ : ∃ d, ([d0, d1, d2, d3, d4, d5, d6, d7, d8, d9, d10, d11, d12, d13, d14, d15, d16] : List LamD)[i]? = some d := ⟨_, List.getElem?_eq_getElem hi⟩
      exact ⟨d, List.mem_of_getElem? hd, hall i d p hd hp⟩
    rintro vs H3 ⟨fs, rfl, L3, hF, h17, hall⟩
    refine ⟨by rw [List.length_map]; exact Nat.le_trans h17 (by decide), fun l hl2 => ?_⟩
    have U := (Le.refl L3.tab).new (o := .lst (fs.map fun p => V.ref p.1)) hl2
    have PP := (hP.to L3).to U
    obtain ⟨l', n', dt', u', h6, h7, q1, q2, q3⟩ := PP
    exact ⟨⟨by rw [List.length_set]; exact hl, l', n', dt', u', at_set h6 (by decide), at_set h7 (by decide), q1, q2, q3⟩, l, fs, at_self (by rw [hl]; decide), upd_same, hF, h17, fun i p hp => by
      obtain ⟨d, h1, h2, h3⟩ := hall i p hp
      exact ⟨d, h1, U.ext _ _ h2 (fun ps z => by cases z), U.ext _ _ h3 (fun ps z => by cases z)⟩⟩
  · rintro σ' H5 ⟨⟨hl5, hP5⟩, lb, fs, h15, hlb, hF, h17, hall5⟩
    refine ⟨P3 K, ?_, fun σ'' H'' z => h6b D σ'' H'' z hq⟩
    refine ⟨_, h15, lb, rfl, ⟨_, SqL.of hlb⟩, fun D1 hD => ?_⟩
    obtain ⟨a0, a1, a2, a3, a4, a5, a6, a7, a8, a9, a10, a11, a12, a13, a14, a15, a16, a17, a18, rfl⟩ := ex19 hl5
    refine lc_list (K := K) (a := lb) (xs := fs.map fun p => V.ref p.1) (fun i H' => Le (T K) H5 H' ∧ H' D1 = some (.lst [])) ⟨(Le.refl hP5.tab).new hD, upd_same⟩ (fun i H' _ hP => SqL.of (hP.1.at hlb)) (fun i y H6 hy ⟨L6, h6⟩ => ?_) (fun H6 ⟨L6, h6⟩ => ?_)
    · obtain ⟨p, hp, rfl⟩ := GX.get_map hy
      obtain ⟨d, hd, h1, h2⟩ := hall5 i p hp
      refine ⟨rfl, ?_⟩
      refine ⟨p.1, p.2, d, rfl, hd, L6.ext _ _ h1 (fun ps z => by cases z), L6.ext _ _ h2 (fun ps z => by cases z), L6.ext _ _ h1 (fun ps z => by cases z), (fam d hd).r _ _ H6 _ (hP5.to L6) fun H7 L7 => ⟨true, C.t.x_TowerError_TowerError, fun _ => ?_, fun z => by cases z⟩⟩
      refine ⟨rfl, _, rfl, ?_⟩
      rw [decide_eq_true (show V.str "TowerError" = V.str "TowerError" from rfl)]
      exact iteF ⟨L6.trans L7, L7.at h6⟩
    · refine ⟨by show 0 ≤ sizeLine; decide, fun e he => ?_⟩
      have hDe : D1 ≠ e := ne_of_none h6 he
      refine ⟨.list [], .list [], .lst (SqL.of ((upd_ne hDe).trans h6)) .nil, .lst (SqL.of upd_same) .nil, rfl, rfl, _, rfl, ?_⟩
      have ev0 : PyData.eqv (.list []) (.list []) = true := rfl
      rw [ev0]
      refine iteF ?_
      have L7 := L6.new (o := .lst []) he
      generalize upd H6 e (.lst []) = H7 at L7 ⊢
      refine ⟨by show 2 ≤ sizeLine; decide, fun p hp => ?_⟩
      refine ⟨by show 2 ≤ sizeLine; decide, fun q hqn => ?_⟩
      have hpq : p ≠ q := ne_of_none upd_same hqn
      refine ⟨.tuple [.int 20, .int 30], .tuple [.int 20, .int 30], .tup (SqT.of ((upd_ne hpq).trans upd_same)) (DpAll.ints [20, 30]), .tup (SqT.of upd_same) (DpAll.ints [20, 30]), rfl, rfl, _, rfl, ?_⟩
      have ev1 : PyData.eqv (.tuple [.int 20, .int 30]) (.tuple [.int 20, .int 30]) = true := by decide
      rw [ev1]
      exact iteF ⟨rfl, hP5.to ((L7.new hp).new hqn)⟩
theorem wround_ex (C : Ctx K mg base) (hr : Room 10 (XW P w K mg base (He.fAd K ("law", none)) (cdW K) A outer s H0 E).A) : ∃ t, PSs (XW P w K mg base (He.fAd K ("law", none)) (cdW K) A outer s H0 E) WB t ∧ ∀ (p0 d : Addr) (D : Ends) (σ : _root_.L2.St) (H : Hp), W0 K p0 d σ H → (∀ σ' H', V9 K p0 d σ' H' → D.nx σ' H') → t D σ H := by
  have hb := fun x : Addr × Addr => wround (P := P) (w := w) (f := He.fAd K ("law", none)) (cd := cdW K) (A := A) (outer := outer) (s := s) (H0 := H0) (E := E) (p0 := x.1) (d := x.2) C hr
  have h1 : ∀ x : Addr × Addr, PSs (XW P w K mg base (He.fAd K ("law", none)) (cdW K) A outer s H0 E) WB (Classical.choose (hb x)) := fun x => (Classical.choose_spec (hb x)).1
  refine ⟨_, pss_ex h1, fun p0 d D σ H hM hq => ⟨(p0, d), (Classical.choose_spec (hb (p0, d))).2 D σ H hM hq⟩⟩
def spLaw (K : PySem.W.Frag) : Sp := fun vs H Q _ => ∃ (sa : Addr) (ns : List Int), vs = [.ref sa] ∧ SqL K H sa (ns.map V.int) ∧ Tabs (T K) H ∧ ∀ H', Q (.bl true) H'
theorem ok_law (C : Ctx K mg base) {fd : FuncData} (F : DefC K ("law", none) "law" "law" s_law [] fd) : FnOk P w K mg base (L2.CX P w) 11 (He.fAd K ("law", none)) fd ["script"] (spLaw K) := by
  refine F.ok sc_law (fun vs H Q E h => ?_) (fun A outer s H vs Q E hr h => ?_)
  · obtain ⟨a, ns, rfl, _⟩ := h
    rfl
  · obtain ⟨sa, ns, rfl, hs, hT, hq⟩ := h
    have nn := sc_law.nd
    obtain ⟨tb, hb1, hb2⟩ := wround_ex (P := P) (w := w) (A := A) (outer := outer) (s := s) (H0 := H) (E := E) C hr
    have s1 := pl1 (P := P) (w := w) (f := He.fAd K ("law", none)) (cd := cdW K) (A := A) (outer := outer) (s := s) (H0 := H) (E := E) C hr
    have s2 := pl2 (P := P) (w := w) (f := He.fAd K ("law", none)) (cd := cdW K) (A := A) (outer := outer) (s := s) (H0 := H) (E := E) C hr
    have s3 := pl3 (P := P) (w := w) (f := He.fAd K ("law", none)) (cd := cdW K) (A := A) (outer := outer) (s := s) (H0 := H) (E := E) C hr
    have s4 := pl456 (P := P) (w := w) (A := A) (outer := outer) (s := s) (H0 := H) (E := E) C hr
    obtain ⟨tr, hr1, hr2⟩ := consR (st := pl 1) s1 (consR (st := pl 2) s2 (consR (st := pl 3) s3 s4))
    refine ⟨_, C8.pss_cut (ps_for (body := WB) ownsA rfl (pi_list (pe_cx (ok_rounds (P := P) (w := w) C) hr (by decide) rfl passA (pa_cons (pv 0) (pa_cons pe_int pa_nil)))) (pg_name (i := 1) nn rfl (by first | exact Or.inl rfl | exact Or.inr rfl)) hb1) hr1, ?_⟩
    refine ⟨fun σ' H' => P0 K σ' H', ?_, fun σ' H' z => hr2 _ σ' H' z hq⟩
    refine ⟨_, rfl, sa, ns, rfl, hs, hT, fun H2 p d x y z L2 hp hd hdn => ?_⟩
    have hpd : p ≠ d := fun e => by rw [e, hd] at hp; cases hp
    have base0 : Lx K p d (hid H2 [d]) H2 := ⟨⟨hid_no (by simp), hid_le L2.tab, x, y, z, hd⟩, hid_at hp (by simpa using hpd)⟩
    refine ⟨p, rfl, ⟨_, SqL.of hp⟩, ?_⟩
    refine for_list (xs := [V.ref d]) (fun i σ H' => σ.length = 19 ∧ Tabs (T K) H' ∧ H' p = some (.lst [.ref d]) ∧ (i = 0 → H' = H2)) ⟨rfl, L2.tab, hp, fun _ => rfl⟩ (fun i σ H' _ hP => SqL.of hP.2.2.1) (fun i x' σ H' hx hP => ?_) (fun σ H' hP => ⟨hP.1, hP.2.1⟩)
    cases i with
    | succ i => cases hx
    | zero =>
      cases Option.some.inj hx
      obtain ⟨hl, _, _, e⟩ := hP
      have e := e rfl
      subst e
      refine hb2 p d _ _ _ ⟨hid H' [d], ?_, ?_, base0⟩ (fun σ' H3 hM => ⟨hM.1, hM.2.1, hM.2.2, fun z => by cases z⟩)
      · rw [List.length_set]; exact hl
      · exact at_self (by rw [hl]; decide)
end
section
abbrev lawLevel : Nat := 11
def lawCX (w : World) : CXT := _root_.L2.CX (PySem.Challenge.rw_signalstack_k02_towers_that_see).prog w
theorem law_noexc (w : World) (H : Hp) (s : Shared) (e : Value) (s' : Shared) (h : lawCX w [] H s (fun _ _ _ => False) e s') : False := by
  obtain ⟨_, _, _, _, _, _, _, _, _, _, _, _, z⟩ := h
  exact z
theorem law_at {w : World} {K : PySem.W.Frag} {mg : Str → Option Value} {fa' : Addr} {h : Heap} (KX : K.In h) (G : h.Ns mainGlobals mg) (hmg : mg ("law" : Str) = some (.ref fa')) (c : He.SaysX fa fn [] tf ex w h K) : LawAtS PySem.Challenge.rw_signalstack_k02_towers_that_see w K (lawCX w) lawLevel 63 "script" mg fa' h := by
  have t := txt_of KX G c.t.d
  have d := defs_of c.t.d
  obtain ⟨fd, F⟩ := d.d_law
  have e := hmg.symm.trans t.m_law
  obtain rfl : fa' = He.fAd K ("law", none) := by
    have := Option.some.inj e
    exact Value.ref.inj this
  have b := FunD.bindsA (ps := ["script"]) F.funD fun _ _ _ _ _ _ us hl => (match us, hl with | [_], _ => rfl)
  refine ⟨fd, tf.map (He.cT K), spLaw K, fun p hp => ?_, fun p hp => ?_, fun p hp => ?_, fun s u => b s [u] rfl, fun H a ns _ _ hH hS => ⟨a, ns, rfl, hS, fun p hp => ?_, fun _ => rfl⟩, fun bs hb hg hT => ok_law ⟨t, d, fun p hp => hT _ (List.mem_map.mpr ⟨p, hp, rfl⟩), c.more⟩ F⟩
  · obtain ⟨q, hq, rfl⟩ := List.mem_map.mp hp
    exact c.empty q hq
  · obtain ⟨q, hq, rfl⟩ := List.mem_map.mp hp
    exact c.out q hq
  · obtain ⟨q, hq, rfl⟩ := List.mem_map.mp hp
    exact PySem.W.codeHd_of_K KX (c.hd q hq)
  · obtain ⟨q, hq, rfl⟩ := List.mem_map.mp hp
    exact TabS.nil (hH _ (List.mem_map.mpr ⟨q.1, List.mem_map.mpr ⟨q, hq, rfl⟩, rfl⟩))
end
end K2

-- text K2Head
set_option maxRecDepth 100000
set_option maxHeartbeats 0
namespace K2
open PySem PySem.Spec PyProof.Rows L2 LamX
abbrev Rw : PySem.W.OpenRow := PySem.W.OpenLaw.row PySem.Challenge.rw_signalstack_k02_towers_that_see
abbrev hk : PySem.W.Hook := He.hookX 4 fa fn [] tf ex
def ob (s : PySem.W.SharedT) : He.AlX := He.obsX 4 fa fn [] tf ex (HandSHeadRun.getT s)
theorem ob_eq (s : PySem.W.SharedT) : ob s = hk.obs s.abs := He.obsX_eq (HandSHeadRun.getT_eq s)
def lo : List PySem.Str := (["__name__", "SignalError", "TowerError", "MOST_SIDE", "MOST_TOWERS", "Land", "between", "nearest", "Net", "link_key", "joined_rows", "_law_dice"] : List PySem.Str) ++ (["_law_roll", "_law_rounds", "_law_told", "_law_sees", "_law_groups", "_law_sets", "_law_net"] : List PySem.Str)
theorem run (w : World) : HandSHeadRun.RunEq Rw (PySem.W.view Rw.prog [21]) hk ob 3000 lo w := by
  intro os
  kernel_rfl
end K2
open PySem PySem.W PySem.Calls PyProof.Rows
theorem PySem.Challenge.cw_signalstack_k02_towers_that_see_holds : PySem.Challenge.rw_signalstack_k02_towers_that_see.Holds := by
  w_on; o_law
  refine HandSHeadRun.head_any (r := OpenLaw.row PySem.Challenge.rw_signalstack_k02_towers_that_see) (q := view (OpenLaw.row PySem.Challenge.rw_signalstack_k02_towers_that_see).prog [21]) (H := K2.hk) (ob := K2.ob) (M := 3000) (loose := K2.lo) (d := HandSHeadRun.topDef (OpenLaw.row PySem.Challenge.rw_signalstack_k02_towers_that_see).prog 21) (kwd := []) K2.ob_eq
    (by kernel_rfl) (fun s => by kernel_rfl) K2.run (by kernel_rfl) (by kernel_rfl) (by kernel_rfl) (by rfl) (by first | assumption | decide +kernel) (by decide +kernel) ⟨rfl, rfl, rfl, rfl, rfl, by decide +kernel⟩ ?hw ?hc
  case hw => w_witness2
  case hc =>
    refine LamX.walk_ofTsE (l := PySem.Challenge.rw_signalstack_k02_towers_that_see) (n := 63) (k := K2.lawLevel) (x := "script") (CX := K2.lawCX) rfl (by decide) (by kernel_rfl) ⟨rfl, by decide, by decide⟩ ?F (fun w H s e s' z => K2.law_noexc w H s e s' z)
    intro w mg fa h Y G hmg0
    obtain ⟨K, KX, c⟩ := Y
    have hmg : mg ("law" : PySem.Str) = some (.ref fa) := by
      have e : (HandSHeadRun.topDef (OpenLaw.row PySem.Challenge.rw_signalstack_k02_towers_that_see).prog 21).name = ("law" : PySem.Str) := by kernel_rfl
      rw [← e]
      exact hmg0
    exact ⟨K, KX, K2.law_at KX G hmg c⟩

