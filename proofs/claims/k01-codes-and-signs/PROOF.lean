import PyProof.Rows.All
import Wide.All
import OpenK.AllK
import Wide.FinOn
import HandS.ForMost
import HandS.AnyAll
import HandS.Lambda
import HandS.GenList
import PyProof.CodeObjX
import PyProof.ConsumeS
import PyProof.TupleOfGen
import HandS.ForExc
import HandS.EndTab
import HandS.HeadHook4
import HandS.HeadNt
import HandS.Head0
import HandS.Head1
import HandS.Head2
import HandS.HeadHook1
import HandS.HeadHook2
import HandS.HeadHook3
import HandS.HeadWalk
import HandS.Defaults
import KE.GoesNew
import HandS.DictComp
import HandS.Flow
import HandS.Style
import HandS.Conv
import HandS.StrMore
import HandS.FStr
import HandS.NoneIn
import HandS.Codes
import PyProof.WalkInts
import HandS.Iter
import HandS.Dict
import HandS.More
import KE.SortKeyHeap
import KE.SortUse
import HandS.SortKw
import HandS.WordsDict
import HandS.Sort
import PyProof.ListStr
import HandS.Strs
import PyProof.Rows.StrSplitAre
import PyProof.Rows.StrItems
import HandS.Wide
import KE.GoesEnum
import HandS.HeadEnd
import PySem.Challenge.RW_signalstack_k01_codes_and_signs
set_option Elab.async false
set_option linter.all false
-- text GenR
set_option maxRecDepth 100000
set_option maxHeartbeats 4000000
/-! GenR: a generator expression handed to a built-in, its element any expression that the layer serves. -/
namespace GX
open PySem PySem.Spec PyProof.Rows L2 LamX

/-- the names of a generator expression's own frame -/
structure GSc (N : List Str) (sc scope : Scope) (own : List (Str × Nat)) : Prop where
  blk : BlkOk N sc scope own
  co : scope.isCoroutine = false
  cell : ∀ y ∈ scope.names, y.2 ≠ .cell
  dot : scope.names.lookup (".0" : Str) = some NameKind.local

def gscB (scope : Scope) : Bool := !scope.isCoroutine && (scope.names.all fun y => !decide (y.2 = .cell)) && decide (scope.names.lookup (".0" : Str) = some NameKind.local)
theorem gsc_by {N : List Str} {sc scope : Scope} {own : List (Str × Nat)} (b : BlkOk N sc scope own) (h : gscB scope = true) : GSc N sc scope own := by
  unfold gscB at h
  simp only [Bool.and_eq_true, Bool.not_eq_true', List.all_eq_true, decide_eq_true_eq, decide_eq_false_iff_not] at h
  exact ⟨b, h.1.1, fun y hy => h.1.2 y hy, h.2⟩

abbrev gEnv (X : Cx) (scope : Scope) (C : Addr) (code : Value) : Env := genEnv scope (cloFrom X.env.cells scope.names []) C code builtinsNs X.env
/-- the frame of a generator expression that was made at s, run from A under the frames outer -/
def gcx (X : Cx) (A : Around) (s : Shared) (H : Hp) (scope : Scope) (code : Value) (ex : List Addr) : Cx :=
  { X with A := A.deeper (gEnv X scope s.heap.objs.size code), s_0 := s, H_0 := H, env := gEnv X scope s.heap.objs.size code, outer := X.stack, stack := gEnv X scope s.heap.objs.size code :: X.stack,
           ex := ex, fn := fun _ => false, calm := true, pn := [], xe := fun _ _ => False }

theorem over_gen {A : Around} {elt : Expr} {gs : List Comprehension} {scope : Scope} {pos : Pos} {it acc : Value} {env : Env} : A.over (.compLoop (.GeneratorExp elt gs scope pos) 0 it acc env) [] = A.deeper env := by
  first
    | rfl
    | (obtain ⟨a, b, c, d, e⟩ := A; simp [Around.over, Around.deeper, marksOver, frameCount, unitsOf, envsOf, guardsOf, pushEnvs, pushGuards, Code.envs, Code.env?, Code.isFrame, Code.guards, Code.isGuard, Code.weight, Code.frames, Code.isCreation, Code.isCaller, Code.cUnits])
theorem over_genStart {A : Around} {elt : Expr} {gs : List Comprehension} {scope : Scope} {pos : Pos} {it acc : Value} {env : Env} : A.over (.compStart (.GeneratorExp elt gs scope pos) 0 it acc env) [] = A.deeper env := by
  first
    | rfl
    | (obtain ⟨a, b, c, d, e⟩ := A; simp [Around.over, Around.deeper, marksOver, frameCount, unitsOf, envsOf, guardsOf, pushEnvs, pushGuards, Code.envs, Code.env?, Code.isFrame, Code.guards, Code.isGuard, Code.weight, Code.frames, Code.isCreation, Code.isCaller, Code.cUnits])

section
variable {X : Cx} {pins : List (Addr × Obj)} {σ : L2.St} {H : Hp} {s s5 : Shared}

/-- the frame is ready: what the generator's own context knows when it was made (s: ahead of its frame's dict; s5: behind) -/
theorem gen_start {A : Around} {scope : Scope} {own : List (Str × Nat)} {fp : List Addr} {code : Value} {m : Str → Option Value} (I : Inv X pins σ H s) (ok : GSc X.N X.env.scope scope own) (hN : X.N.Nodup) (hd : A.handled = none) (hfr : A.frames = some X.stack)
    (hfp : ∀ b ∈ fp, FpOk X pins H b ∧ b < s.heap.objs.size) (hns : s5.heap.Ns s.heap.objs.size m) (kp : ∀ b o, s.heap.get? b = some o → s5.heap.get? b = some o) (hos : s5.os = s.os) (hb : AllBare s5.gens) :
    Inv (gcx X A s H scope code fp) [] (wipe σ (own.map (·.2))) H s5 := by
  have hfree : ∀ y ∈ scope.names, y.2 = .free → ∃ c, X.env.cells.lookup y.1 = some c := fun y hy e => by
    rcases ok.blk.free y hy e with k | k
    · exact I.ok.has _ (.inl k)
    · exact I.ok.has _ (.inr k)
  have cm : ∀ {y c}, (cloFrom X.env.cells scope.names []).lookup y = some c → X.env.cells.lookup y = some c ∧ c < s.heap.objs.size := fun {y c} e => by
    rcases cloFrom_mem (PySem.mem_of_lookup e) with hm | ⟨h1, h2⟩
    · cases hm
    · obtain ⟨c1, hc⟩ := hfree _ h1 rfl
      have hc : X.env.cells.lookup y = some c1 := hc
      have e2 : c = c1 := by rw [h2, hc] <;> rfl
      subst e2
      obtain ⟨w, z⟩ := I.cell _ _ hc
      exact ⟨hc, z.lt⟩
  have look : ∀ {y}, scope.names.lookup y = some .free → ∃ c, (cloFrom X.env.cells scope.names []).lookup y = some c := fun {y} hl =>
    mem_lookup (cloFrom_has (cells := X.env.cells) (acc := []) (show (y, NameKind.free) ∈ scope.names from PySem.mem_of_lookup hl))
  have cellK : ∀ {c : Addr} {v : Option Value}, s.heap.IsCell c v → s5.heap.IsCell c v := fun {c v} ⟨o, ho, hd⟩ => ⟨o, kp _ _ ho, hd⟩
  refine ⟨⟨I.ok.mod, ok.blk.kind, I.ok.glob, rfl, Nat.le_refl _, fun y z c e1 e2 => I.ok.inj y z c (cm e1).1 (cm e2).1, fun y hy => ?_, fun y c z _ => ?_, fun _ => hd, Around.frames_deeper hfr, .inr ⟨rfl, rfl⟩,
      fun b hb => ⟨Nat.ne_of_lt (hfp b hb).2, fun y c e => (hfp b hb).1.2.2.2.2.1 y c (cm e).1⟩, I.bs, Nat.le_trans I.ok.bsz I.sz, fun b o e hb => ?_, fun b hb z => ?_, I.stack, I.stkFree⟩,
    hos, hb, Un.kept kp, ⟨m, hns, fun i y v e1 e2 e3 => ?_⟩, fun y c e => ?_, I.hok.fresh (Nat.le_refl _), fun y c e => I.freeC y c (cm e).1, fun p hp => absurd (show p ∈ ([] : List (Addr × Obj)) ++ [] from hp) (by simp), I.hok.kept kp, by rw [wipe_length]; exact I.len⟩
  · have hy : scope.names.lookup y = some .cell ∨ scope.names.lookup y = some .free := hy
    rcases hy with hy | hy
    · exact absurd rfl (ok.cell _ (PySem.mem_of_lookup hy))
    · exact look hy
  · have z : false = true := z
    cases z
  · rcases (hfp b hb).1.2.2.2.1 with z | z
    · exact I.ok.noex b o e z
    · exact absurd (Nat.lt_of_lt_of_le (Heap.lt_size e) (Nat.le_trans I.ok.bsz z)) (Nat.lt_irrefl _)
  · have z : b ∈ frs X.stack := z
    rcases List.mem_cons.mp (I.stkSub b z) with z | z
    · exact (hfp b hb).1.2.1 z
    · exact (hfp b hb).1.2.2.1 z
  · obtain ⟨e2, hne⟩ := wipe_some e2
    have e3 : Vis scope y := e3
    have no : ∀ k, (y, k) ∈ scope.names → k = .local ∨ k = .cell → False := fun k hk hh => by
      rcases ok.blk.own _ hk hh with e' | e'
      · obtain ⟨p, hp, hpy⟩ := List.mem_map.mp e'
        have e4 := ok.blk.ix p hp
        have : p.1 = y := hpy
        rw [this] at e4
        exact hne (List.mem_map.mpr ⟨p, hp, nodup_ix hN e4 e1⟩)
      · exact e' (List.mem_of_getElem? e1)
    rcases e3 with k | k | k
    · exact (no _ (PySem.mem_of_lookup k) (.inl rfl)).elim
    · exact (no _ (PySem.mem_of_lookup k) (.inr rfl)).elim
    · obtain ⟨m2, hn2, hl⟩ := I.loc
      have hvis : Vis X.env.scope y := (ok.blk.free _ (PySem.mem_of_lookup k) rfl).elim (fun k => .inr (.inl k)) (fun k => .inr (.inr k))
      obtain ⟨w', r, q⟩ := hl i y v e1 e2 hvis
      obtain ⟨c2, h2⟩ := look k
      refine ⟨w', r, .inr ⟨.inr k, c2, h2, ?_⟩⟩
      have c1 := (cm h2).1
      rcases q with ⟨k', _⟩ | ⟨_, c3, e', z⟩
      · have k' : X.env.scope.names.lookup y = some .local := k'
        rcases ok.blk.free _ (PySem.mem_of_lookup k) rfl with k2 | k2 <;> rw [show X.env.scope.names.lookup y = _ from k2] at k' <;> cases k'
      · rw [c1] at e'
        cases e'
        exact cellK z
  · obtain ⟨w', z⟩ := I.cell y c (cm e).1
    exact ⟨w', cellK z⟩

/-- back in the frame that made it -/
theorem gen_back {A : Around} {scope : Scope} {fp : List Addr} {code : Value} {ps : List (Addr × Obj)} {σ' : L2.St} {H' : Hp} {s1 s2 : Shared} (I : Inv X pins σ H s) (J : Inv (gcx X A s H scope code fp) ps σ' H' s1)
    (hfp : ∀ b ∈ fp, FpOk X pins H b) (ho : s2.os = s1.os) (kp : ∀ b o, s1.heap.get? b = some o → s2.heap.get? b = some o) (hb : AllBare s2.gens) : Inv X pins σ H' s2 :=
  I.call' (ch := fp) (ho.trans J.os) (J.base.trans (Un.kept kp)) (J.hok.kept kp) hb fun b hb => ⟨(hfp b hb).2.2.2.1, (hfp b hb).2.1, (hfp b hb).2.2.2.2.1, (hfp b hb).2.2.2.2.2⟩
end

/-! ### the turns -/
/-- what does not change while the generator lives: its object a (go), the consumer's own list S, the state s and the heap H when it was made -/
structure GD where
  X : Cx
  A : Around
  s : Shared
  H : Hp
  scope : Scope
  code : Value
  fp : List Addr
  a : Addr
  go : Obj
  g : Nat
  S : Addr
  σ : L2.St
abbrev GD.cx (G : GD) : Cx := gcx G.X G.A G.s G.H G.scope G.code G.fp
/-- asleep between two turns -/
def GD.at (G : GD) (H : Hp) (s : Shared) : Prop := ∃ oS : Obj, (∀ v, oS.data ≠ .cell v) ∧ Inv G.cx [(G.a, G.go), (G.S, oS)] G.σ H s
/-- the consumer's doing between two turns: S may change, the table of generators too -/
structure GD.Rs (G : GD) (s s' : Shared) : Prop where
  os : s'.os = s.os
  bare : AllBare s'.gens
  keep : ∀ b o, b ≠ G.S → s.heap.get? b = some o → s'.heap.get? b = some o
  ga : s'.heap.get? G.a = some G.go
  gs : ∃ o, s'.heap.get? G.S = some o ∧ ∀ v, o.data ≠ .cell v
theorem GD.at.facts {G : GD} {H : Hp} {s : Shared} (h : G.at H s) : H G.S = none ∧ G.S ≠ G.cx.env.locals ∧ G.S ∉ G.cx.fs ∧ H G.a = none ∧ s.heap.get? G.a = some G.go ∧ ∃ oS : Obj, s.heap.get? G.S = some oS ∧ ∀ v, oS.data ≠ .cell v := by
  obtain ⟨oS, hc, I⟩ := h
  obtain ⟨h1, h2, h3, h4, _⟩ := I.pin (G.S, oS) (List.mem_append_right _ (List.mem_cons_of_mem _ List.mem_cons_self))
  obtain ⟨g1, g2, _⟩ := I.pin (G.a, G.go) (List.mem_append_right _ List.mem_cons_self)
  exact ⟨h2, h3, h4, g2, g1, oS, h1, hc⟩
theorem GD.at.woken {G : GD} {H : Hp} {s s' : Shared} (h : G.at H s) (hS : G.s.heap.objs.size ≤ G.S) (r : G.Rs s s') : G.at H s' := by
  obtain ⟨hS0, hSL, hSf, ha0, _, _⟩ := h.facts
  obtain ⟨oS, hc, I⟩ := h
  obtain ⟨o', ho', hc'⟩ := r.gs
  have I0 : Inv G.cx [] G.σ H s := I.pins_of fun p hp => by cases hp
  have nc : ∀ b, b ∉ [G.S] → b ≠ G.S := fun b hb e => hb (by rw [e]; exact List.mem_singleton.mpr rfl)
  have nS : ∀ b u, H b = some u → b ≠ G.S := fun b u e z => by rw [z, hS0] at e; cases e
  have cellS : ∀ x c, G.cx.env.cells.lookup x = some c → c ≠ G.S := fun x c e z => by
    obtain ⟨v, o, ho, hd⟩ := I.cell x c e
    obtain ⟨q1, _, _, _, q5⟩ := I.pin (G.S, oS) (List.mem_append_right _ (List.mem_cons_of_mem _ List.mem_cons_self))
    rw [z, q1] at ho
    cases ho
    exact q5 v hd
  have hok : HOk G.cx.prog G.cx.w H s'.heap := fun b u e => (I0.hok b u e).stay (fun c v hcb q => r.keep c v (by
      rcases hcb with z | z
      · rw [z]; exact nS b u e
      · exact nS c _ z) q) (fun _ q => q) fun _ _ q => q
  have J : Inv G.cx [] G.σ H s' := by
    refine I0.call' (ch := [G.S]) r.os ?_ hok r.bare fun b hb => ?_
    · refine ⟨fun b o e _ _ hx => r.keep b o (nc b hx) e, fun b o e _ _ hx => ⟨o.slots, r.keep b o (nc b hx) e⟩, fun _ _ _ n _ => n, fun b o e hx => ⟨o, r.keep b o (nc b hx) e⟩, fun _ _ q => q, fun _ _ _ q => q, fun b ps q => ⟨#[], by rw [q]; simp⟩⟩
    · rw [List.mem_singleton.mp hb]
      exact ⟨.inr hS, hSL, cellS, fun p hp => absurd (show p ∈ ([] : List (Addr × Obj)) ++ [] from hp) (by simp)⟩
  refine ⟨o', hc', J.pins_of fun p hp => ?_⟩
  obtain ⟨q1, q2, q3, q4, q5⟩ := I.pin (G.a, G.go) (List.mem_append_right _ List.mem_cons_self)
  rcases List.mem_cons.mp hp with z | z
  · rw [z]
    exact ⟨r.ga, q2, q3, q4, q5⟩
  · rw [List.mem_singleton.mp z]
    exact ⟨ho', hS0, hSL, hSf, hc'⟩

/-- one turn's promise: i the turn, ys what is out -/
structure Turns (G : GD) (J : It) (g : TG) (te : TE) (vs : List Nat) (n₀ : Nat) (W : Nat → List V → Hp → Prop) (Yd : Nat → List V → V → Hp → Prop) (Ct : Nat → List V → V → Prop) (Po : Nat → List V → V → Hp → Prop) : Prop where
  step : ∀ i ys H, i < n₀ → W i ys H → J.go i H ∧ ∀ x H', J.yld i H x H' → g x G.σ H' fun σ2 H2 => wipe σ2 vs = G.σ ∧ te σ2 H2 fun y H4 => Po i ys y H4
  post : ∀ i ys y H, i < n₀ → Po i ys y H → Yd i ys y H ∧ (Ct i ys y → W (i + 1) (ys ++ [y]) H)
  stop : ∀ ys H, W n₀ ys H → J.stop n₀ H

/-- an item is out -/
def GD.Y (G : GD) (tn : Nat → Heap → Prop) (n₀ : Nat) (Gh : Nat → Shared → List V → Prop) (Yd : Nat → List V → V → Hp → Prop) (Ct : Nat → List V → V → Prop) : Protocol := fun n s₀ v s kap =>
  ∃ i ys y H, i + n = n₀ ∧ i < n₀ ∧ Gh i s₀ ys ∧ RelV y v ∧ G.at H s ∧ (∀ o, s₀.heap.get? G.S = some o → s.heap.get? G.S = some o) ∧ Yd i ys y H ∧
    ∀ s', G.Rs s s' → Ct i ys y → Gh (i + 1) s' (ys ++ [y]) → kap (.send .none) s'
/-- the end -/
def GD.E (G : GD) (n₀ : Nat) (Gh : Nat → Shared → List V → Prop) (W : Nat → List V → Hp → Prop) : Nat → Shared → Shared → Prop := fun n s₀ s =>
  n = 1 ∧ ∃ ys H, Gh n₀ s₀ ys ∧ G.at H s ∧ (∀ o, s₀.heap.get? G.S = some o → s.heap.get? G.S = some o) ∧ W n₀ ys H

section
variable {G : GD} {tg iter elt : Expr} {pos : Pos} {own : List (Str × Nat)} {J : It} {g : TG} {te : TE} {it : Addr} {tn : Nat → Heap → Prop} {n₀ : Nat} {Gh : Nat → Shared → List V → Prop} {W : Nat → List V → Hp → Prop} {Yd : Nat → List V → V → Hp → Prop} {Ct : Nat → List V → V → Prop} {Po : Nat → List V → V → Hp → Prop}

theorem thnZ {α : Type} {t : Sem α} {Q Q' : α → Shared → Prop} {M : Model} {A : Around} {E : Value → Shared → Prop} {s : Shared} (h : wpAny M A t Q (fun _ _ => False) s) (hQ : ∀ a s, Q a s → Q' a s) : wpAny M A t Q' E s := wpAny_mono h hQ fun _ _ z => False.elim z

theorem seg_turns (T : Turn G.X.prog G.X.w G.X.K tg J G.fp it tn) (hg : PG G.cx tg g) (he : PE G.cx elt te) (hco : G.scope.isCoroutine = false) (hfp : ∀ b ∈ G.fp, b < G.s.heap.objs.size) (haS : ∀ b ∈ G.fp, b ≠ G.a ∧ b ≠ G.S) (hS : G.s.heap.objs.size ≤ G.S)
    (hσ : wipe G.σ (own.map (·.2)) = G.σ) (P : Turns G J g te (own.map (·.2)) n₀ W Yd Ct Po) :
    ∀ (n i : Nat) (s₀ s : Shared) (ys : List V) (H : Hp), i + n = n₀ + 1 → i ≤ n₀ → Gh i s₀ ys → G.at H s → tn i s.heap → (∀ b ∈ G.fp, H b = none) → (∀ o, s₀.heap.get? G.S = some o → s.heap.get? G.S = some o) → W i ys H →
      Seg (model G.X.prog G.X.w) G.A (fun n s₀ r s₁ => r = .ok .next ∧ G.E n₀ Gh W n s₀ s₁) (G.Y tn n₀ Gh Yd Ct) n s₀
        (.compLoop (.GeneratorExp elt [⟨tg, iter, [], 0⟩] G.scope pos) 0 (.ref it) .none G.cx.env) ((model G.X.prog G.X.w).den (.compLoop (.GeneratorExp elt [⟨tg, iter, [], 0⟩] G.scope pos) 0 (.ref it) .none G.cx.env)) [] s := by
  have hov : G.A.over (.compLoop (.GeneratorExp elt [⟨tg, iter, [], 0⟩] G.scope pos) 0 (.ref it) .none G.cx.env) [] = G.cx.A := over_gen
  have fpok : ∀ {oS : Obj} {σ' : L2.St} {H' : Hp} {s' : Shared}, Inv G.cx [(G.a, G.go), (G.S, oS)] σ' H' s' → (∀ b ∈ G.fp, H' b = none) → ∀ b ∈ G.fp, FpOk G.cx [(G.a, G.go), (G.S, oS)] H' b := fun {oS σ' H' s'} I' hn b hb =>
    ⟨hn b hb, (I'.ok.exf b hb).1, I'.ok.exfs b hb, .inl hb, fun x c e => (I'.ok.exf b hb).2 x c e, fun p hp => by
      have hp : p ∈ [(G.a, G.go), (G.S, oS)] := hp
      rcases List.mem_cons.mp hp with z | z
      · rw [z]; exact fun q => (haS b hb).1 q.symm
      · rw [List.mem_singleton.mp z]; exact fun q => (haS b hb).2 q.symm⟩
  intro n
  induction n with
  | zero =>
    intro i s₀ s ys H hi hle hgh hat ht hn hkS hw
    exact absurd hi (by omega)
  | succ n ih =>
    intro i s₀ s ys H hi hle hgh hat ht hn hkS hw
    by_cases hin : i = n₀
    · subst hin
      show Seg _ G.A _ _ _ s₀ _ ((compTurn (.GeneratorExp elt [⟨tg, iter, [], 0⟩] G.scope pos) 0 (.ref it) .none G.cx.env).onRaise (leaving G.cx.env)) [] s
      rw [compTurn_gen, Sem.onRaise_eq_wrap]
      refine seg_bind_wrap (wpAny_standAt ?_)
      obtain ⟨oS, hc, I⟩ := hat
      have td := T.done G.cx rfl rfl rfl rfl i _ s _ H (fun _ _ => False) I (fpok I hn) ht (P.stop ys H hw)
      refine seg_bind_wrap ?_
      rw [hov]
      refine thnZ td fun r s6 ⟨hr, I6⟩ => ?_
      subst hr
      have pS := (I.pin (G.S, oS) (List.mem_append_right _ (List.mem_cons_of_mem _ List.mem_cons_self))).1
      have pS6 := (I6.pin (G.S, oS) (List.mem_append_right _ (List.mem_cons_of_mem _ List.mem_cons_self))).1
      refine seg_end (.ok .next) ⟨rfl, by omega, ys, H, hgh, ⟨oS, hc, I6⟩, fun o ho => ?_, hw⟩
      have := hkS o ho
      rw [pS] at this
      rw [← this]
      exact pS6
    obtain ⟨hgo, hst⟩ := P.step i ys H (by omega) hw
    show Seg _ G.A _ _ _ s₀ _ ((compTurn (.GeneratorExp elt [⟨tg, iter, [], 0⟩] G.scope pos) 0 (.ref it) .none G.cx.env).onRaise (leaving G.cx.env)) [] s
    rw [compTurn_gen, Sem.onRaise_eq_wrap]
    refine seg_bind_wrap (wpAny_standAt ?_)
    obtain ⟨oS, hc, I⟩ := hat
    have ti := T.item G.cx rfl rfl rfl rfl i _ s _ H (fun _ _ => False) I (fpok I hn) ht hgo
    refine seg_bind_wrap ?_
    rw [hov]
    refine thnZ ti fun r s6 ⟨u, hr, h6⟩ => ?_
    subst hr
    refine seg_bind_wrap ?_
    rw [hov]
    refine thnZ h6 fun _ s7 ⟨x, H7, I7, r7, y7, st7, n7⟩ => ?_
    have I7' := I7.pinned (fpok I7 n7) (T.obj _ _ st7)
    refine seg_bind_wrap ?_
    rw [hov]
    refine thnZ (hg.run _ s7 _ H7 x u _ I7' r7 (hst x H7 y7)) fun _ s8 ⟨σ8, H8, I8, hw8, q8⟩ => ?_
    refine seg_bind_wrap (wpAny_tests_nil ?_)
    have hy : ∀ v, yieldOut G.cx.env v = yieldValue v := fun v => by
      have hco' : G.cx.env.scope.isCoroutine = false := hco
      simp only [yieldOut, hco', Bool.false_eq_true, if_false]
    simp only [if_true, hy]
    rw [Sem.bind_eq_wrap', Sem.bind_eq_wrap', Sem.wrap_wrap, Sem.wrap_wrap]
    refine seg_wrap ?_
    rw [hov]
    refine thnZ (he.run _ s8 σ8 H8 _ I8 q8) fun v s9 ⟨yv, H9, I9, r9, hpo⟩ => ?_
    obtain ⟨hyd, hct⟩ := P.post i ys yv H9 (by omega) hpo
    have I9' : Inv G.cx [(G.a, G.go), (G.S, oS)] G.σ H9 s9 := (I9.unpinned (pins := [(G.a, G.go), (G.S, oS)])).weak (by rw [← hw8, wipe_length]) fun j v e => by
      rw [← hw8] at e
      exact (wipe_some e).1
    have pS := (I.pin (G.S, oS) (List.mem_append_right _ (List.mem_cons_of_mem _ List.mem_cons_self))).1
    have pS9 := (I9'.pin (G.S, oS) (List.mem_append_right _ (List.mem_cons_of_mem _ List.mem_cons_self))).1
    have A9 : G.at H9 s9 := ⟨oS, hc, I9'⟩
    have pin9 : ∀ b ∈ G.fp, ∀ o, s7.heap.get? b = some o → s9.heap.get? b = some o ∧ H9 b = none := fun b hb o e =>
      let z := I9.pin (b, o) (List.mem_append_right _ (List.mem_append_right _ (mem_pinsAt hb e)))
      ⟨z.1, z.2.1⟩
    have st9 : tn (i + 1) s9.heap := T.keep _ _ _ st7 fun b hb o e => (pin9 b hb o e).1
    have n9 : ∀ b ∈ G.fp, H9 b = none := fun b hb => by
      obtain ⟨o, e, _⟩ := T.obj _ _ st7 b hb
      exact (pin9 b hb o e).2
    refine seg_at (seg_yield rfl rfl rfl ⟨i, ys, yv, H9, by omega, by omega, hgh, r9, A9, fun o ho => ?_, hyd, fun s' hr hc' hgh' => ?_⟩)
    · have := hkS o ho
      rw [pS] at this
      rw [← this]
      exact pS9
    · have A' := A9.woken hS hr
      refine seg_again rfl (ih (i + 1) s' s' (ys ++ [yv]) H9 (by omega) (by omega) hgh' A' (T.keep _ _ _ st9 fun b hb o e => hr.keep b o (haS b hb).2 e) n9 (fun o ho => ho) (hct hc'))
end
end GX

-- text GenS
set_option maxRecDepth 100000
set_option maxHeartbeats 4000000
namespace GX
open PySem PySem.Spec PyProof.Rows L2 LamX
section
variable {X : Cx} {pins : List (Addr × Obj)} {σ : L2.St} {H : Hp} {s : Shared}

/-- what stands when a generator expression has been made -/
structure Made (X : Cx) (pins : List (Addr × Obj)) (σ : L2.St) (tg iter elt : Expr) (scope : Scope) (gpos : Pos) (J : It) (H2 : Hp) (it : Addr) (fp : List Addr) (tn : Nat → Heap → Prop) (code : Value) (a : Addr) (go : Obj) (g : Nat) (s4 s5 : Shared) : Prop where
  inv : Inv X pins σ H2 s4
  turn : Turn X.prog X.w X.K tg J fp it tn
  tn0 : tn 0 s5.heap
  fps : ∀ b ∈ fp, FpOk X pins H2 b ∧ b < s4.heap.objs.size
  ns : ∃ m, s5.heap.Ns s4.heap.objs.size m
  keep : ∀ b o, s4.heap.get? b = some o → s5.heap.get? b = some o
  os : s5.os = s4.os
  bare : AllBare s5.gens
  lt : s4.heap.objs.size < a
  ltS : a < s5.heap.objs.size
  ga : s5.heap.get? a = some go
  isG : ∀ h : Heap, h.get? a = some go → h.IsGen a g
  cellG : ∀ v, go.data ≠ .cell v
  gens : s5.gens[g]? = some (.fresh (.compStart (.GeneratorExp elt [⟨tg, iter, [], 0⟩] scope gpos) 0 (.ref it) .none (gEnv X scope s4.heap.objs.size code)))

theorem upd_none2 {H : Hp} {a b : Addr} {o : HO} (e : upd H a o b = Option.none) : H b = Option.none := by
  unfold upd at e
  split at e
  · cases e
  · exact e

theorem gen_make {T : List (Addr × Str)} {c P : Addr} {own : List (Str × Nat)} {tg iter elt : Expr} {scope : Scope} {gpos : Pos} {wi : TI} {R : It → Hp → Prop} {Q' : Value → Shared → Prop}
    (I : Inv X pins σ H s) (hi : PI X tg iter wi) (ok : GSc X.N X.env.scope scope own) (TB : TabB X.base X.mg c P) (hcode : X.env.code = .ref c) (hmT : (P, X.env.qual ++ "<genexpr>") ∈ T) (hu : ∀ p ∈ T, p.1 = P → p.2 = X.env.qual ++ "<genexpr>")
    (hroom : X.A.depth < recursionLimit) (hs : ∀ v, genFold iter X.env v = pure v) (h : wi σ H fun J H1 => Tabs T H1 ∧ R J H1)
    (hQ : ∀ J H1 H2 it fp tn code a go g s4 s5, R J H1 → ExtN H1 H2 → Tabs T H2 → (∀ b, H2 b = none → H1 b = none) → Made X pins σ tg iter elt scope gpos J H2 it fp tn code a go g s4 s5 → Q' (.ref a) s5) :
    wpAny (model X.prog X.w) X.A (eval (.GeneratorExp elt [⟨tg, iter, [], 0⟩] scope gpos) X.env) Q' X.xe s := by
  have hfree : ∀ y ∈ scope.names, y.2 = .free → ∃ c, X.env.cells.lookup y.1 = some c := fun y hy e => by
    rcases ok.blk.free y hy e with k | k
    · exact I.ok.has _ (.inl k)
    · exact I.ok.has _ (.inr k)
  refine wpAny_GeneratorExp_make ok.co (closure_ok hfree) ok.cell ok.dot ok.blk.kind hroom ?_ hs
  refine thn (hi.run pins s σ H _ I h) fun xv s1 hx => thn hx fun itv s2 h2 => ?_
  obtain ⟨it, fp, tn, J, H1, e, I2, Tn, st2, f2, hT, hR⟩ := h2
  subst e
  refine ⟨I2.nolimit, ?_⟩
  obtain ⟨ps, hP, ht, hall⟩ := hT _ hmT
  have hPs : s2.heap.get? P = some { cls := .none, data := .fields ps } := I2.hok P _ hP
  have hPlt : P < s2.heap.objs.size := Heap.lt_size hPs
  have cd : PySem.W.CodeHd s2.heap c P := TB.code.keeps I2.bk
  have hbm : s2.heap.BuiltinsAt X.mg P := TB.bm.keeps I2.bk
  -- what follows from the new code object on
  have cont : ∀ (code : Value) (H2 : Hp) (s3 : Shared), Inv X pins σ H2 s3 → ExtN H1 H2 → Tabs T H2 → (∀ b, H2 b = none → H1 b = none) → (∀ b o, b ≠ P → s2.heap.get? b = some o → s3.heap.get? b = some o) → (∀ b ∈ fp, H2 b = none) →
      wpAny (model X.prog X.w) X.A (builtinsFor X.env.globals X.env.builtins) (fun bi s₄ =>
        ∀ h', h'.Ns s₄.heap.objs.size (fun y => if y = ".0" then some (.ref it) else none) → Heap.SameBut s₄.heap.objs.size (s₄.heap.push { cls := .type "frame", data := .dict #[] }) h' →
          Q' (.ref h'.objs.size) { s₄ with
            gens := s₄.gens.push (.fresh (.compStart (.GeneratorExp elt [⟨tg, iter, [], 0⟩] scope gpos) 0 (.ref it) .none (genEnv scope (cloFrom X.env.cells scope.names []) s₄.heap.objs.size code bi X.env))),
            toks := s₄.toks + 1 + 1 + 1,
            heap := h'.push { cls := .type "generator", data := .fields #[.int s₄.gens.size 0, .str "<genexpr>" (s₄.toks + 1), .str (X.env.qual ++ "<genexpr>") (s₄.toks + 1 + 1)] } }) X.xe s3 := by
    intro code H2 s3 I3 hE hT3 hno kp3 nfp
    obtain ⟨bm, ob, e1, e2, e3, e4, e5, e6, e7, e8⟩ := TB.bm
    refine wpAny_builtinsFor (m := X.mg) (by rw [I3.ok.glob]; exact I3.mod.glob.keeps I3.bk) e1 e2 (I3.bk _ _ e5) e6 e7 e8 ?_
    intro h' hns hsb
    have sz' : h'.objs.size = s3.heap.objs.size + 1 := by rw [hsb.1, Heap.size_push]
    have kp4 : ∀ b o, s3.heap.get? b = some o → h'.get? b = some o := fun b o e => hsb.extBut b o (Nat.ne_of_lt (Heap.lt_size e)) (Heap.get?_push_of_some _ e)
    have kp5 : ∀ (go : Obj) b o, s3.heap.get? b = some o → (h'.push go).get? b = some o := fun go b o e => Heap.get?_push_of_some _ (kp4 b o e)
    have nP : ∀ b ∈ fp, b ≠ P := fun b hb z => by
      have := (f2 b hb).1
      rw [z, hP] at this
      cases this
    have fpL : ∀ b ∈ fp, b < s2.heap.objs.size := fun b hb => by
      obtain ⟨o, e, _⟩ := Tn.obj _ _ st2 b hb
      exact Heap.lt_size e
    have fpG : ∀ b ∈ fp, ∀ o, s2.heap.get? b = some o → s3.heap.get? b = some o := fun b hb o e => kp3 b o (nP b hb) e
    refine hQ J H1 H2 it fp tn code h'.objs.size _ s3.gens.size s3 _ hR hE hT3 hno
      ⟨I3, Tn, Tn.keep _ _ _ st2 fun b hb o e => kp5 _ b o (fpG b hb o e), fun b hb => ⟨⟨nfp b hb, (f2 b hb).2⟩, ?_⟩, ⟨_, hns.push _⟩, fun b o e => kp5 _ b o e, rfl, I3.bare.push rfl, ?_, ?_, Heap.get?_push_size _ rfl, fun h e => ⟨_, _, _, e, rfl, rfl, rfl⟩, ?_, Array.getElem?_push_size ..⟩
    · obtain ⟨o, e, _⟩ := Tn.obj _ _ st2 b hb
      exact Heap.lt_size (fpG b hb o e)
    · rw [sz']; exact Nat.lt_succ_self _
    · show h'.objs.size < (h'.push _).objs.size
      rw [Heap.size_push]; exact Nat.lt_succ_self _
    · intro v z
      cases z
  cases hf : codeAmong gpos ps.toList with
  | some cv =>
    refine wpAny_genexprCode_hit hcode (cd.code hPs ht) hf ?_
    exact cont cv H1 s2 I2 (ExtN.refl H1) hT (fun _ z => z) (fun _ _ _ e => e) fun b hb => (f2 b hb).1
  | none =>
    refine wpAny_genexprCodeX hcode (cd.code hPs ht) (cd.tab hPs) hf fun c' h' tk hx hge hlt hco' hrec htab' _ => ?_
    obtain ⟨c2, oc, vs, t, e2, hoc, hd, hv⟩ := hrec
    cases e2
    have nC : H1 c' = none := I2.hok.fresh hge
    have I3 := inv_table (t' := tk) (more := #[rawInt gpos.line, rawInt gpos.col, .ref c']) (h' := h') (q := X.env.qual ++ "<genexpr>") I2 hP (fun b o hb e => hx b o hb e) htab'.2 hge ⟨oc, vs, t, hoc, hd, hv⟩
    have hE : ExtN H1 (upd (upd H1 P (.tbl (ps ++ #[rawInt gpos.line, rawInt gpos.col, .ref c']))) c' (CodeO c' (X.env.qual ++ "<genexpr>"))) := fun b o e n => by
      rw [upd_ne (ne_of_none e nC), upd_ne (fun z => n ps (Option.some.inj (e.symm.trans (by rw [z]; exact hP))))]
      exact e
    have eL : (ps ++ #[rawInt gpos.line, rawInt gpos.col, .ref c']).toList = ps.toList ++ [rawInt gpos.line, rawInt gpos.col, .ref c'] := by simp
    refine cont (.ref c') _ _ I3 hE (fun p hp => ?_) (fun b e => upd_none2 (upd_none2 e)) (fun b o hb e => hx b o hb e) fun b hb => ?_
    · by_cases hb : p.1 = P
      · rw [hu p hp hb, hb]
        refine ⟨_, by rw [upd_ne (ne_of_none hP nC), upd_same], by rw [eL]; exact PySem.TriplesOk_snoc _ _ _ _ ht, fun p' cv hcv => ?_⟩
        rw [eL] at hcv
        rcases among_app _ ht hcv with z | z
        · obtain ⟨c0, q1, q2⟩ := hall p' cv z
          exact ⟨c0, q1, hE _ _ q2 codeO_ne⟩
        · exact ⟨c', z, upd_same⟩
      · obtain ⟨ps', a1, a2, a3⟩ := hT p hp
        refine ⟨ps', by rw [upd_ne (ne_of_none a1 nC), upd_ne hb]; exact a1, a2, fun p' cv hcv => ?_⟩
        obtain ⟨c0, q1, q2⟩ := a3 p' cv hcv
        exact ⟨c0, q1, hE _ _ q2 codeO_ne⟩
    · have hl : b < s2.heap.objs.size := by
        obtain ⟨o, e, _⟩ := Tn.obj _ _ st2 b hb
        exact Heap.lt_size e
      have n1 : b ≠ c' := Nat.ne_of_lt (Nat.lt_of_lt_of_le hl hge)
      have n2 : b ≠ P := fun z => by
        have := (f2 b hb).1
        rw [z, hP] at this
        cases this
      rw [upd_ne n1, upd_ne n2]
      exact (f2 b hb).1
end
end GX

-- text GenU
set_option maxRecDepth 100000
set_option maxHeartbeats 4000000
namespace GX
open PySem PySem.Spec PyProof.Rows L2 LamX GenW
section
variable {G : GD} {tg iter elt : Expr} {pos : Pos} {own : List (Str × Nat)} {J : It} {g : TG} {te : TE} {it : Addr} {tn : Nat → Heap → Prop} {n₀ : Nat} {Gh : Nat → Shared → List V → Prop} {W : Nat → List V → Hp → Prop} {Yd : Nat → List V → V → Hp → Prop} {Ct : Nat → List V → V → Prop} {Po : Nat → List V → V → Hp → Prop}
/-- the first turn -/
theorem seg_first (T : Turn G.X.prog G.X.w G.X.K tg J G.fp it tn) (hg : PG G.cx tg g) (he : PE G.cx elt te) (hco : G.scope.isCoroutine = false) (hfp : ∀ b ∈ G.fp, b < G.s.heap.objs.size) (haS : ∀ b ∈ G.fp, b ≠ G.a ∧ b ≠ G.S) (hS : G.s.heap.objs.size ≤ G.S)
    (hσ : wipe G.σ (own.map (·.2)) = G.σ) (P : Turns G J g te (own.map (·.2)) n₀ W Yd Ct Po) {s : Shared} {ys : List V} {H : Hp} (hgh : Gh 0 s ys) (hat : G.at H s) (ht : tn 0 s.heap) (hn : ∀ b ∈ G.fp, H b = none) (hw : W 0 ys H) :
      Seg (model G.X.prog G.X.w) G.A (fun n s₀ r s₁ => r = .ok .next ∧ G.E n₀ Gh W n s₀ s₁) (G.Y tn n₀ Gh Yd Ct) (n₀ + 1) s
        (.compStart (.GeneratorExp elt [⟨tg, iter, [], 0⟩] G.scope pos) 0 (.ref it) .none G.cx.env) ((model G.X.prog G.X.w).den (.compStart (.GeneratorExp elt [⟨tg, iter, [], 0⟩] G.scope pos) 0 (.ref it) .none G.cx.env)) [] s := by
  have loop := seg_turns (iter := iter) (pos := pos) T hg he hco hfp haS hS hσ P (n₀ + 1) 0 s s ys H (Nat.zero_add _) (Nat.zero_le _) hgh hat ht hn (fun _ z => z) hw
  show Seg _ G.A _ _ _ s _ ((compStart (.GeneratorExp elt [⟨tg, iter, [], 0⟩] G.scope pos) 0 (.ref it) .none G.cx.env).onRaise (leaving G.cx.env)) [] s
  unfold compStart
  rw [Sem.onRaise_eq_wrap]
  show Seg _ G.A _ _ _ s _ ((ask >>= _).wrap _ _ _ _) [] s
  refine seg_bind_wrap (wpAny_askSetting ?_)
  split
  · exact seg_again rfl loop
  · first
      | exact seg_bind_wrap (wpAny_rule (seg_bind_wrap (wpAny_standAt (seg_bind_wrap (T.self _ 0 s _ _ ht (seg_again rfl loop))))))
      | (refine seg_bind_wrap (wpAny_rule ?_); show Seg _ G.A _ _ _ s _ ((standAt iter.pos >>= _).wrap _ _ _ _) [] s; exact seg_bind_wrap (wpAny_standAt (seg_bind_wrap (T.self _ 0 s _ _ ht (seg_again rfl loop)))))

/-- the generator as the consumer has it ahead of turn i -/
structure GD.Wait (G : GD) (tn : Nat → Heap → Prop) (n₀ : Nat) (Gh : Nat → Shared → List V → Prop) (W : Nat → List V → Hp → Prop) (Yd : Nat → List V → V → Hp → Prop) (Ct : Nat → List V → V → Prop) (n : Nat) (s : Shared) : Prop where
  ga : s.heap.get? G.a = some G.go
  lim : s.heap.NoLimit
  go : ∃ gs : GenState, s.gens[G.g]? = some gs ∧ gs.Goes (model G.X.prog G.X.w) G.A (fun n s₀ r s₁ => r = .ok .next ∧ G.E n₀ Gh W n s₀ s₁) (G.Y tn n₀ Gh Yd Ct) n (.send .none) (s.setGen G.g .running)
theorem setGen_at2 {s : Shared} {g : Nat} {x y : GenState} (h : s.gens[g]? = some y) : (s.setGen g x).gens[g]? = some x := setGen_self h
theorem bare_set {s : Shared} {g : Nat} {x : GenState} (h : AllBare s.gens) (hx : x.bare = true) : AllBare (s.setGen g x).gens := allBare_setGen h hx

/-- next(generator) -/
theorem next_gen {A : Around} {Q : Option Value → Shared → Prop} {E : Value → Shared → Prop} {s : Shared} {n : Nat} (hn0 : n ≠ 0) (hS : G.s.heap.objs.size ≤ G.S) (hA : G.A = A.in1) (hh : A.handled = none) (hr : A.depth < recursionLimit) (hiG : ∀ h : Heap, h.get? G.a = some G.go → h.IsGen G.a G.g) (w : G.Wait tn n₀ Gh W Yd Ct n s)
    (hY : ∀ i ys y v H s1 gs', i + n = n₀ + 1 → i < n₀ → Gh i (s.setGen G.g .running) ys → RelV y v → G.at H s1 → AllBare (s1.setGen G.g gs').gens → (∀ o, s.heap.get? G.S = some o → s1.heap.get? G.S = some o) → Yd i ys y H →
      (∀ s', G.Rs (s1.setGen G.g gs') s' → s'.gens = (s1.setGen G.g gs').gens → Ct i ys y → Gh (i + 1) (s'.setGen G.g .running) (ys ++ [y]) → G.Wait tn n₀ Gh W Yd Ct (n - 1) s') → Q (some v) (s1.setGen G.g gs'))
    (hP : ∀ ys H s1 s2, n = 1 → Gh n₀ (s.setGen G.g .running) ys → G.at H s1 → (∀ o, s.heap.get? G.S = some o → s1.heap.get? G.S = some o) → W n₀ ys H → s2.os = s1.os → AllBare s2.gens → (∀ b o, s1.heap.get? b = some o → s2.heap.get? b = some o) → Q none s2) :
    wpAny (model G.X.prog G.X.w) A (pyNext (.ref G.a)) Q E s := by
  obtain ⟨ga, lim, gs, hgs, hgo⟩ := w
  rw [hA] at hgo
  have hgl : G.g < s.gens.size := (Array.getElem?_eq_some_iff.mp hgs).1
  refine wpAny_gsz (n := G.g + 1) hgl (wpAny_pyNext_genexpQ (P := G.E n₀ Gh W) hh lim hr (hiG _ ga) hgs hgo (fun v s1 gs' hb hv => ?_) (fun s1 hp h' hk => ?_))
  · intro hsz
    obtain ⟨i, ys, y, H, hi, hlt, hgh, rv, hat, hkS, hyd, hkap⟩ := hv
    cases n with
    | zero => exact absurd rfl hn0
    | succ m =>
      have hsz1 : G.g < s1.gens.size := by
        have q : (s1.setGen G.g gs').gens.size = s1.gens.size := setGen_size _ _ _
        have hsz' : G.g + 1 ≤ (s1.setGen G.g gs').gens.size := hsz
        omega
      have hi' : i + (m + 1) = n₀ + 1 := by
        have : i + (m + 1 - 1) = n₀ := hi
        omega
      have hb1 : AllBare s1.gens := by
        obtain ⟨oS, hc, I⟩ := hat
        exact I.bare
      refine hY i ys y v H s1 gs' hi' hlt hgh rv hat (bare_set hb1 hb) hkS hyd fun s' hrs hge hct hgh' => ?_
      obtain ⟨oS, hc, I⟩ := hat
      have h3 : s'.gens[G.g]? = some gs' := by rw [hge]; exact setGen_at hsz1
      refine ⟨hrs.ga, ?_, gs', h3, ?_⟩
      · have hcs : cStatics ≠ G.S := fun z => by
          obtain ⟨mc, ⟨o, es, ep, ho, hd, _⟩, _⟩ := I.ok.mod.nolimit
          have h9 := Heap.lt_size (I.ok.bs _ _ ho).1
          rw [z] at h9
          exact absurd (Nat.lt_of_lt_of_le h9 hS) (Nat.lt_irrefl _)
        obtain ⟨mc, hns, hnn⟩ := I.nolimit
        exact ⟨mc, hns.at' fun o e => hrs.keep _ o hcs e, hnn⟩
      · rw [hA]
        refine hkap (s'.setGen G.g .running) ⟨hrs.os, bare_set hrs.bare rfl, hrs.keep, hrs.ga, hrs.gs⟩ hct hgh'
  · intro hsz
    obtain ⟨hn1, ys, H, hgh, hat, hkS, hw⟩ := hp
    have hb1 : AllBare s1.gens := by
      obtain ⟨oS, hc, I⟩ := hat
      exact I.bare
    refine hP ys H s1 _ hn1 hgh hat hkS hw rfl ?_ fun b o e => hk b o e
    exact bare_set hb1 rfl
end
end GX

-- text GenV
set_option maxRecDepth 100000
set_option maxHeartbeats 4000000
namespace GX
open PySem PySem.Spec PyProof.Rows L2 LamX GenW
theorem wipe_set (σ : L2.St) (v w : Nat) : ((σ.set v none).set w none : L2.St) = (σ.set w none).set v none := by
  by_cases h : v = w
  · rw [h]
  · exact List.set_comm _ _ h
theorem wipe_comm1 (σ : L2.St) (v : Nat) : ∀ vs : List Nat, wipe (σ.set v none) vs = (wipe σ vs).set v none
  | [] => rfl
  | w :: r => by
    unfold wipe
    rw [wipe_comm1 σ v r, wipe_set]
theorem wipe_twice (σ : L2.St) : ∀ vs : List Nat, wipe (wipe σ vs) vs = wipe σ vs
  | [] => rfl
  | v :: r => by
    have e : wipe (wipe σ (v :: r)) (v :: r) = (wipe ((wipe σ r).set v none) r).set v none := rfl
    rw [e, wipe_comm1, wipe_twice σ r]
    show ((wipe σ r).set v none).set v none = (wipe σ r).set v none
    rw [List.set_set]

/-! ### any -/
section
variable {G : GD} {J : It} {tn : Nat → Heap → Prop} {n₀ : Nat} {W : Nat → Hp → Prop} {Qt : Hp → Prop} {A : Around} {R : Result → Shared → Prop}
abbrev anyGh : Nat → Shared → List V → Prop := fun i _ ys => ys = List.replicate i (V.bl false)
abbrev anyW (W : Nat → Hp → Prop) : Nat → List V → Hp → Prop := fun i _ H => W i H
abbrev anyYd (W : Nat → Hp → Prop) (Qt : Hp → Prop) : Nat → List V → V → Hp → Prop := fun i _ y H => ∃ c, y = .bl c ∧ if c = true then Qt H else W (i + 1) H
abbrev anyCt : Nat → List V → V → Prop := fun _ _ y => y = .bl false
theorem any_loop (hA : G.A = A.in1.in1) (hh : A.handled = none) (hr : A.depth < recursionLimit) (hS : G.s.heap.objs.size ≤ G.S) (haS : G.S = G.a) (hc : ∀ v, G.go.data ≠ .cell v) (hiG : ∀ h : Heap, h.get? G.a = some G.go → h.IsGen G.a G.g)
    (hT : ∀ H s1 s2, G.at H s1 → Qt H → s2.os = s1.os → AllBare s2.gens → (∀ b o, s1.heap.get? b = some o → s2.heap.get? b = some o) → R (.ok (.ret (.bool true))) s2)
    (hF : ∀ H s1 s2, G.at H s1 → W n₀ H → s2.os = s1.os → AllBare s2.gens → (∀ b o, s1.heap.get? b = some o → s2.heap.get? b = some o) → R (.ok (.ret (.bool false))) s2) :
    ∀ (n : Nat) (s : Shared), n ≠ 0 → G.Wait tn n₀ anyGh (anyW W) (anyYd W Qt) anyCt n s → codeAny (model G.X.prog G.X.w) A (.builtin "any.loop" ⟨[.ref G.a], []⟩) R s := by
  intro n
  induction n with
  | zero => exact fun _ h => absurd rfl h
  | succ n ih =>
    intro s _ hw
    refine (codeAny_builtin F.entry_any_loop ?_)
    rw [show A.under _ = _ from Around.under_plainId F.plain_any_loop _]
    show wpAny _ _ (pyNext (Value.ref G.a) >>= _) _ _ s
    refine wpAny_bind (next_gen (A := A.in1) (Nat.succ_ne_zero n) hS hA hh hr hiG hw (fun i ys y v H s1 gs' hi hlt hgh rv hat hb hk hyd hk2 => ?_) (fun ys H s1 s2 hn1 hgh hat hk hw2 ho hb hkp => ?_))
    · obtain ⟨c, rfl, hq⟩ := hyd
      obtain rfl : v = Value.bool c := rv
      obtain ⟨_, _, _, _, ga1, _⟩ := hat.facts
      refine wpAny_bind (wpAny_holding (wpAny_truthy_bool ?_))
      refine wpAny_bind (wpAny_letGo ?_)
      cases c with
      | true =>
        simp only [if_true] at hq ⊢
        refine wpAny_bind (wpAny_rule ?_)
        exact wpAny_pure (hT H s1 _ hat hq rfl hb fun b o e => e)
      | false =>
        simp only [Bool.false_eq_true, if_false] at hq ⊢
        have hn : n ≠ 0 := by omega
        exact wpAny_pure ⟨(plainId_quiet F.plain_any_loop) _, ih _ hn (hk2 _ ⟨rfl, hb, fun b o _ e => e, ga1, by rw [haS]; exact ⟨_, ga1, hc⟩⟩ rfl rfl (by show ys ++ [V.bl false] = List.replicate (i + 1) (V.bl false); rw [hgh, List.replicate_succ'])) ⟩
    · refine wpAny_bind (wpAny_rule ?_)
      exact wpAny_pure (hF H s1 s2 hat hw2 ho hb hkp)
end

/-- the reading of any(elt for tg in iter) -/
def tGenAny (T : List (Addr × Str)) (wi : TI) (g : TG) (te : TE) (vs : List Nat) : TE := fun σ H Q => wi σ H fun J H1 => Tabs T H1 ∧ ∀ H2, ExtN H1 H2 → Tabs T H2 → (∀ b, H2 b = none → H1 b = none) →
  ∃ (n₀ : Nat) (W : Nat → Hp → Prop), W 0 H2 ∧
    (∀ i H, i < n₀ → W i H → J.go i H ∧ ∀ x H', J.yld i H x H' → g x (wipe σ vs) H' fun σ2 H3 => wipe σ2 vs = wipe σ vs ∧ te σ2 H3 fun y H4 => ∃ c, y = .bl c ∧ if c = true then Q (.bl true) H4 else W (i + 1) H4) ∧
    (∀ H, W n₀ H → J.stop n₀ H ∧ Q (.bl false) H)
section
variable {X : Cx}
theorem room_gen {k : Nat} {A : Around} (r : Room (k + 1) A) (env : Env) : Room k (A.in1.in1.in1.in1.deeper env) :=
  ⟨r.hd, by have := r.dp; show A.depth + 1 + 3 * k + 5 < _; omega, by have := r.un; show A.units + 1 + 1 + 1 + 1 + 3 + 16 * k + 200 < _; omega⟩
theorem room_gen2 {k : Nat} {A : Around} (r : Room (k + 1) A) (env : Env) : Room k (A.in1.in1.deeper env) :=
  ⟨r.hd, by have := r.dp; show A.depth + 1 + 3 * k + 5 < _; omega, by have := r.un; show A.units + 1 + 1 + 3 + 16 * k + 200 < _; omega⟩
theorem room_gen3 {k : Nat} {A : Around} (r : Room (k + 1) A) (env : Env) : Room k (A.in1.in1.in1.deeper env) :=
  ⟨r.hd, by have := r.dp; show A.depth + 1 + 3 * k + 5 < _; omega, by have := r.un; show A.units + 1 + 1 + 1 + 3 + 16 * k + 200 < _; omega⟩

theorem pe_genAny {T : List (Addr × Str)} {c P : Addr} {own : List (Str × Nat)} {tg iter elt : Expr} {scope : Scope} {gpos p pos : Pos} {wi : TI} {g : TG} {te : TE} {k : Nat}
    (hr : Room (k + 1) X.A) (hgl : Gl X "any") (hm : X.mg "any" = none) (hN : X.N.Nodup) (TB : TabB X.base X.mg c P) (hcode : X.env.code = .ref c) (hmT : (P, X.env.qual ++ "<genexpr>") ∈ T) (hu : ∀ p ∈ T, p.1 = P → p.2 = X.env.qual ++ "<genexpr>")
    (hi : PI X tg iter wi) (ok : GSc X.N X.env.scope scope own)
    (hg : ∀ (A : Around) (s : Shared) (H : Hp) (code : Value) (ex : List Addr), PG (gcx X A s H scope code ex) tg g) (he : ∀ (A : Around) (s : Shared) (H : Hp) (code : Value) (ex : List Addr), Room k (gcx X A s H scope code ex).A → PE (gcx X A s H scope code ex) elt te)
    (hs : ∀ v, genFold iter X.env v = pure v := by intro _; rfl)
    (hst : starEach [.GeneratorExp elt [⟨tg, iter, [], 0⟩] scope gpos] X.env = (false, eval (.GeneratorExp elt [⟨tg, iter, [], 0⟩] scope gpos) X.env) :: starEach [] X.env := by rfl) :
    PE X (.Call (.Name "any" p) [.GeneratorExp elt [⟨tg, iter, [], 0⟩] scope gpos] [] pos) (tGenAny T wi g te (own.map (·.2))) := by
  refine ⟨fun pins s σ H Q I h => ?_⟩
  refine wpAny_Call_Name_kw (ld_blt I hgl hm boot_any ?_)
  refine PyProof.Rows.callWith_builtin1 ?_ hst (by rfl)
  rw [hst]
  show wpAny _ _ (spliced ((false, eval (Expr.GeneratorExp elt [⟨tg, iter, [], 0⟩] scope gpos) X.env) :: backTo pos (starEach [] X.env))) _ _ s
  refine Calls.spliced_cons (gen_make I hi ok TB hcode hmT hu hr.depth hs h fun J H1 H2 it fp tn code a go gi s4 s5 hR hE hT hno M => ?_)
  refine Calls.spliced_nil ?_
  obtain ⟨n₀, W, w0, step, stop⟩ := hR H2 hE hT hno
  refine call_function_tree F.kind_any F.plain_any F.entry_any (F.args_any1 (a := _)) ?_
  unfold Builtin.«any»
  refine wpAny_bind (m := oneArg "any" _) (wpAny_pure ?_)
  refine wpAny_bind (wpAny_pyIter_gen (M.isG _ M.ga) ?_)
  let G : GD := ⟨X, X.A.in1.in1, s4, H2, scope, code, fp, a, go, gi, a, wipe σ (own.map (·.2))⟩
  have I5 : Inv G.cx [] G.σ H2 s5 := by
    obtain ⟨m, hns⟩ := M.ns
    exact gen_start (A := X.A.in1.in1) M.inv ok hN hr.hd M.inv.ok.frames M.fps hns M.keep M.os M.bare
  have hfpa : ∀ b ∈ fp, b ≠ a := fun b hb => Nat.ne_of_lt (Nat.lt_trans (M.fps b hb).2 M.lt)
  have at5 : G.at H2 s5 := by
    refine ⟨go, M.cellG, I5.pins_of fun p hp => ?_⟩
    have hp' : p = (a, go) := by
      rcases List.mem_cons.mp hp with z | z
      · exact z
      · exact List.mem_singleton.mp z
    rw [hp']
    exact ⟨M.ga, M.inv.hok.fresh (Nat.le_of_lt M.lt), Nat.ne_of_gt M.lt, fun hb => by
      have z : a ∈ frs X.stack := hb
      rcases List.mem_cons.mp (M.inv.stkSub a z) with z | z
      · have := M.inv.lt
        rw [← z] at this
        exact absurd (Nat.lt_trans M.lt this) (Nat.lt_irrefl _)
      · exact M.inv.nofs (Nat.le_of_lt M.lt) z, M.cellG⟩
  have P0 : Turns G J g te (own.map (·.2)) n₀ (anyW W) (anyYd W fun H => Q (.bl true) H) anyCt (anyYd W fun H => Q (.bl true) H) := by
    refine ⟨fun i ys H hi hw => ?_, fun i ys y H hi hp => ⟨hp, fun e => ?_⟩, fun ys H hw => (stop H hw).1⟩
    · exact step i H hi hw
    · obtain ⟨c, e2, hq⟩ := hp
      have e3 : y = V.bl false := e
      rw [e2] at e3
      cases e3
      exact hq
  have Wt : G.Wait tn n₀ anyGh (anyW W) (anyYd W fun H => Q (.bl true) H) anyCt (n₀ + 1) s5 := by
    refine ⟨M.ga, M.inv.nolimit.keeps M.keep, _, M.gens, rfl, ?_⟩
    refine seg_first (G := G) (J := J) (own := own) (ys := []) M.turn (hg _ _ _ _ _) (he _ _ _ _ _ (room_gen2 hr _)) ok.co (fun b hb => (M.fps b hb).2) (fun b hb => ⟨hfpa b hb, hfpa b hb⟩) (Nat.le_of_lt M.lt) (wipe_twice _ _) P0 rfl
      (at5.woken (Nat.le_of_lt M.lt) ⟨rfl, bare_set M.bare rfl, fun b o _ e => e, M.ga, ⟨go, M.ga, M.cellG⟩⟩) M.tn0 (fun b hb => (M.fps b hb).1.1) w0
  have back : ∀ {H' : Hp} {s1 s2 : Shared}, G.at H' s1 → s2.os = s1.os → AllBare s2.gens → (∀ b o, s1.heap.get? b = some o → s2.heap.get? b = some o) → Inv X pins σ H' s2 := fun {H' s1 s2} hat ho hb hk => by
    obtain ⟨oS, hc, J'⟩ := hat
    exact gen_back M.inv J' (fun b hb => (M.fps b hb).1) ho hk hb
  refine wpAny_pure ⟨(plainId_quiet F.plain_any_loop) _, any_loop (G := G) (A := X.A) rfl hr.hd hr.depth (Nat.le_of_lt M.lt) rfl M.cellG M.isG (fun H' s1 s2 hat hq ho hb hk => ?_) (fun H' s1 s2 hat hq ho hb hk => ?_) (n₀ + 1) s5 (Nat.succ_ne_zero _) Wt⟩
  · exact ⟨.bl true, H', back hat ho hb hk, rfl, hq⟩
  · exact ⟨.bl false, H', back hat ho hb hk, rfl, (stop H' hq).2⟩
end
end GX

-- text GenW2
set_option maxRecDepth 100000
set_option maxHeartbeats 4000000
namespace GX
open PySem PySem.Spec PyProof.Rows L2 LamX GenW
/-! ### tuple -/
section
variable {G : GD} {J : It} {tn : Nat → Heap → Prop} {n₀ : Nat} {W : Nat → List V → Hp → Prop} {A : Around} {R : Result → Shared → Prop}
abbrev tupGh (S : Addr) : Nat → Shared → List V → Prop := fun i s ys => ys.length = i ∧ ∃ (acc : Array Value) (c : Nat), s.heap.get? S = some (lstObj acc c) ∧ Vals ys acc.toList
abbrev yesYd : Nat → List V → V → Hp → Prop := fun _ _ _ _ => True
abbrev yesCt : Nat → List V → V → Prop := fun _ _ _ => True
theorem lst_cell {acc : Array Value} {c : Nat} : ∀ v, (lstObj acc c).data ≠ .cell v := fun v z => by cases z
theorem ext_loop (hA : G.A = A.in1.in1) (hh : A.handled = none) (hr : A.depth < recursionLimit) (hS : G.s.heap.objs.size ≤ G.S) (haS : G.S ≠ G.a) (hz : n₀ ≤ sizeLine) (hiG : ∀ h : Heap, h.get? G.a = some G.go → h.IsGen G.a G.g) (res : Value)
    (hF : ∀ ys acc c H s1 s2, s2.heap.get? G.S = some (lstObj acc c) → Vals ys acc.toList → ys.length = n₀ → G.at H s1 → W n₀ ys H → s2.os = s1.os → AllBare s2.gens → (∀ b o, s1.heap.get? b = some o → s2.heap.get? b = some o) → R (.ok (.ret res)) s2) :
    ∀ (n : Nat) (s : Shared), n ≠ 0 → G.Wait tn n₀ (tupGh G.S) W yesYd yesCt n s → codeAny (model G.X.prog G.X.w) A (.builtin "list.extend.loop" ⟨[.ref G.S, .ref G.a, res], []⟩) R s := by
  intro n
  induction n with
  | zero => exact fun _ h => absurd rfl h
  | succ n ih =>
    intro s _ hw
    refine (codeAny_builtin F.entry_extend_loop ?_)
    rw [show A.under _ = _ from Around.under_plainId F.plain_extend_loop _]
    show wpAny _ _ (pyNext (Value.ref G.a) >>= _) _ _ s
    refine wpAny_bind (next_gen (A := A.in1) (Nat.succ_ne_zero n) hS hA hh hr hiG hw (fun i ys y v H s1 gs' hi hlt hgh rv hat hb hk hyd hk2 => ?_) (fun ys H s1 s2 hn1 hgh hat hk hw2 ho hb hkp => ?_))
    · obtain ⟨hil, acc, c, hSg, rvs⟩ := hgh
      have hS1 : s1.heap.get? G.S = some (lstObj acc c) := hk _ hSg
      obtain ⟨_, _, _, _, ga1, _⟩ := hat.facts
      have hsz : acc.size = i := by
        have e := rvs.length
        have el : acc.toList.length = acc.size := by simp
        omega
      show wpAny _ _ (updateSeq G.S (Array.push · v) >>= _) _ _ _
      refine wpAny_bind ?_
      refine wpAny_updateSeq (s := s1.setGen G.g gs') hS1 rfl (wpAny_pure ⟨(plainId_quiet F.plain_extend_loop) _, ?_⟩) (by omega) (by show (acc.push v).size ≤ sizeLine + 1; rw [Array.size_push]; omega)
      have hup := Heap.get?_update_self (Obj.mapSeq (Array.push · v)) hS1 rfl
      have hoth : ∀ b o, b ≠ G.S → s1.heap.get? b = some o → (s1.heap.update G.S (Obj.mapSeq (Array.push · v))).get? b = some o := fun b o hb e => (Heap.get?_update_other _ _ (fun z => hb z.symm)).trans e
      refine ih _ (by omega) (hk2 _ ⟨rfl, hb, hoth, hoth _ _ (Ne.symm haS) ga1, ⟨_, hup, lst_cell⟩⟩ rfl trivial ⟨?_, acc.push v, _, hup, ?_⟩)
      · rw [List.length_append, List.length_singleton, hil]
      · rw [Array.toList_push]
        exact rvs.append (.cons rv .nil)
    · obtain ⟨hil, acc, c, hSg, rvs⟩ := hgh
      exact wpAny_pure (hF ys acc c H s1 s2 (hkp _ _ (hk _ hSg)) rvs hil hat hw2 ho hb hkp)

theorem ext_loop2 {S' : Addr} (hSe : S' = G.S) (hA : G.A = A.in1.in1) (hh : A.handled = none) (hr : A.depth < recursionLimit) (hS : G.s.heap.objs.size ≤ G.S) (haS : G.S ≠ G.a) (hz : n₀ ≤ sizeLine) (hiG : ∀ h : Heap, h.get? G.a = some G.go → h.IsGen G.a G.g) (res : Value)
    (hF : ∀ ys acc c H s1 s2, s2.heap.get? S' = some (lstObj acc c) → Vals ys acc.toList → ys.length = n₀ → G.at H s1 → W n₀ ys H → s2.os = s1.os → AllBare s2.gens → (∀ b o, s1.heap.get? b = some o → s2.heap.get? b = some o) → R (.ok (.ret res)) s2)
    (n : Nat) (s : Shared) (hn : n ≠ 0) (w : G.Wait tn n₀ (tupGh G.S) W yesYd yesCt n s) : codeAny (model G.X.prog G.X.w) A (.builtin "list.extend.loop" ⟨[.ref S', .ref G.a, res], []⟩) R s := by
  subst hSe
  exact ext_loop hA hh hr hS haS hz hiG res hF n s hn w

theorem collect_gen {Q : List Value → Shared → Prop} {E : Value → Shared → Prop} {s : Shared} (hA : G.A = A.in1.in1) (hh : A.handled = none) (hr : A.depth < recursionLimit) (hSe : G.S = s.heap.objs.size) (hS : G.s.heap.objs.size ≤ G.S) (haS : G.S ≠ G.a) (hz : n₀ ≤ sizeLine) (hiG : ∀ h : Heap, h.get? G.a = some G.go → h.IsGen G.a G.g)
    (hga : s.heap.get? G.a = some G.go)
    (hW : ∀ s' c, s'.os = s.os → s'.gens = s.gens → (∀ b o, s.heap.get? b = some o → s'.heap.get? b = some o) → s'.heap.get? G.S = some (lstObj #[] c) → G.Wait tn n₀ (tupGh G.S) W yesYd yesCt (n₀ + 1) s')
    (hF : ∀ ys acc H s1 s2, Vals ys acc → ys.length = n₀ → G.at H s1 → W n₀ ys H → s2.os = s1.os → AllBare s2.gens → (∀ b o, s1.heap.get? b = some o → s2.heap.get? b = some o) → Q acc s2) :
    wpAny (model G.X.prog G.X.w) A (collect (.ref G.a)) Q E s := by
  have tyG : ∀ s' : Shared, s'.heap.get? G.a = some G.go → s'.TypeIs (.ref G.a) "generator" := fun s' e => (hiG _ e).typeIs
  unfold collect
  refine (wpAny_bind (wpAny_runValue (codeAny_builtin F.entry_proto_collect ?_)))
  rw [show A.under _ = _ from Around.under_plainId F.plain_proto_collect _]
  show wpAny _ _ (newList [] >>= fun l => again (.builtin "list.__iadd__" ⟨[l, Value.ref G.a], []⟩)) _ _ s
  refine wpAny_bind (wpAny_newObj_type ?_)
  refine wpAny_pure ⟨(plainId_quiet F.plain_list_iadd) _, (codeAny_builtin F.entry_list_iadd ?_)⟩
  rw [show A.under _ = _ from Around.under_plainId F.plain_list_iadd _]
  have k1 : ∀ b o, s.heap.get? b = some o → (s.heap.push { cls := .type "list", data := .seq ([] : List Value).toArray }).get? b = some o := fun b o e => Heap.get?_push_of_some _ e
  have h1 : Builtin.List.listSameRef (.ref s.heap.objs.size) (.ref G.a) = false := by
    have : s.heap.objs.size ≠ G.a := by rw [← hSe]; exact haS
    simp [Builtin.List.listSameRef, this]
  show wpAny _ _ (Builtin.List.listExtendWith (Value.ref s.heap.objs.size) (.ref G.a) (.ref s.heap.objs.size)) _ _ _
  unfold Builtin.List.listExtendWith
  refine wpAny_bind (wpAny_typeOf (tyG { s with heap := _ } (k1 _ _ hga)) ?_)
  have h2 : (Value.type "generator" == Value.type "list") = false := (by decide)
  have h3 : (Value.type "generator" == Value.type "tuple") = false := (by decide)
  simp only [h1, h2, h3, Bool.or_false, Bool.false_eq_true, if_false]
  refine wpAny_bind (wpAny_pyIter_gen (s := { s with heap := _ }) (hiG _ (k1 _ _ hga)) ?_)
  refine wpAny_bind (wpAny_holding (vs := _) ?_)
  unfold Builtin.List.listLengthHint
  refine wpAny_bind (wpAny_specialOf (tyG { s with heap := _ } (k1 _ _ hga)) F.gen_no_len ?_)
  show wpAny _ _ (specialOf (Value.ref G.a) (Str.ofString "__length_hint__") >>= _) _ _ _
  refine wpAny_bind (wpAny_specialOf (tyG { s with heap := _ } (k1 _ _ hga)) F.gen_no_hint ?_)
  refine wpAny_pure ?_
  show wpAny _ _ (rule "list.extend.makes-room" >>= fun _ => Builtin.List.listTouch (.ref s.heap.objs.size) >>= fun _ =>
    again (.builtin "list.extend.loop" ⟨[.ref s.heap.objs.size, .ref G.a, .ref s.heap.objs.size], []⟩)) _ _ _
  refine wpAny_bind (wpAny_rule ?_)
  have hS₁ : (s.heap.push { cls := .type "list", data := .seq ([] : List Value).toArray }).get? s.heap.objs.size = some (lstObj #[] 0) := Heap.get?_push_size _ rfl
  refine wpAny_bind ?_
  show wpAny _ _ (updateSeq s.heap.objs.size (Array.push · .none) >>= fun _ => updateSeq s.heap.objs.size (fun a => a.pop)) _ _ _
  refine wpAny_bind (wpAny_updateSeq hS₁ rfl ?_)
  have hS₂ := Heap.get?_update_self (Obj.mapSeq (Array.push · Value.none)) hS₁ rfl
  refine wpAny_updateSeq hS₂ rfl ?_
  have hS₃ := Heap.get?_update_self (Obj.mapSeq (fun a => a.pop)) hS₂ rfl
  have oth : ∀ b o, s.heap.get? b = some o →
      (((s.heap.push { cls := .type "list", data := .seq ([] : List Value).toArray }).update s.heap.objs.size (Obj.mapSeq (Array.push · Value.none))).update s.heap.objs.size (Obj.mapSeq (fun a => a.pop))).get? b = some o :=
    fun b o e => (Heap.get?_update_other _ _ (Ne.symm (Nat.ne_of_lt (Heap.lt_size e)))).trans ((Heap.get?_update_other _ _ (Ne.symm (Nat.ne_of_lt (Heap.lt_size e)))).trans (k1 b o e))
  refine wpAny_pure ⟨(plainId_quiet F.plain_extend_loop) _, ext_loop2 (A := A) (W := W) (tn := tn) hSe.symm hA hh hr hS haS hz hiG _ (fun ys acc c H s1 s2 hSg rvs hl hat hw ho hb hk => ?_) (n₀ + 1) _ (Nat.succ_ne_zero _) ?_⟩
  · show wpAny _ _ (load s.heap.objs.size >>= _) _ _ s2
    refine wpAny_bind (wpAny_load hSg ?_)
    exact wpAny_pure (hF ys acc.toList H s1 s2 rvs hl hat hw ho hb hk)
  · refine hW _ 2 rfl rfl oth ?_
    rw [hSe]
    exact hS₃
end

def tGenTup (T : List (Addr × Str)) (wi : TI) (g : TG) (te : TE) (vs : List Nat) : TE := fun σ H Q => wi σ H fun J H1 => Tabs T H1 ∧ ∀ H2, ExtN H1 H2 → Tabs T H2 → (∀ b, H2 b = none → H1 b = none) →
  ∃ (n₀ : Nat) (W : Nat → List V → Hp → Prop), n₀ ≤ sizeLine ∧ W 0 [] H2 ∧
    (∀ i ys H, i < n₀ → W i ys H → J.go i H ∧ ∀ x H', J.yld i H x H' → g x (wipe σ vs) H' fun σ2 H3 => wipe σ2 vs = wipe σ vs ∧ te σ2 H3 fun y H4 => W (i + 1) (ys ++ [y]) H4) ∧
    (∀ ys H, W n₀ ys H → J.stop n₀ H ∧ ∀ p, H p = none → Q (.ref p) (upd H p (.tup ys)))
section
variable {X : Cx}
theorem code_tup_new {prog : Program} {w : World} {A : Around} {E : Value → Shared → Prop} {s : Shared} {a : Addr} {Q₁ : Value → Shared → Prop} (hTI : s.TypeIs (.ref a) "generator")
    (hC : wpAny (model prog w) A.in1 (collect (.ref a)) (fun acc s1 => acc.length ≤ sizeLine ∧ Q₁ (.ref s1.heap.objs.size) { s1 with heap := s1.heap.push { cls := .type "tuple", data := .seq acc.toArray } }) E s) :
    codeAny (model prog w) A (.call (.builtin "tuple.__new__") ⟨[.type "tuple", .ref a], []⟩) (wants Q₁ E) s := by
  refine (codeAny_of_tree ?_)
  show wpAny _ _ (do checkBuiltinCall "tuple.__new__" ⟨[Value.type "tuple", .ref a], []⟩; again (.builtin "tuple.__new__" ⟨[.type "tuple", .ref a], []⟩)) _ _ s
  refine wpAny_bind (wpAny_of_eq (F.newCall_tuple_1 (a := _)) (wpAny_pure ⟨(plainId_quiet F.plain_tuple_new) _, (codeAny_builtin F.entry_tuple_new ?_)⟩))
  rw [show A.under _ = _ from Around.under_plainId F.plain_tuple_new _]
  have hsub := sub_tuple_self
  have hinit := init_tuple_lookup
  have hmh := madeHere_tuple
  have hC' : ∀ Q2, (∀ acc s1, acc.length ≤ sizeLine → Q₁ (.ref s1.heap.objs.size) { s1 with heap := s1.heap.push { cls := .type "tuple", data := .seq acc.toArray } } → Q2 acc s1) → wpAny (model prog w) A.in1 (collect (.ref a)) Q2 E s := fun Q2 h => thn hC fun acc s1 q => h acc s1 q.1 q.2
  wp_walk using wpAny_typeOf hTI, hC'
  intro acc s1 hz hq
  show wpAny _ _ (Builtin.Tuple.tupleExact acc.toArray >>= fun v => ret v) _ _ _
  unfold Builtin.Tuple.tupleExact
  refine wpAny_bind (wpAny_newObj_type ?_ (by show acc.toArray.size ≤ sizeLine; rw [List.size_toArray]; exact hz))
  exact wpAny_pure hq

/-- a made generator, asleep ahead of its first turn; S: the consumer's own object -/
theorem made_wait {pins : List (Addr × Obj)} {σ : L2.St} {tg iter elt : Expr} {scope : Scope} {gpos : Pos} {J : It} {H2 : Hp} {it : Addr} {fp : List Addr} {tn : Nat → Heap → Prop} {code : Value} {a S : Addr} {go oS : Obj} {gi : Nat} {s4 s5 s6 : Shared} {A : Around} {own : List (Str × Nat)} {g : TG} {te : TE}
    {n₀ : Nat} {Gh : Nat → Shared → List V → Prop} {W : Nat → List V → Hp → Prop} {Yd : Nat → List V → V → Hp → Prop} {Ct : Nat → List V → V → Prop} {Po : Nat → List V → V → Hp → Prop}
    (M : Made X pins σ tg iter elt scope gpos J H2 it fp tn code a go gi s4 s5) (ok : GSc X.N X.env.scope scope own) (hN : X.N.Nodup) (hd : A.handled = none) (hfr : A.frames = some X.stack)
    (hg : PG (gcx X A s4 H2 scope code fp) tg g) (he : PE (gcx X A s4 H2 scope code fp) elt te)
    (P : Turns ⟨X, A, s4, H2, scope, code, fp, a, go, gi, S, wipe σ (own.map (·.2))⟩ J g te (own.map (·.2)) n₀ W Yd Ct Po)
    (ho : s6.os = s5.os) (hgen : s6.gens = s5.gens) (hk : ∀ b o, s5.heap.get? b = some o → s6.heap.get? b = some o) (hS : s6.heap.get? S = some oS) (hSc : ∀ v, oS.data ≠ .cell v) (hSl : s4.heap.objs.size < S)
    (hgh : Gh 0 (s6.setGen gi .running) []) (w0 : W 0 [] H2) :
    GD.Wait ⟨X, A, s4, H2, scope, code, fp, a, go, gi, S, wipe σ (own.map (·.2))⟩ tn n₀ Gh W Yd Ct (n₀ + 1) s6 := by
  have I5 : Inv (gcx X A s4 H2 scope code fp) [] (wipe σ (own.map (·.2))) H2 s6 := by
    obtain ⟨m, hns⟩ := M.ns
    exact gen_start (A := A) M.inv ok hN hd hfr M.fps (hns.keeps hk) (fun b o e => hk _ _ (M.keep b o e)) (ho.trans M.os) (by rw [hgen]; exact M.bare)
  have young : ∀ b, s4.heap.objs.size < b → H2 b = none ∧ b ≠ s4.heap.objs.size ∧ b ∉ frs X.stack := fun b hb => by
    refine ⟨M.inv.hok.fresh (Nat.le_of_lt hb), Nat.ne_of_gt hb, fun z => ?_⟩
    rcases List.mem_cons.mp (M.inv.stkSub b z) with z | z
    · have := M.inv.lt
      rw [← z] at this
      exact absurd (Nat.lt_trans hb this) (Nat.lt_irrefl _)
    · exact M.inv.nofs (Nat.le_of_lt hb) z
  let G : GD := ⟨X, A, s4, H2, scope, code, fp, a, go, gi, S, wipe σ (own.map (·.2))⟩
  have at5 : G.at H2 s6 := by
    refine ⟨oS, hSc, I5.pins_of fun p hp => ?_⟩
    rcases List.mem_cons.mp hp with z | z
    · rw [z]
      obtain ⟨y1, y2, y3⟩ := young a M.lt
      exact ⟨hk _ _ M.ga, y1, y2, y3, M.cellG⟩
    · rw [List.mem_singleton.mp z]
      obtain ⟨y1, y2, y3⟩ := young S hSl
      exact ⟨hS, y1, y2, y3, hSc⟩
  have g6 : s6.gens[gi]? = some (.fresh (.compStart (.GeneratorExp elt [⟨tg, iter, [], 0⟩] scope gpos) 0 (.ref it) .none (gEnv X scope s4.heap.objs.size code))) := by
    rw [hgen]
    exact M.gens
  refine ⟨hk _ _ M.ga, M.inv.nolimit.keeps fun b o e => hk _ _ (M.keep b o e), _, g6, rfl, ?_⟩
  exact seg_first (G := G) (J := J) (own := own) (ys := []) M.turn hg he ok.co (fun b hb => (M.fps b hb).2) (fun b hb => ⟨Nat.ne_of_lt (Nat.lt_trans (M.fps b hb).2 M.lt), Nat.ne_of_lt (Nat.lt_trans (M.fps b hb).2 hSl)⟩) (Nat.le_of_lt hSl) (wipe_twice _ _) P hgh
      (at5.woken (Nat.le_of_lt hSl) ⟨rfl, bare_set (by rw [hgen]; exact M.bare) rfl, fun b o _ e => e, hk _ _ M.ga, ⟨oS, hS, hSc⟩⟩) (M.turn.keep _ _ _ M.tn0 fun b _ o e => hk b o e) (fun b hb => (M.fps b hb).1.1) w0

/-- tuple(elt for tg in iter) -/
theorem pe_genTup {T : List (Addr × Str)} {c P : Addr} {own : List (Str × Nat)} {tg iter elt : Expr} {scope : Scope} {gpos p pos : Pos} {wi : TI} {g : TG} {te : TE} {k : Nat}
    (hr : Room (k + 1) X.A) (hgl : Gl X "tuple") (hm : X.mg "tuple" = none) (hN : X.N.Nodup) (TB : TabB X.base X.mg c P) (hcode : X.env.code = .ref c) (hmT : (P, X.env.qual ++ "<genexpr>") ∈ T) (hu : ∀ p ∈ T, p.1 = P → p.2 = X.env.qual ++ "<genexpr>")
    (hi : PI X tg iter wi) (ok : GSc X.N X.env.scope scope own)
    (hg : ∀ (A : Around) (s : Shared) (H : Hp) (code : Value) (ex : List Addr), PG (gcx X A s H scope code ex) tg g) (he : ∀ (A : Around) (s : Shared) (H : Hp) (code : Value) (ex : List Addr), Room k (gcx X A s H scope code ex).A → PE (gcx X A s H scope code ex) elt te)
    (hs : ∀ v, genFold iter X.env v = pure v := by intro _; rfl)
    (hst : starEach [.GeneratorExp elt [⟨tg, iter, [], 0⟩] scope gpos] X.env = (false, eval (.GeneratorExp elt [⟨tg, iter, [], 0⟩] scope gpos) X.env) :: starEach [] X.env := by rfl) :
    PE X (.Call (.Name "tuple" p) [.GeneratorExp elt [⟨tg, iter, [], 0⟩] scope gpos] [] pos) (tGenTup T wi g te (own.map (·.2))) := by
  refine ⟨fun pins s σ H Q I h => ?_⟩
  refine wpAny_Call_Name_kw (ld_blt I hgl hm (by decide +kernel : bootBuiltins "tuple" = some (.type "tuple")) ?_)
  refine (PyProof.Rows.callWith_type1 ?_ hst (by rfl))
  rw [hst]
  show wpAny _ _ (spliced ((false, eval (Expr.GeneratorExp elt [⟨tg, iter, [], 0⟩] scope gpos) X.env) :: backTo pos (starEach [] X.env))) _ _ s
  refine Calls.spliced_cons (gen_make I hi ok TB hcode hmT hu hr.depth hs h fun J H1 H2 it fp tn code a go gi s4 s5 hR hE hT hno M => ?_)
  refine Calls.spliced_nil ?_
  obtain ⟨n₀, W, hz, w0, step, stop⟩ := hR H2 hE hT hno
  let G : GD := ⟨X, X.A.in1.in1.in1.in1, s4, H2, scope, code, fp, a, go, gi, s5.heap.objs.size, wipe σ (own.map (·.2))⟩
  have P0 : Turns G J g te (own.map (·.2)) n₀ W yesYd yesCt (fun i ys y H => W (i + 1) (ys ++ [y]) H) :=
    ⟨fun i ys H hi hw => step i ys H hi hw, fun i ys y H hi hp => ⟨trivial, fun _ => hp⟩, fun ys H hw => (stop ys H hw).1⟩
  refine callType_codes (Q₁ := fun obj s₁ => s₁.TypeIs obj "tuple" ∧ EP X pins σ Q obj s₁) F.called_tuple (F.typeCall_tuple_1 (a := _)) F.entry_object_init
    (code_tup_new (A := X.A.in1) ((M.isG _ M.ga).typeIs) (collect_gen (G := G) (A := X.A.in1.in1) (tn := tn) (W := W) (n₀ := n₀) rfl hr.hd hr.depth rfl (Nat.le_of_lt (Nat.lt_trans M.lt M.ltS)) (Nat.ne_of_gt M.ltS) hz M.isG M.ga (fun s' c ho hge hk hS => ?_) (fun ys acc H' s1 s2 rvs hl hat hw ho hb hk => ?_))) fun obj s₁ h₁ => ?_
  · exact made_wait M ok hN hr.hd M.inv.ok.frames (hg _ _ _ _ _) (he _ _ _ _ _ (room_gen hr _)) P0 ho hge hk hS lst_cell (Nat.lt_trans M.lt M.ltS) ⟨rfl, _, _, hS, .nil⟩ w0
  · obtain ⟨oS, hc, J'⟩ := hat
    have I2 : Inv X pins σ H' s2 := gen_back M.inv J' (fun b hb => (M.fps b hb).1) ho hk hb
    have ln : acc.length ≤ sizeLine := by
      have e := rvs.length
      omega
    have hfr := I2.hok.fresh (Nat.le_refl _)
    refine ⟨ln, ⟨_, Heap.get?_push_size _ rfl, rfl⟩, .ref s2.heap.objs.size, upd H' s2.heap.objs.size (.tup ys), ?_, rfl, (stop ys H' hw).2 _ hfr⟩
    refine I2.laid (a := s2.heap.objs.size) (fun b u e => Heap.get?_push_of_some _ e) (Nat.le_refl _) ⟨by omega, acc, rvs, ?_⟩
    exact ⟨_, Heap.get?_push_size _ rfl, rfl, 0, rfl⟩
  · exact ⟨h₁.1, F.args_object_init_2 obj _, object_init_meets F.called_tuple.init.lookup F.called_tuple.made (by decide) X.prog X.w X.A.in1 _ s₁ ⟨h₁.1, rfl, h₁.2⟩⟩
end
end GX

-- text Com
set_option maxRecDepth 100000
set_option maxHeartbeats 4000000
/-! Com: how heaps grow, what a raise hands on, short words. -/
namespace GX
open PySem PySem.Spec PyProof.Rows L2 LamX
/-- neither a table nor a thing told by a property -/
def PlainO : HO → Prop
  | .tbl _ => False
  | .ext _ => False
  | _ => True
/-- H' holds all that H held (the tables may have grown) -/
structure Le (T : List (Addr × Str)) (H H' : Hp) : Prop where
  ext : ExtN H H'
  tab : Tabs T H'
  no : ∀ b, H' b = none → H b = none
section
variable {T : List (Addr × Str)} {H H1 H2 : Hp} {a p : Addr} {o : HO}
theorem Le.refl (t : Tabs T H) : Le T H H := ⟨ExtN.refl H, t, fun _ z => z⟩
theorem Le.trans (x : Le T H H1) (y : Le T H1 H2) : Le T H H2 := ⟨x.ext.trans y.ext, y.tab, fun b z => x.no b (y.no b z)⟩
theorem Le.at (x : Le T H H1) (h : H a = some o) (n : PlainO o := by trivial) : H1 a = some o := x.ext a o h fun ps z => by rw [z] at n; exact n
theorem Le.seqL {K : PySem.W.Frag} {xs : List V} (x : Le T H H1) (h : SqL K H a xs) : SqL K H1 a xs := by
  rcases h with (h | ⟨o, h⟩) | h
  · exact .inl (.inl (x.at h))
  · exact .inl (.inr ⟨o, x.at h⟩)
  · exact .inr h
theorem Le.seqT {K : PySem.W.Frag} {xs : List V} (x : Le T H H1) (h : SqT K H a xs) : SqT K H1 a xs := by
  rcases h with (h | ⟨o, h⟩) | h
  · exact .inl (.inl (x.at h))
  · exact .inl (.inr ⟨o, x.at h⟩)
  · exact .inr h
theorem tabs_upd (t : Tabs T H) (hm : ∀ u, H p = some u → PlainO u) : Tabs T (upd H p o) := fun q hq => by
  obtain ⟨ps, h1, h2, h3⟩ := t q hq
  have n1 : q.1 ≠ p := fun z => by
    have := hm _ (by rw [← z]; exact h1)
    exact this
  refine ⟨ps, by rw [upd_ne n1]; exact h1, h2, fun pos cv hc => ?_⟩
  obtain ⟨c, e1, e2⟩ := h3 pos cv hc
  have n2 : c ≠ p := fun z => by
    have := hm _ (by rw [← z]; exact e2)
    exact this
  exact ⟨c, e1, by rw [upd_ne n2]; exact e2⟩
/-- an object that H does not hold is laid, or changed -/
theorem Le.upd (x : Le T H H1) (hp : H p = none) (hm : ∀ u, H1 p = some u → PlainO u) : Le T H (upd H1 p o) := by
  refine ⟨fun b u e n => ?_, tabs_upd x.tab hm, fun b z => x.no b (upd_none2 z)⟩
  have nb : b ≠ p := ne_of_none e hp
  rw [upd_ne nb]
  exact x.ext b u e n
theorem Le.new (x : Le T H H1) (hp : H1 p = none) : Le T H (L2.upd H1 p o) := x.upd (x.no p hp) fun u e => by rw [hp] at e; cases e
theorem Le.set (x : Le T H H1) (hp : H p = none) {u : HO} (h1 : H1 p = some u) (hu : PlainO u := by trivial) : Le T H (L2.upd H1 p o) := x.upd hp fun v e => by rw [h1] at e; cases e; exact hu
theorem Le.dp {K : PySem.W.Frag} (x : Le T H H1) : ∀ {v : V} {d : PyData}, Dp K H v d → Dp K H1 v d
  | _, _, .non => .non
  | _, _, .bl b => .bl b
  | _, _, .int i => .int i
  | _, _, .str s => .str s
  | _, _, .lst h ds => .lst (x.seqL h) (dps x ds)
  | _, _, .tup h ds => .tup (x.seqT h) (dps x ds)
where dps {K : PySem.W.Frag} (x : Le T H H1) : ∀ {vs : List V} {ds : List PyData}, DpAll K H vs ds → DpAll K H1 vs ds
  | _, _, .nil => .nil
  | _, _, .cons a b => .cons (x.dp a) (dps x b)
end
theorem DpAll.strs {K : PySem.W.Frag} {H : Hp} : ∀ xs : List Str, DpAll K H (xs.map V.str) (xs.map PyData.str)
  | [] => .nil
  | x :: r => .cons (.str x) (DpAll.strs r)
theorem DpAll.ints {K : PySem.W.Frag} {H : Hp} : ∀ xs : List Int, DpAll K H (xs.map V.int) (xs.map PyData.int)
  | [] => .nil
  | x :: r => .cons (.int x) (DpAll.ints r)

/-- a callee that may raise, called where it does not -/
theorem passE0 {X : Cx} {P : Program} {w : World} : Passes (L2.CX P w) X E0 := fun _ _ _ _ _ _ _ ⟨_, _, _, _, _, _, _, _, _, _, _, _, z⟩ => z.elim
abbrev XA (P : Program) (w : World) (K : PySem.W.Frag) (mg : Str → Option Value) (base : Heap) (N : List Str) (qual : Str) (scope : Scope) (f : Addr) (cd : Value) (A : Around) (outer : List Env) (s : Shared) (H : Hp) (E : XK) : Cx := cxOf (L2.CX P w) P w K mg base N qual scope f cd A outer s H E
theorem takesA {P : Program} {w : World} {K : PySem.W.Frag} {mg : Str → Option Value} {base : Heap} {N : List Str} {qual : Str} {scope : Scope} {f : Addr} {cd : Value} {A : Around} {outer : List Env} {s : Shared} {H : Hp} {E : XK} :
    Takes (XA P w K mg base N qual scope f cd A outer s H E) (fun cls d _ H => E cls d H) := takes_of rfl rfl rfl rfl
/-- what a def lets out its caller lets out -/
theorem passA {P : Program} {w : World} {K : PySem.W.Frag} {mg : Str → Option Value} {base : Heap} {N : List Str} {qual : Str} {scope : Scope} {f : Addr} {cd : Value} {A : Around} {outer : List Env} {s : Shared} {H : Hp} {E : XK} :
    Passes (L2.CX P w) (XA P w K mg base N qual scope f cd A outer s H E) E := passes_call takesA fun _ _ _ _ h => h
theorem ownsA {P : Program} {w : World} {K : PySem.W.Frag} {mg : Str → Option Value} {base : Heap} {N : List Str} {qual : Str} {scope : Scope} {f : Addr} {cd : Value} {A : Around} {outer : List Env} {s : Shared} {H : Hp} {E : XK} :
    PassesOwn (model P w) (XA P w K mg base N qual scope f cd A outer s H E).A (XA P w K mg base N qual scope f cd A outer s H E).env (XA P w K mg base N qual scope f cd A outer s H E).xe :=
  passes_of (X := XA P w K mg base N qual scope f cd A outer s H E) (K := fun e s'' => L2.CX P w outer H s E e s'') (E₁ := fun e' s'' => L2.CX P w outer H s E e' s'') rfl
/-- the text of these codes -/
def S (l : List Nat) : Str := ⟨l.toArray⟩
theorem S_cps (l : List Nat) : (S l).cps.toList = l := by simp [S]
theorem S_inj {a b : List Nat} (h : S a = S b) : a = b := by
  have := congrArg (fun z : Str => z.cps.toList) h
  simpa [S] using this
theorem S_eq (z : Str) : S z.cps.toList = z := by
  obtain ⟨c⟩ := z
  simp [S]
theorem S_len (l : List Nat) : (S l).length = l.length := by
  show (S l).cps.size = _
  simp [S]
end GX

-- text K1Base
set_option maxRecDepth 100000
set_option maxHeartbeats 4000000
namespace K1
open PySem PySem.Spec PyProof.Rows L2 LamX GX
theorem nodup_addr {l : List Addr} (hN : l.Nodup) {i j : Nat} {x : Addr} (a : l[i]? = some x) (b : l[j]? = some x) : i = j := by
  obtain ⟨h1, e1⟩ := List.getElem?_eq_some_iff.mp a
  obtain ⟨h2, e2⟩ := List.getElem?_eq_some_iff.mp b
  exact (List.getElem_inj hN).mp (e1.trans e2.symm)
def top (i : Nat) : Stmt := PySem.Challenge.pw_signalstack_k01_codes_and_signs.main.body.getD i (.Pass ⟨0, 0, 0, 0⟩)
abbrev s_Book_init : Stmt := inClass (top 6) 0
abbrev n_Book_init : List Str := (["self", "shutters", "words", "once", "word"] : List Str)
abbrev p_Book_init : List Str := (["self", "shutters", "words"] : List Str)
theorem sc_Book_init : FnScope n_Book_init p_Book_init (defScope s_Book_init) := ⟨rfl, rfl, rfl, by decide +kernel, rfl, by decide +kernel, by decide +kernel⟩
/- slots of Book_init: 0 self, 1 shutters, 2 words, 3 once, 4 word -/
abbrev s_Book_sign : Stmt := inClass (top 6) 1
abbrev n_Book_sign : List Str := (["self", "word", "place", "found", "shutter"] : List Str)
abbrev p_Book_sign : List Str := (["self", "word"] : List Str)
theorem sc_Book_sign : FnScope n_Book_sign p_Book_sign (defScope s_Book_sign) := ⟨rfl, rfl, rfl, by decide +kernel, rfl, by decide +kernel, by decide +kernel⟩
/- slots of Book_sign: 0 self, 1 word, 2 place, 3 found, 4 shutter -/
abbrev s_Book_word : Stmt := inClass (top 6) 2
abbrev n_Book_word : List Str := (["self", "sign", "place", "one"] : List Str)
abbrev p_Book_word : List Str := (["self", "sign"] : List Str)
theorem sc_Book_word : FnScope n_Book_word p_Book_word (defScope s_Book_word) := ⟨rfl, rfl, rfl, by decide +kernel, rfl, by decide +kernel, by decide +kernel⟩
/- slots of Book_word: 0 self, 1 sign, 2 place, 3 one -/
abbrev s_Book_told : Stmt := inClass (top 6) 3
abbrev n_Book_told : List Str := (["self", "text", "found", "word", "parts", "part"] : List Str)
abbrev p_Book_told : List Str := (["self", "text"] : List Str)
theorem sc_Book_told : FnScope n_Book_told p_Book_told (defScope s_Book_told) := ⟨rfl, rfl, rfl, by decide +kernel, rfl, by decide +kernel, by decide +kernel⟩
/- slots of Book_told: 0 self, 1 text, 2 found, 3 word, 4 parts, 5 part -/
abbrev s_Book_read : Stmt := inClass (top 6) 4
abbrev n_Book_read : List Str := (["self", "signs", "found", "sign", "word"] : List Str)
abbrev p_Book_read : List Str := (["self", "signs"] : List Str)
theorem sc_Book_read : FnScope n_Book_read p_Book_read (defScope s_Book_read) := ⟨rfl, rfl, rfl, by decide +kernel, rfl, by decide +kernel, by decide +kernel⟩
/- slots of Book_read: 0 self, 1 signs, 2 found, 3 sign, 4 word -/
abbrev s_Book_changes : Stmt := inClass (top 6) 5
abbrev n_Book_changes : List Str := (["self", "text", "last", "found", "sign"] : List Str)
abbrev p_Book_changes : List Str := (["self", "text"] : List Str)
theorem sc_Book_changes : FnScope n_Book_changes p_Book_changes (defScope s_Book_changes) := ⟨rfl, rfl, rfl, by decide +kernel, rfl, by decide +kernel, by decide +kernel⟩
/- slots of Book_changes: 0 self, 1 text, 2 last, 3 found, 4 sign -/
abbrev s_check_sign : Stmt := top 7
abbrev n_check_sign : List Str := (["sign", "one"] : List Str)
abbrev p_check_sign : List Str := (["sign"] : List Str)
theorem sc_check_sign : FnScope n_check_sign p_check_sign (defScope s_check_sign) := ⟨rfl, rfl, rfl, by decide +kernel, rfl, by decide +kernel, by decide +kernel⟩
/- slots of check_sign: 0 sign, 1 one -/
abbrev s_far : Stmt := top 8
abbrev n_far : List Str := (["one", "other", "mine", "yours"] : List Str)
abbrev p_far : List Str := (["one", "other"] : List Str)
theorem sc_far : FnScope n_far p_far (defScope s_far) := ⟨rfl, rfl, rfl, by decide +kernel, rfl, by decide +kernel, by decide +kernel⟩
/- slots of far: 0 one, 1 other, 2 mine, 3 yours -/
abbrev s_nearest_pair : Stmt := top 9
abbrev n_nearest_pair : List Str := (["signs", "place", "one", "other"] : List Str)
abbrev p_nearest_pair : List Str := (["signs"] : List Str)
theorem sc_nearest_pair : FnScope n_nearest_pair p_nearest_pair (defScope s_nearest_pair) := ⟨rfl, rfl, rfl, by decide +kernel, rfl, by decide +kernel, by decide +kernel⟩
/- slots of nearest_pair: 0 signs, 1 place, 2 one, 3 other -/
abbrev s_with_check : Stmt := top 10
abbrev n_with_check : List Str := (["sign"] : List Str)
abbrev p_with_check : List Str := (["sign"] : List Str)
theorem sc_with_check : FnScope n_with_check p_with_check (defScope s_with_check) := ⟨rfl, rfl, rfl, by decide +kernel, rfl, by decide +kernel, by decide +kernel⟩
/- slots of with_check: 0 sign -/
abbrev s_is_whole : Stmt := top 11
abbrev n_is_whole : List Str := (["sign"] : List Str)
abbrev p_is_whole : List Str := (["sign"] : List Str)
theorem sc_is_whole : FnScope n_is_whole p_is_whole (defScope s_is_whole) := ⟨rfl, rfl, rfl, by decide +kernel, rfl, by decide +kernel, by decide +kernel⟩
/- slots of is_whole: 0 sign -/
abbrev s_guarded : Stmt := top 12
abbrev n_guarded : List Str := (["sign", "a", "b", "c", "d", "one"] : List Str)
abbrev p_guarded : List Str := (["sign"] : List Str)
theorem sc_guarded : FnScope n_guarded p_guarded (defScope s_guarded) := ⟨rfl, rfl, rfl, by decide +kernel, rfl, by decide +kernel, by decide +kernel⟩
/- slots of guarded: 0 sign, 1 a, 2 b, 3 c, 4 d, 5 one -/
abbrev s_mended : Stmt := top 13
abbrev n_mended : List Str := (["sign", "place", "other", "found"] : List Str)
abbrev p_mended : List Str := (["sign"] : List Str)
theorem sc_mended : FnScope n_mended p_mended (defScope s_mended) := ⟨rfl, rfl, rfl, by decide +kernel, rfl, by decide +kernel, by decide +kernel⟩
/- slots of mended: 0 sign, 1 place, 2 other, 3 found -/
abbrev s_short_signs : Stmt := top 14
abbrev n_short_signs : List Str := (["counts", "heaps", "turn", "one", "other", "both", "table", "name", "place", "sign"] : List Str)
abbrev p_short_signs : List Str := (["counts"] : List Str)
theorem sc_short_signs : FnScope n_short_signs p_short_signs (defScope s_short_signs) := ⟨rfl, rfl, rfl, by decide +kernel, rfl, by decide +kernel, by decide +kernel⟩
/- slots of short_signs: 0 counts, 1 heaps, 2 turn, 3 one, 4 other, 5 both, 6 table, 7 name, 8 place, 9 sign -/
abbrev s_heap_key : Stmt := top 15
abbrev n_heap_key : List Str := (["heap"] : List Str)
abbrev p_heap_key : List Str := (["heap"] : List Str)
theorem sc_heap_key : FnScope n_heap_key p_heap_key (defScope s_heap_key) := ⟨rfl, rfl, rfl, by decide +kernel, rfl, by decide +kernel, by decide +kernel⟩
/- slots of heap_key: 0 heap -/
abbrev s_whole_length : Stmt := top 16
abbrev n_whole_length : List Str := (["counts", "signs", "name"] : List Str)
abbrev p_whole_length : List Str := (["counts", "signs"] : List Str)
theorem sc_whole_length : FnScope n_whole_length p_whole_length (defScope s_whole_length) := ⟨rfl, rfl, rfl, by decide +kernel, rfl, by decide +kernel, by decide +kernel⟩
/- slots of whole_length: 0 counts, 1 signs, 2 name -/
abbrev s_cut_up : Stmt := top 17
abbrev n_cut_up : List Str := (["text", "signs", "names", "one", "found", "left", "ready", "name", "other"] : List Str)
abbrev p_cut_up : List Str := (["text", "signs"] : List Str)
theorem sc_cut_up : FnScope n_cut_up p_cut_up (defScope s_cut_up) := ⟨rfl, rfl, rfl, by decide +kernel, rfl, by decide +kernel, by decide +kernel⟩
/- slots of cut_up: 0 text, 1 signs, 2 names, 3 one, 4 found, 5 left, 6 ready, 7 name, 8 other -/
abbrev s_l_dice : Stmt := top 19
abbrev n_l_dice : List Str := (["cell"] : List Str)
abbrev p_l_dice : List Str := (["cell"] : List Str)
theorem sc_l_dice : FnScope n_l_dice p_l_dice (defScope s_l_dice) := ⟨rfl, rfl, rfl, by decide +kernel, rfl, by decide +kernel, by decide +kernel⟩
/- slots of l_dice: 0 cell -/
abbrev s_l_roll : Stmt := top 20
abbrev n_l_roll : List Str := (["dice", "many", "found"] : List Str)
abbrev p_l_roll : List Str := (["dice", "many"] : List Str)
theorem sc_l_roll : FnScope n_l_roll p_l_roll (defScope s_l_roll) := ⟨rfl, rfl, rfl, by decide +kernel, rfl, by decide +kernel, by decide +kernel⟩
/- slots of l_roll: 0 dice, 1 many, 2 found -/
abbrev s_l_rounds : Stmt := top 21
abbrev n_l_rounds : List Str := (["script", "most", "cells", "cell"] : List Str)
abbrev p_l_rounds : List Str := (["script", "most"] : List Str)
theorem sc_l_rounds : FnScope n_l_rounds p_l_rounds (defScope s_l_rounds) := ⟨rfl, rfl, rfl, by decide +kernel, rfl, by decide +kernel, by decide +kernel⟩
/- slots of l_rounds: 0 script, 1 most, 2 cells, 3 cell -/
abbrev s_l_told : Stmt := top 22
abbrev n_l_told : List Str := (["what"] : List Str)
abbrev p_l_told : List Str := (["what"] : List Str)
theorem sc_l_told : FnScope n_l_told p_l_told (defScope s_l_told) := ⟨rfl, rfl, rfl, by decide +kernel, rfl, by decide +kernel, by decide +kernel⟩
/- slots of l_told: 0 what -/
abbrev s_l_sign : Stmt := top 23
abbrev n_l_sign : List Str := (["place", "shutters", "found", "k"] : List Str)
abbrev p_l_sign : List Str := (["place", "shutters"] : List Str)
theorem sc_l_sign : FnScope n_l_sign p_l_sign (defScope s_l_sign) := ⟨rfl, rfl, rfl, by decide +kernel, rfl, by decide +kernel, by decide +kernel⟩
/- slots of l_sign: 0 place, 1 shutters, 2 found, 3 k -/
abbrev s_l_parts : Stmt := top 24
abbrev n_l_parts : List Str := (["words", "text", "found", "word", "part"] : List Str)
abbrev p_l_parts : List Str := (["words", "text"] : List Str)
theorem sc_l_parts : FnScope n_l_parts p_l_parts (defScope s_l_parts) := ⟨rfl, rfl, rfl, by decide +kernel, rfl, by decide +kernel, by decide +kernel⟩
/- slots of l_parts: 0 words, 1 text, 2 found, 3 word, 4 part -/
abbrev s_l_least : Stmt := top 25
abbrev n_l_least : List Str := (["counts", "best", "k", "j", "rest", "whole", "place", "one"] : List Str)
abbrev p_l_least : List Str := (["counts"] : List Str)
theorem sc_l_least : FnScope n_l_least p_l_least (defScope s_l_least) := ⟨rfl, rfl, rfl, by decide +kernel, rfl, by decide +kernel, by decide +kernel⟩
/- slots of l_least: 0 counts, 1 best, 2 k, 3 j, 4 rest, 5 whole, 6 place, 7 one -/
abbrev s_l_plain : Stmt := top 26
abbrev n_l_plain : List Str := (["book", "bad", "f"] : List Str)
abbrev p_l_plain : List Str := ([] : List Str)
theorem sc_l_plain : FnScope n_l_plain p_l_plain (defScope s_l_plain) := ⟨rfl, rfl, rfl, by decide +kernel, rfl, by decide +kernel, by decide +kernel⟩
/- slots of l_plain: 0 book, 1 bad, 2 f -/
abbrev s_law : Stmt := top 27
abbrev n_law : List Str := (["script", "whole", "dice", "shutters", "words", "book", "place", "word", "some", "due", "sign", "near"] : List Str) ++ (["k", "one", "text", "parts", "signs", "moves", "a", "b", "c", "d", "seven", "wrong"] : List Str) ++ (["more", "counts", "short", "length", "names", "joined", "other", "x", "y", "part", "name"] : List Str)
abbrev p_law : List Str := (["script"] : List Str)
theorem sc_law : FnScope n_law p_law (defScope s_law) := ⟨rfl, rfl, rfl, by decide +kernel, rfl, by decide +kernel, by decide +kernel⟩
/- slots of law: 0 script, 1 whole, 2 dice, 3 shutters, 4 words, 5 book, 6 place, 7 word, 8 some, 9 due, 10 sign, 11 near, 12 k, 13 one, 14 text, 15 parts, 16 signs, 17 moves, 18 a, 19 b, 20 c, 21 d, 22 seven, 23 wrong, 24 more, 25 counts, 26 short, 27 length, 28 names, 29 joined, 30 other, 31 x, 32 y, 33 part, 34 name -/
open He in
def fn : List DefD := [
  ⟨("Book", some "__init__"), "__init__", "Book.__init__", defArgs s_Book_init, defBody s_Book_init, defScope s_Book_init, [], []⟩,
  ⟨("Book", some "sign"), "sign", "Book.sign", defArgs s_Book_sign, defBody s_Book_sign, defScope s_Book_sign, [], []⟩,
  ⟨("Book", some "word"), "word", "Book.word", defArgs s_Book_word, defBody s_Book_word, defScope s_Book_word, [], []⟩,
  ⟨("Book", some "told"), "told", "Book.told", defArgs s_Book_told, defBody s_Book_told, defScope s_Book_told, [], []⟩,
  ⟨("Book", some "read"), "read", "Book.read", defArgs s_Book_read, defBody s_Book_read, defScope s_Book_read, [], []⟩,
  ⟨("Book", some "changes"), "changes", "Book.changes", defArgs s_Book_changes, defBody s_Book_changes, defScope s_Book_changes, [], []⟩,
  ⟨("check_sign", none), "check_sign", "check_sign", defArgs s_check_sign, defBody s_check_sign, defScope s_check_sign, [], []⟩,
  ⟨("far", none), "far", "far", defArgs s_far, defBody s_far, defScope s_far, [], []⟩,
  ⟨("nearest_pair", none), "nearest_pair", "nearest_pair", defArgs s_nearest_pair, defBody s_nearest_pair, defScope s_nearest_pair, [], []⟩,
  ⟨("with_check", none), "with_check", "with_check", defArgs s_with_check, defBody s_with_check, defScope s_with_check, [], []⟩,
  ⟨("is_whole", none), "is_whole", "is_whole", defArgs s_is_whole, defBody s_is_whole, defScope s_is_whole, [], []⟩,
  ⟨("guarded", none), "guarded", "guarded", defArgs s_guarded, defBody s_guarded, defScope s_guarded, [], []⟩,
  ⟨("mended", none), "mended", "mended", defArgs s_mended, defBody s_mended, defScope s_mended, [], []⟩,
  ⟨("short_signs", none), "short_signs", "short_signs", defArgs s_short_signs, defBody s_short_signs, defScope s_short_signs, [], []⟩,
  ⟨("heap_key", none), "heap_key", "heap_key", defArgs s_heap_key, defBody s_heap_key, defScope s_heap_key, [], []⟩,
  ⟨("whole_length", none), "whole_length", "whole_length", defArgs s_whole_length, defBody s_whole_length, defScope s_whole_length, [], []⟩,
  ⟨("cut_up", none), "cut_up", "cut_up", defArgs s_cut_up, defBody s_cut_up, defScope s_cut_up, [], []⟩,
  ⟨("_law_dice", none), "_law_dice", "_law_dice", defArgs s_l_dice, defBody s_l_dice, defScope s_l_dice, [], []⟩,
  ⟨("_law_roll", none), "_law_roll", "_law_roll", defArgs s_l_roll, defBody s_l_roll, defScope s_l_roll, [], []⟩,
  ⟨("_law_rounds", none), "_law_rounds", "_law_rounds", defArgs s_l_rounds, defBody s_l_rounds, defScope s_l_rounds, [], []⟩,
  ⟨("_law_told", none), "_law_told", "_law_told", defArgs s_l_told, defBody s_l_told, defScope s_l_told, [], []⟩,
  ⟨("_law_sign", none), "_law_sign", "_law_sign", defArgs s_l_sign, defBody s_l_sign, defScope s_l_sign, [], []⟩,
  ⟨("_law_parts", none), "_law_parts", "_law_parts", defArgs s_l_parts, defBody s_l_parts, defScope s_l_parts, [], []⟩,
  ⟨("_law_least", none), "_law_least", "_law_least", defArgs s_l_least, defBody s_l_least, defScope s_l_least, [], []⟩,
  ⟨("_law_plain", none), "_law_plain", "_law_plain", defArgs s_l_plain, defBody s_l_plain, defScope s_l_plain, [], []⟩,
  ⟨("law", none), "law", "law", defArgs s_law, defBody s_law, defScope s_law, [], []⟩]
open He in
def fa : List Fa := [
  .glo "check_sign",
  .glo "far",
  .glo "nearest_pair",
  .glo "with_check",
  .glo "is_whole",
  .glo "guarded",
  .glo "mended",
  .glo "short_signs",
  .glo "heap_key",
  .glo "whole_length",
  .glo "cut_up",
  .glo "_law_dice",
  .glo "_law_roll",
  .glo "_law_rounds",
  .glo "_law_told",
  .glo "_law_sign",
  .glo "_law_parts",
  .glo "_law_least",
  .glo "_law_plain",
  .glo "law",
  .glo "Book",
  .cls "Book",
  .mkr "Book",
  .meth "Book" "sign",
  .meth "Book" "word",
  .meth "Book" "told",
  .meth "Book" "read",
  .meth "Book" "changes",
  .noat "Book" "shutters",
  .noat "Book" "words",
  .glo "SignalError",
  .exc "SignalError",
  .exm "SignalError" "SignalError" true,
  .exm "SignalError" "CodeError" false,
  .glo "CodeError",
  .exc "CodeError",
  .exm "CodeError" "SignalError" true,
  .exm "CodeError" "CodeError" true,
  .int "MOST_SHUTTERS" 10,
  .int "MOST_WORDS" 200,
  .free "abs",
  .free "any",
  .free "dict",
  .free "enumerate",
  .free "int",
  .free "len",
  .free "list",
  .free "min",
  .free "range",
  .free "sorted",
  .free "str",
  .free "sum",
  .free "tuple",
  .free "zip"]
/-- the defs that make code objects: where they stand, the name of what they make -/
def tq : List (He.Defn × Str) := [(("Book", some "__init__"), ("Book.__init__" : Str) ++ ".<locals>." ++ "<genexpr>"),
  (("Book", some "read"), ("Book.read" : Str) ++ ".<locals>." ++ "<genexpr>"),
  (("check_sign", none), ("check_sign" : Str) ++ ".<locals>." ++ "<genexpr>"),
  (("nearest_pair", none), ("nearest_pair" : Str) ++ ".<locals>." ++ "<genexpr>"),
  (("short_signs", none), ("short_signs" : Str) ++ ".<locals>." ++ "<genexpr>"),
  (("whole_length", none), ("whole_length" : Str) ++ ".<locals>." ++ "<genexpr>"),
  (("cut_up", none), ("cut_up" : Str) ++ ".<locals>." ++ "<genexpr>"),
  (("_law_plain", none), ("_law_plain" : Str) ++ ".<locals>." ++ "<lambda>"),
  (("law", none), ("law" : Str) ++ ".<locals>." ++ "<lambda>")]
def tf : List He.Defn := tq.map (·.1)
def T (K : PySem.W.Frag) : List (Addr × Str) := tq.map fun p => ((He.cT K p.1).2, p.2)
def ex (K : PySem.W.Frag) : Bool := decide ((tf.map fun p => (He.cT K p).2).Nodup)
theorem T_mem {K : PySem.W.Frag} (i : Nat) {p : He.Defn} {q : Str} (h : tq[i]? = some (p, q) := by rfl) : ((He.cT K p).2, q) ∈ T K := List.mem_map.mpr ⟨(p, q), List.mem_of_getElem? h, rfl⟩
theorem tf_mem (i : Nat) {p : He.Defn} {q : Str} (h : tq[i]? = some (p, q) := by rfl) : p ∈ tf := List.mem_map.mpr ⟨(p, q), List.mem_of_getElem? h, rfl⟩
theorem T_uniq {K : PySem.W.Frag} (hx : ex K = true) (i : Nat) {p : He.Defn} {q : Str} (h : tq[i]? = some (p, q) := by rfl) : ∀ r ∈ T K, r.1 = (He.cT K p).2 → r.2 = q := by
  have nd : (tf.map fun p => (He.cT K p).2).Nodup := of_decide_eq_true hx
  have e : (tf.map fun p => (He.cT K p).2) = (T K).map (·.1) := by
    unfold tf T
    rw [List.map_map, List.map_map]
    rfl
  rw [e] at nd
  intro r hr er
  obtain ⟨j, hj, ej⟩ := List.mem_iff_getElem.mp hr
  have hi : (T K)[i]? = some ((He.cT K p).2, q) := by
    show (tq.map fun p => ((He.cT K p.1).2, p.2))[i]? = _
    rw [List.getElem?_map, h]
    rfl
  have hj2 : (T K)[j]? = some r := by rw [List.getElem?_eq_getElem hj, ej]
  have m1 : ((T K).map (·.1))[i]? = some (He.cT K p).2 := by rw [List.getElem?_map, hi] <;> rfl
  have m2 : ((T K).map (·.1))[j]? = some (He.cT K p).2 := by
    rw [List.getElem?_map, hj2] <;> exact congrArg some er
  have hij : i = j := nodup_addr nd m1 m2
  rw [← hij, hi] at hj2
  exact (congrArg Prod.snd (Option.some.inj hj2)).symm
/-- what is known of the top -/
structure Txt (K : PySem.W.Frag) (mg : Str → Option Value) : Prop where
  m_check_sign : mg "check_sign" = some (.ref (He.ga K "check_sign"))
  m_far : mg "far" = some (.ref (He.ga K "far"))
  m_nearest_pair : mg "nearest_pair" = some (.ref (He.ga K "nearest_pair"))
  m_with_check : mg "with_check" = some (.ref (He.ga K "with_check"))
  m_is_whole : mg "is_whole" = some (.ref (He.ga K "is_whole"))
  m_guarded : mg "guarded" = some (.ref (He.ga K "guarded"))
  m_mended : mg "mended" = some (.ref (He.ga K "mended"))
  m_short_signs : mg "short_signs" = some (.ref (He.ga K "short_signs"))
  m_heap_key : mg "heap_key" = some (.ref (He.ga K "heap_key"))
  m_whole_length : mg "whole_length" = some (.ref (He.ga K "whole_length"))
  m_cut_up : mg "cut_up" = some (.ref (He.ga K "cut_up"))
  m_l_dice : mg "_law_dice" = some (.ref (He.ga K "_law_dice"))
  m_l_roll : mg "_law_roll" = some (.ref (He.ga K "_law_roll"))
  m_l_rounds : mg "_law_rounds" = some (.ref (He.ga K "_law_rounds"))
  m_l_told : mg "_law_told" = some (.ref (He.ga K "_law_told"))
  m_l_sign : mg "_law_sign" = some (.ref (He.ga K "_law_sign"))
  m_l_parts : mg "_law_parts" = some (.ref (He.ga K "_law_parts"))
  m_l_least : mg "_law_least" = some (.ref (He.ga K "_law_least"))
  m_l_plain : mg "_law_plain" = some (.ref (He.ga K "_law_plain"))
  m_law : mg "law" = some (.ref (He.ga K "law"))
  m_Book : mg "Book" = some (.ref (He.ga K "Book"))
  c_Book : Cls K (He.ga K "Book")
  k_Book : Mk K (He.ga K "Book") (He.ma K (He.ga K "Book") "__init__")
  t_Book_sign : Meth K (He.ga K "Book") "sign" (He.ma K (He.ga K "Book") "sign")
  t_Book_word : Meth K (He.ga K "Book") "word" (He.ma K (He.ga K "Book") "word")
  t_Book_told : Meth K (He.ga K "Book") "told" (He.ma K (He.ga K "Book") "told")
  t_Book_read : Meth K (He.ga K "Book") "read" (He.ma K (He.ga K "Book") "read")
  t_Book_changes : Meth K (He.ga K "Book") "changes" (He.ma K (He.ga K "Book") "changes")
  a_Book_shutters : NoAttr K (He.ga K "Book") "shutters"
  a_Book_words : NoAttr K (He.ga K "Book") "words"
  m_SignalError : mg "SignalError" = some (.ref (He.ga K "SignalError"))
  e_SignalError : PySem.W.excIn K (He.ga K "SignalError") He.veBase "ValueError.__new__" = true ∧ PySem.W.keepIn K (.ref (He.ga K "SignalError")) = true ∧ PySem.W.subIn K (.ref (He.ga K "SignalError")) (.type "BaseException") = some true ∧ PySem.W.typeIn K (.ref (He.ga K "SignalError")) = some (.type "type")
  x_SignalError_SignalError : PySem.W.exmOne K (.ref (He.ga K "SignalError")) (.ref (He.ga K "SignalError")) = some true
  x_SignalError_CodeError : PySem.W.exmOne K (.ref (He.ga K "SignalError")) (.ref (He.ga K "CodeError")) = some false
  m_CodeError : mg "CodeError" = some (.ref (He.ga K "CodeError"))
  e_CodeError : PySem.W.excIn K (He.ga K "CodeError") He.veBase "ValueError.__new__" = true ∧ PySem.W.keepIn K (.ref (He.ga K "CodeError")) = true ∧ PySem.W.subIn K (.ref (He.ga K "CodeError")) (.type "BaseException") = some true ∧ PySem.W.typeIn K (.ref (He.ga K "CodeError")) = some (.type "type")
  x_CodeError_SignalError : PySem.W.exmOne K (.ref (He.ga K "CodeError")) (.ref (He.ga K "SignalError")) = some true
  x_CodeError_CodeError : PySem.W.exmOne K (.ref (He.ga K "CodeError")) (.ref (He.ga K "CodeError")) = some true
  i_MOST_SHUTTERS : ∃ t, mg "MOST_SHUTTERS" = some (.int 10 t)
  i_MOST_WORDS : ∃ t, mg "MOST_WORDS" = some (.int 200 t)
  b_abs : mg "abs" = none
  b_any : mg "any" = none
  b_dict : mg "dict" = none
  b_enumerate : mg "enumerate" = none
  b_int : mg "int" = none
  b_len : mg "len" = none
  b_list : mg "list" = none
  b_min : mg "min" = none
  b_range : mg "range" = none
  b_sorted : mg "sorted" = none
  b_str : mg "str" = none
  b_sum : mg "sum" = none
  b_tuple : mg "tuple" = none
  b_zip : mg "zip" = none
theorem txt_of {K : PySem.W.Frag} {h : Heap} {mg : Str → Option Value} (X : K.In h) (G : h.Ns mainGlobals mg) (c : He.SaysD fa fn K) : Txt K mg where
  m_check_sign := He.glo_ok X G (c.fact 0 rfl)
  m_far := He.glo_ok X G (c.fact 1 rfl)
  m_nearest_pair := He.glo_ok X G (c.fact 2 rfl)
  m_with_check := He.glo_ok X G (c.fact 3 rfl)
  m_is_whole := He.glo_ok X G (c.fact 4 rfl)
  m_guarded := He.glo_ok X G (c.fact 5 rfl)
  m_mended := He.glo_ok X G (c.fact 6 rfl)
  m_short_signs := He.glo_ok X G (c.fact 7 rfl)
  m_heap_key := He.glo_ok X G (c.fact 8 rfl)
  m_whole_length := He.glo_ok X G (c.fact 9 rfl)
  m_cut_up := He.glo_ok X G (c.fact 10 rfl)
  m_l_dice := He.glo_ok X G (c.fact 11 rfl)
  m_l_roll := He.glo_ok X G (c.fact 12 rfl)
  m_l_rounds := He.glo_ok X G (c.fact 13 rfl)
  m_l_told := He.glo_ok X G (c.fact 14 rfl)
  m_l_sign := He.glo_ok X G (c.fact 15 rfl)
  m_l_parts := He.glo_ok X G (c.fact 16 rfl)
  m_l_least := He.glo_ok X G (c.fact 17 rfl)
  m_l_plain := He.glo_ok X G (c.fact 18 rfl)
  m_law := He.glo_ok X G (c.fact 19 rfl)
  m_Book := He.glo_ok X G (c.fact 20 rfl)
  c_Book := He.cls_ok (c.fact 21 rfl)
  k_Book := He.mkr_ok (c.fact 22 rfl)
  t_Book_sign := He.meth_ok (c.fact 23 rfl)
  t_Book_word := He.meth_ok (c.fact 24 rfl)
  t_Book_told := He.meth_ok (c.fact 25 rfl)
  t_Book_read := He.meth_ok (c.fact 26 rfl)
  t_Book_changes := He.meth_ok (c.fact 27 rfl)
  a_Book_shutters := He.noat_ok (c.fact 28 rfl)
  a_Book_words := He.noat_ok (c.fact 29 rfl)
  m_SignalError := He.glo_ok X G (c.fact 30 rfl)
  e_SignalError := He.exc_ok (c.fact 31 rfl)
  x_SignalError_SignalError := He.exm_ok (c.fact 32 rfl)
  x_SignalError_CodeError := He.exm_ok (c.fact 33 rfl)
  m_CodeError := He.glo_ok X G (c.fact 34 rfl)
  e_CodeError := He.exc_ok (c.fact 35 rfl)
  x_CodeError_SignalError := He.exm_ok (c.fact 36 rfl)
  x_CodeError_CodeError := He.exm_ok (c.fact 37 rfl)
  i_MOST_SHUTTERS := He.int_ok X G (c.fact 38 rfl)
  i_MOST_WORDS := He.int_ok X G (c.fact 39 rfl)
  b_abs := He.free_ok X G (c.fact 40 rfl)
  b_any := He.free_ok X G (c.fact 41 rfl)
  b_dict := He.free_ok X G (c.fact 42 rfl)
  b_enumerate := He.free_ok X G (c.fact 43 rfl)
  b_int := He.free_ok X G (c.fact 44 rfl)
  b_len := He.free_ok X G (c.fact 45 rfl)
  b_list := He.free_ok X G (c.fact 46 rfl)
  b_min := He.free_ok X G (c.fact 47 rfl)
  b_range := He.free_ok X G (c.fact 48 rfl)
  b_sorted := He.free_ok X G (c.fact 49 rfl)
  b_str := He.free_ok X G (c.fact 50 rfl)
  b_sum := He.free_ok X G (c.fact 51 rfl)
  b_tuple := He.free_ok X G (c.fact 52 rfl)
  b_zip := He.free_ok X G (c.fact 53 rfl)
/-- a def as the top has left it; its code object is at c -/
structure DefC (K : PySem.W.Frag) (p : He.Defn) (x qual : Str) (st : Stmt) (dvs : List V) (fd : FuncData) : Prop where
  ex : ∃ (oc : Value) (od : Option Addr) (dV kV doc pm : Value) (an : Option Addr) (ct : Value) (osl : Array (Option Value)),
    fd = PySem.W.fnOf x qual (defArgs st) (defBody st) (defScope st) dV kV doc pm an (.ref (He.cT K p).1) ct ∧ K.lookup (He.fAd K p) = some ⟨oc, od, .func fd, osl⟩ ∧ PySem.W.codeIn K (.ref (He.cT K p).1) qual = true ∧ DflV K dV dvs ∧ KwdV K kV []
  kp : PySem.W.keepIn K (.ref (He.fAd K p)) = true
theorem defC_of {K : PySem.W.Frag} {p : He.Defn} {x qual : Str} {st : Stmt} {dvs : List V} {fd : FuncData} (F : FunD K x qual (defArgs st) (defBody st) (defScope st) dvs [] (He.fAd K p) fd) : DefC K p x qual st dvs fd := by
  obtain ⟨oc, od, dV, kV, doc, pm, an, cdv, ct, osl, e, lk, hcd, hd, hk⟩ := F.ex
  obtain ⟨c, e2⟩ := He.codeIn_ref hcd
  subst e2
  have e3 : (He.cT K p).1 = c := He.codeOf_eq lk (by rw [e] <;> rfl)
  refine ⟨⟨oc, od, dV, kV, doc, pm, an, ct, osl, by rw [e3]; exact e, lk, by rw [e3]; exact hcd, hd, hk⟩, F.kp⟩
theorem DefC.funD {K : PySem.W.Frag} {p : He.Defn} {x qual : Str} {st : Stmt} {dvs : List V} {fd : FuncData} (F : DefC K p x qual st dvs fd) : FunD K x qual (defArgs st) (defBody st) (defScope st) dvs [] (He.fAd K p) fd := by
  obtain ⟨oc, od, dV, kV, doc, pm, an, ct, osl, e, lk, hcd, hd, hk⟩ := F.ex
  exact ⟨⟨oc, od, dV, kV, doc, pm, an, _, ct, osl, e, lk, hcd, hd, hk⟩, F.kp⟩
theorem DefC.ok {P : Program} {w : World} {K : PySem.W.Frag} {mg : Str → Option Value} {base : Heap} {p : He.Defn} {x qual : Str} {st : Stmt} {dvs : List V} {fd : FuncData} {CX : CXT} {N ps : List Str} {k : Nat} {sp : Sp} (F : DefC K p x qual st dvs fd) (S : FnScope N ps (defScope st)) (len : ∀ vs H Q E, sp vs H Q E → vs.length = ps.length)
    (hbody : ∀ (A : Around) (outer : List Env) (s : Shared) (H : Hp) (vs : List V) (Q : VK) (E : XK), Room k (A.deeper (envOfC qual (defScope st) s.heap.objs.size (He.fAd K p) (.ref (He.cT K p).1))) → sp vs H Q E →
      ∃ t, PSs (cxOf CX P w K mg base N qual (defScope st) (He.fAd K p) (.ref (He.cT K p).1) A outer s H E) (defBody st) t ∧ t { nx := fun _ H' => Q .non H', rt := Q } (start N vs) H) : FnOk P w K mg base CX (k + 1) (He.fAd K p) fd ps sp := by
  obtain ⟨oc, od, dV, kV, doc, pm, an, ct, osl, rfl, lk, hcd, _, _⟩ := F.ex
  exact fn_of lk hcd S len fun A outer s H vs Q E hr hsp => hbody A outer s H vs Q E hr hsp
/-- each def of the text -/
structure Defs (K : PySem.W.Frag) : Prop where
  d_Book_init : ∃ fd, DefC K ("Book", some "__init__") "__init__" "Book.__init__" s_Book_init [] fd
  d_Book_sign : ∃ fd, DefC K ("Book", some "sign") "sign" "Book.sign" s_Book_sign [] fd
  d_Book_word : ∃ fd, DefC K ("Book", some "word") "word" "Book.word" s_Book_word [] fd
  d_Book_told : ∃ fd, DefC K ("Book", some "told") "told" "Book.told" s_Book_told [] fd
  d_Book_read : ∃ fd, DefC K ("Book", some "read") "read" "Book.read" s_Book_read [] fd
  d_Book_changes : ∃ fd, DefC K ("Book", some "changes") "changes" "Book.changes" s_Book_changes [] fd
  d_check_sign : ∃ fd, DefC K ("check_sign", none) "check_sign" "check_sign" s_check_sign [] fd
  d_far : ∃ fd, DefC K ("far", none) "far" "far" s_far [] fd
  d_nearest_pair : ∃ fd, DefC K ("nearest_pair", none) "nearest_pair" "nearest_pair" s_nearest_pair [] fd
  d_with_check : ∃ fd, DefC K ("with_check", none) "with_check" "with_check" s_with_check [] fd
  d_is_whole : ∃ fd, DefC K ("is_whole", none) "is_whole" "is_whole" s_is_whole [] fd
  d_guarded : ∃ fd, DefC K ("guarded", none) "guarded" "guarded" s_guarded [] fd
  d_mended : ∃ fd, DefC K ("mended", none) "mended" "mended" s_mended [] fd
  d_short_signs : ∃ fd, DefC K ("short_signs", none) "short_signs" "short_signs" s_short_signs [] fd
  d_heap_key : ∃ fd, DefC K ("heap_key", none) "heap_key" "heap_key" s_heap_key [] fd
  d_whole_length : ∃ fd, DefC K ("whole_length", none) "whole_length" "whole_length" s_whole_length [] fd
  d_cut_up : ∃ fd, DefC K ("cut_up", none) "cut_up" "cut_up" s_cut_up [] fd
  d_l_dice : ∃ fd, DefC K ("_law_dice", none) "_law_dice" "_law_dice" s_l_dice [] fd
  d_l_roll : ∃ fd, DefC K ("_law_roll", none) "_law_roll" "_law_roll" s_l_roll [] fd
  d_l_rounds : ∃ fd, DefC K ("_law_rounds", none) "_law_rounds" "_law_rounds" s_l_rounds [] fd
  d_l_told : ∃ fd, DefC K ("_law_told", none) "_law_told" "_law_told" s_l_told [] fd
  d_l_sign : ∃ fd, DefC K ("_law_sign", none) "_law_sign" "_law_sign" s_l_sign [] fd
  d_l_parts : ∃ fd, DefC K ("_law_parts", none) "_law_parts" "_law_parts" s_l_parts [] fd
  d_l_least : ∃ fd, DefC K ("_law_least", none) "_law_least" "_law_least" s_l_least [] fd
  d_l_plain : ∃ fd, DefC K ("_law_plain", none) "_law_plain" "_law_plain" s_l_plain [] fd
  d_law : ∃ fd, DefC K ("law", none) "law" "law" s_law [] fd
theorem defs_of {K : PySem.W.Frag} (c : He.SaysD fa fn K) : Defs K where
  d_Book_init := let ⟨fd, F⟩ := c.def_ 0 rfl; ⟨fd, defC_of F⟩
  d_Book_sign := let ⟨fd, F⟩ := c.def_ 1 rfl; ⟨fd, defC_of F⟩
  d_Book_word := let ⟨fd, F⟩ := c.def_ 2 rfl; ⟨fd, defC_of F⟩
  d_Book_told := let ⟨fd, F⟩ := c.def_ 3 rfl; ⟨fd, defC_of F⟩
  d_Book_read := let ⟨fd, F⟩ := c.def_ 4 rfl; ⟨fd, defC_of F⟩
  d_Book_changes := let ⟨fd, F⟩ := c.def_ 5 rfl; ⟨fd, defC_of F⟩
  d_check_sign := let ⟨fd, F⟩ := c.def_ 6 rfl; ⟨fd, defC_of F⟩
  d_far := let ⟨fd, F⟩ := c.def_ 7 rfl; ⟨fd, defC_of F⟩
  d_nearest_pair := let ⟨fd, F⟩ := c.def_ 8 rfl; ⟨fd, defC_of F⟩
  d_with_check := let ⟨fd, F⟩ := c.def_ 9 rfl; ⟨fd, defC_of F⟩
  d_is_whole := let ⟨fd, F⟩ := c.def_ 10 rfl; ⟨fd, defC_of F⟩
  d_guarded := let ⟨fd, F⟩ := c.def_ 11 rfl; ⟨fd, defC_of F⟩
  d_mended := let ⟨fd, F⟩ := c.def_ 12 rfl; ⟨fd, defC_of F⟩
  d_short_signs := let ⟨fd, F⟩ := c.def_ 13 rfl; ⟨fd, defC_of F⟩
  d_heap_key := let ⟨fd, F⟩ := c.def_ 14 rfl; ⟨fd, defC_of F⟩
  d_whole_length := let ⟨fd, F⟩ := c.def_ 15 rfl; ⟨fd, defC_of F⟩
  d_cut_up := let ⟨fd, F⟩ := c.def_ 16 rfl; ⟨fd, defC_of F⟩
  d_l_dice := let ⟨fd, F⟩ := c.def_ 17 rfl; ⟨fd, defC_of F⟩
  d_l_roll := let ⟨fd, F⟩ := c.def_ 18 rfl; ⟨fd, defC_of F⟩
  d_l_rounds := let ⟨fd, F⟩ := c.def_ 19 rfl; ⟨fd, defC_of F⟩
  d_l_told := let ⟨fd, F⟩ := c.def_ 20 rfl; ⟨fd, defC_of F⟩
  d_l_sign := let ⟨fd, F⟩ := c.def_ 21 rfl; ⟨fd, defC_of F⟩
  d_l_parts := let ⟨fd, F⟩ := c.def_ 22 rfl; ⟨fd, defC_of F⟩
  d_l_least := let ⟨fd, F⟩ := c.def_ 23 rfl; ⟨fd, defC_of F⟩
  d_l_plain := let ⟨fd, F⟩ := c.def_ 24 rfl; ⟨fd, defC_of F⟩
  d_law := let ⟨fd, F⟩ := c.def_ 25 rfl; ⟨fd, defC_of F⟩
/-- all of it, over a base -/
structure Ctx (K : PySem.W.Frag) (mg : Str → Option Value) (base : Heap) : Prop where
  t : Txt K mg
  d : Defs K
  b : ∀ p ∈ tf, TabB base mg (He.cT K p).1 (He.cT K p).2
  u : ex K = true
end K1

-- text ZipS
set_option maxRecDepth 100000
set_option maxHeartbeats 4000000
/-! ZipS: for a, b in zip(x, y), x and y texts. -/
namespace GX
open PySem PySem.Spec PyProof.Rows L2 LamX
/-- the signs of both texts in new pairs -/
def Itzs (x y : Str) : It :=
  ⟨fun i _ => i < min x.cps.size y.cps.size, fun i H v H' => ∃ T c d, v = .ref T ∧ H T = none ∧ H' = upd H T (.tup [.str ⟨#[c]⟩, .str ⟨#[d]⟩]) ∧ x.cps[i]? = some c ∧ y.cps[i]? = some d, fun i _ => min x.cps.size y.cps.size ≤ i⟩
theorem turn_zips {P : Program} {w : World} {K : PySem.W.Frag} {elts : List Expr} {kk : Nat} {tpos : Pos} {x y : Str} {t u : Tok} {z TI TO i1 i2 : Addr} (D : ZipSep2 z TI TO i1 i2 [i1] [i2]) :
    Turn P w K (.Tuple elts kk tpos) (Itzs x y) [z, TI, TO, i1, i2] z (fun i h => (IsZip h z TI TO .none ∧ IsTupOf2 h TI (.ref i1) (.ref i2) ∧ (∃ a1 a2, IsTupOf2 h TO a1 a2) ∧ h.IsStrIter i1 (strIterType x) x t i ∧ h.IsStrIter i2 (strIterType y) y u i) ∧ i ≤ min x.cps.size y.cps.size) where
  mem := List.mem_cons_self
  obj := fun i h st c hc => by
    obtain ⟨⟨hz, hTI, ⟨a1, a2, hTO⟩, ⟨o1, e1, _, d1⟩, ⟨o2, e2, _, d2⟩⟩, _⟩ := st
    simp only [List.mem_cons, List.not_mem_nil, or_false] at hc
    rcases hc with q | q | q | q | q
    · rw [q]; exact ⟨_, hz, nofun⟩
    · rw [q]; exact ⟨_, hTI, nofun⟩
    · rw [q]; exact ⟨_, hTO, nofun⟩
    · rw [q]; exact ⟨o1, e1, fun v q => by rw [d1] at q; cases q⟩
    · rw [q]; exact ⟨o2, e2, fun v q => by rw [d2] at q; cases q⟩
  keep := fun i h h' st k => by
    obtain ⟨⟨hz, hTI, ⟨a1, a2, hTO⟩, ⟨o1, e1, r1⟩, ⟨o2, e2, r2⟩⟩, hl⟩ := st
    exact ⟨⟨k z (by simp) _ hz, k TI (by simp) _ hTI, ⟨a1, a2, k TO (by simp) _ hTO⟩, ⟨o1, k i1 (by simp) _ e1, r1⟩, ⟨o2, k i2 (by simp) _ e2, r2⟩⟩, hl⟩
  item := by
    intro X hP hw hK hc i pins s σ H E I hf st hg
    subst hP hw hK
    have hh := I.ok.hd hc
    have G := GoesN.zip2 (prog := X.prog) (w := X.w) (A := X.A) (elts := elts) (x1 := kk) (pos := tpos) D (Draws.text (A := X.A.in1) hh i1 x t) (Draws.text (A := X.A.in1) hh i2 y u)
    have hi : i < min x.cps.size y.cps.size := hg
    have hlt : ∀ b ∈ [z, TI, TO, i1, i2], b < s.heap.objs.size := fun c hc => by
      obtain ⟨⟨hz, hTI, ⟨a1, a2, hTO⟩, ⟨o1, e1, _, d1⟩, ⟨o2, e2, _, d2⟩⟩, _⟩ := st
      simp only [List.mem_cons, List.not_mem_nil, or_false] at hc
      rcases hc with q | q | q | q | q
      · rw [q]; exact Heap.lt_size hz
      · rw [q]; exact Heap.lt_size hTI
      · rw [q]; exact Heap.lt_size hTO
      · rw [q]; exact Heap.lt_size e1
      · rw [q]; exact Heap.lt_size e2
    refine G.goes i s (fun v s2 => ∃ x' H', Inv X pins σ H' s2 ∧ RelV x' v ∧ (Itzs x y).yld i H x' H' ∧ ((IsZip s2.heap z TI TO .none ∧ IsTupOf2 s2.heap TI (.ref i1) (.ref i2) ∧ (∃ a1 a2, IsTupOf2 s2.heap TO a1 a2) ∧ s2.heap.IsStrIter i1 (strIterType x) x t (i + 1) ∧ s2.heap.IsStrIter i2 (strIterType y) y u (i + 1)) ∧ i + 1 ≤ min x.cps.size y.cps.size) ∧ ∀ b ∈ [z, TI, TO, i1, i2], H' b = none) E hi st.1 fun v h' tk hY st' hk _ => ?_
    obtain ⟨T, vx, vy, rfl, hT, ⟨c, uc, hcx, rfl⟩, ⟨d, ud, hdy, rfl⟩, ⟨oT, hoT, hcl, nT, hdT⟩⟩ := hY
    refine ⟨.ref T, upd H T (.tup [.str ⟨#[c]⟩, .str ⟨#[d]⟩]), ?_, rfl, ⟨T, c, d, rfl, I.hok.fresh hT, rfl, hcx, hdy⟩, ⟨st', hi⟩, fun b hb => ?_⟩
    · refine I.turnedNew (t' := tk) (ch := [z, TI, TO, i1, i2]) (fun b o hb e => hk b o (fun q => hb (by
        simp only [List.mem_cons, List.not_mem_nil, or_false] at q ⊢
        rcases q with q | q | q | q <;> simp [q])) e) hf hT ?_
      exact ⟨by show 2 ≤ sizeLine; decide, [.str ⟨#[c]⟩ uc, .str ⟨#[d]⟩ ud], .cons ⟨uc, rfl⟩ (.cons ⟨ud, rfl⟩ .nil), ⟨oT, hoT, hcl, nT, hdT⟩⟩
    · rw [upd_ne (Nat.ne_of_lt (Nat.lt_of_lt_of_le (hlt b hb) hT))]
      exact (hf b hb).1
  done := by
    intro X hP hw hK hc i pins s σ H E I hf st hg
    subst hP hw hK
    have hh := I.ok.hd hc
    have G := GoesN.zip2 (prog := X.prog) (w := X.w) (A := X.A) (elts := elts) (x1 := kk) (pos := tpos) D (Draws.text (A := X.A.in1) hh i1 x t) (Draws.text (A := X.A.in1) hh i2 y u)
    have hi : i = min x.cps.size y.cps.size := Nat.le_antisymm st.2 hg
    refine G.stops s (fun s1 => Inv X pins σ H s1) E (by rw [← hi]; exact st.1) fun h' tk hk _ => ?_
    exact I.turnedL (t' := tk) (ch := [z, TI, TO, i1, i2]) (fun b o hb e => hk b o (fun q => hb (by
        simp only [List.mem_cons, List.not_mem_nil, or_false] at q ⊢
        rcases q with q | q | q | q <;> simp [q])) e) hf
  self := fun A i s Q E st h => wpAny_pyIter_zip st.1.1 h
def iZipS (ta : TA) : TI := fun σ H R => ta σ H fun vs H1 => ∃ x y, vs = [.str x, .str y] ∧ R (Itzs x y) H1
theorem pi_zipS {X : Cx} {e e2 : Expr} {ta : TA} {p pos tpos : Pos} {elts : List Expr} {kk : Nat} (hg : Gl X "zip") (hm : X.mg "zip" = none) (ha : PA X [e, e2] ta)
    (hs : starEach [e, e2] X.env = (false, eval e X.env) :: starEach [e2] X.env := by rfl) (hpl : (backTo pos (starEach [e2] X.env)).any (·.1) = false := by rfl) :
    PI X (.Tuple elts kk tpos) (.Call (.Name "zip" p) [e, e2] [] pos) (iZipS ta) := by
  refine ⟨fun pins s σ H R I h => ?_⟩
  refine Call_ (ld_blt I hg hm PyProof.Rows.boot_zip (PyProof.Rows.callWith_type1 (thn (ha.run pos pins s σ H _ I h) fun us s1 ⟨vs, H1, I1, r1, x, y, ex, q⟩ => ?_) hs hpl))
  subst ex
  cases r1 with
  | cons r rr =>
    cases rr with
    | cons r' rr =>
      cases rr
      obtain ⟨t, rfl⟩ := r
      obtain ⟨u, rfl⟩ := r'
      refine zip_begins2 (begins_text x t) (begins_text y u) trivial trivial fun h' hz hTI hTO h1 h2 hsz hk => wpAny_pyIter_zip hz ?_
      have I2 : Inv X pins σ H1 { s1 with heap := h' } := I1.kept (t' := s1.toks) hk
      refine ⟨s1.heap.objs.size + 4, [s1.heap.objs.size + 4, s1.heap.objs.size + 2, s1.heap.objs.size + 3, s1.heap.objs.size, s1.heap.objs.size + 1], _, _, H1, rfl, I2,
        turn_zips (x := x) (y := y) (t := t) (u := u) (zip_sep2 (N := s1.heap.objs.size) (fp1 := []) (fp2 := []) (by simp) (by simp)), ⟨⟨hz, hTI, ⟨_, _, hTO⟩, ⟨_, h1, rfl, rfl⟩, ⟨_, h2, rfl, rfl⟩⟩, Nat.zero_le _⟩, fun c hcm => ?_, q⟩
      have hle : s1.heap.objs.size ≤ c := by
        simp only [List.mem_cons, List.not_mem_nil, or_false] at hcm
        rcases hcm with q | q | q | q | q <;> rw [q] <;> first | exact Nat.le_add_right _ _ | exact Nat.le_refl _
      exact I1.fpOk hle (I1.hok.fresh hle)
end GX

-- text Lp
set_option maxRecDepth 100000
set_option maxHeartbeats 4000000
/-! Lp: loops over a walk of n items, by an invariant. -/
namespace GX
open PySem PySem.Spec PyProof.Rows L2 LamX
/-- [e for t in walk if ..]: n items, the invariant Pv by the turn and the heap -/
theorem lc_n {J : It} {g : TG} {tt : TT} {te : TE} {vs : List Nat} {σ : L2.St} {H1 : Hp} {D : Addr} {Qd : Hp → Prop} (n : Nat) (Pv : Nat → Hp → Prop) (h0 : Pv 0 (upd H1 D (.lst [])))
    (hs : ∀ i H, i < n → Pv i H → J.go i H ∧ ∀ x H', J.yld i H x H' → g x (wipe σ vs) H' fun σ2 H2 => wipe σ2 vs = wipe σ vs ∧ tt σ2 H2 fun b H3 =>
      if b = true then te σ2 H3 fun y H4 => ∃ acc, H4 D = some (.lst acc) ∧ acc.length < sizeLine ∧ Pv (i + 1) (upd H4 D (.lst (acc ++ [y]))) else Pv (i + 1) H3)
    (hd : ∀ H, Pv n H → J.stop n H ∧ Qd H) :
    ∃ W : Nat → Nat → Hp → Prop, (∃ m, W 0 m (upd H1 D (.lst []))) ∧ ∀ i m H, W i m H →
      (J.stop i H ∧ Qd H) ∨ (J.go i H ∧ ∃ Nx : Hp → Prop, (∀ H', Nx H' → ∃ m', m' < m ∧ W (i + 1) m' H') ∧ ∀ x H', J.yld i H x H' → g x (wipe σ vs) H' fun σ2 H2 => wipe σ2 vs = wipe σ vs ∧ tt σ2 H2 fun b H3 =>
        if b = true then te σ2 H3 fun y H4 => ∃ acc, H4 D = some (.lst acc) ∧ acc.length < sizeLine ∧ Nx (upd H4 D (.lst (acc ++ [y]))) else Nx H3) := by
  refine ⟨fun i m H => m = n - i ∧ i ≤ n ∧ Pv i H, ⟨n, by simp, Nat.zero_le _, h0⟩, ?_⟩
  rintro i m H ⟨rfl, hi, p⟩
  by_cases hlt : i < n
  · obtain ⟨q1, q2⟩ := hs i H hlt p
    exact .inr ⟨q1, Pv (i + 1), fun H' p' => ⟨n - (i + 1), by omega, rfl, hlt, p'⟩, q2⟩
  · have e : i = n := by omega
    rw [e] at p ⊢
    exact .inl (hd H p)
/-- the same of a loop -/
theorem for_n {J : It} {g : TG} {tb : TS} {D : Ends} {σ : L2.St} {H : Hp} (n : Nat) (Pv : Nat → L2.St → Hp → Prop) (h0 : Pv 0 σ H)
    (hs : ∀ i σ H, i < n → Pv i σ H → J.go i H ∧ ∀ x H', J.yld i H x H' → g x σ H' fun σ2 H2 => tb { D with nx := Pv (i + 1), ct := Pv (i + 1), bk := D.nx } σ2 H2)
    (hd : ∀ σ H, Pv n σ H → J.stop n H ∧ D.nx σ H) :
    ∃ W : Nat → Nat → L2.St → Hp → Prop, (∃ m, W 0 m σ H) ∧ ∀ i m σ H, W i m σ H →
      (J.stop i H ∧ D.nx σ H) ∨ (J.go i H ∧ ∃ N : L2.St → Hp → Prop, (∀ σ' H', N σ' H' → ∃ m', m' < m ∧ W (i + 1) m' σ' H') ∧ ∀ x H', J.yld i H x H' → g x σ H' fun σ2 H2 => tb { D with nx := N, ct := N, bk := D.nx } σ2 H2) := by
  refine ⟨fun i m σ H => m = n - i ∧ i ≤ n ∧ Pv i σ H, ⟨n, by simp, Nat.zero_le _, h0⟩, ?_⟩
  rintro i m σ H ⟨rfl, hi, p⟩
  by_cases hlt : i < n
  · obtain ⟨q1, q2⟩ := hs i σ H hlt p
    exact .inr ⟨q1, Pv (i + 1), fun σ' H' p' => ⟨n - (i + 1), by omega, rfl, hlt, p'⟩, q2⟩
  · have e : i = n := by omega
    rw [e] at p ⊢
    exact .inl (hd σ H p)
/-- a list's walk at a place -/
theorem Itl_go {K : PySem.W.Frag} {a : Addr} {xs : List V} {i : Nat} {H : Hp} (h : SqL K H a xs) (hi : i < xs.length) : (Itl K a).go i H := ⟨xs, xs[i], h, by rw [List.getElem?_eq_getElem hi]⟩
theorem Itl_stop {K : PySem.W.Frag} {a : Addr} {xs : List V} {i : Nat} {H : Hp} (h : SqL K H a xs) (hi : xs.length ≤ i) : (Itl K a).stop i H := ⟨xs, h, hi⟩
theorem Itl_yld {K : PySem.W.Frag} {a : Addr} {xs : List V} {i : Nat} {H H' : Hp} {x : V} (h : SqL K H a xs) (y : (Itl K a).yld i H x H') : H' = H ∧ xs[i]? = some x := ⟨y.1, y.2 xs h⟩
theorem Itt_go {K : PySem.W.Frag} {a : Addr} {xs : List V} {i : Nat} {H : Hp} (h : SqT K H a xs) (hi : i < xs.length) : (Itt K a).go i H := ⟨xs, xs[i], h, by rw [List.getElem?_eq_getElem hi]⟩
theorem Itt_stop {K : PySem.W.Frag} {a : Addr} {xs : List V} {i : Nat} {H : Hp} (h : SqT K H a xs) (hi : xs.length ≤ i) : (Itt K a).stop i H := ⟨xs, h, hi⟩
theorem Itt_yld {K : PySem.W.Frag} {a : Addr} {xs : List V} {i : Nat} {H H' : Hp} {x : V} (h : SqT K H a xs) (y : (Itt K a).yld i H x H') : H' = H ∧ xs[i]? = some x := ⟨y.1, y.2 xs h⟩
theorem get_map {α : Type} {f : α → V} {xs : List α} {i : Nat} {v : V} (h : (xs.map f)[i]? = some v) : ∃ x, xs[i]? = some x ∧ v = f x := by
  rw [List.getElem?_map] at h
  cases e : xs[i]? with
  | none => rw [e] at h; cases h
  | some x => rw [e] at h; exact ⟨x, rfl, (Option.some.inj h).symm⟩
end GX

-- text Cal
set_option maxRecDepth 100000
set_option maxHeartbeats 4000000
/-! Cal: defs, methods and classes of the text that may raise, by one word each. -/
namespace GX
open PySem PySem.Spec PyProof.Rows L2 LamX
section
variable (P : Program) (w : World) (K : PySem.W.Frag) (mg : Str → Option Value) (base : Heap)
/-- the module's x is a def that keeps sp -/
def CalX (k : Nat) (x : Str) (ps : List Str) (sp : Sp) : Prop := ∃ f fd, FnOk P w K mg base (L2.CX P w) k f fd ps sp ∧ Binds K fd ps [] ∧ PySem.W.keepIn K (.ref f) = true ∧ mg x = some (.ref f)
/-- the method m of the class at C keeps sp -/
def MetX (k : Nat) (C : Addr) (m : Str) (ps : List Str) (sp : Sp) : Prop := ∃ f fd, FnOk P w K mg base (L2.CX P w) k f fd ps sp ∧ Binds K fd ps [] ∧ Meth K C m f ∧ Cls K C
/-- the class x at C is made by an __init__ that keeps sp -/
def MakX (k : Nat) (x : Str) (C : Addr) (ps : List Str) (sp : Sp) : Prop := ∃ f fd, FnOk P w K mg base (L2.CX P w) k f fd ps sp ∧ Binds K fd ps [] ∧ Mk K C f ∧ mg x = some (.ref C)
end
section
variable {X : Cx} {k j : Nat} {x m : Str} {C : Addr} {ps : List Str} {sp : Sp} {E : XK} {p pos apos : Pos} {e o : Expr} {es : List Expr} {ta : TE} {t : TA}
theorem pe_cx (c : CalX X.prog X.w X.K X.mg X.base k x ps sp) (hr : Room j X.A) (hk : k ≤ j) (hg : Gl X x) (hx : Passes (L2.CX X.prog X.w) X E) (ha : PA X (e :: es) t) (hdb : (x == ("__debug__" : Str)) = false := by decide)
    (he : starEach (e :: es) X.env = (false, eval e X.env) :: starEach es X.env := by rfl) (hpl : (backTo pos (starEach es X.env)).any (·.1) = false := by rfl) : PE X (.Call (.Name x p) (e :: es) [] pos) (tCall sp [] E t) := by
  obtain ⟨f, fd, F, b, kp, hm⟩ := c
  exact pe_call F (hr.mono hk) hg hm kp b .nil hx ha hdb he hpl
theorem pe_cx0 (c : CalX X.prog X.w X.K X.mg X.base k x ps sp) (hr : Room j X.A) (hk : k ≤ j) (hg : Gl X x) (hx : Passes (L2.CX X.prog X.w) X E) (hdb : (x == ("__debug__" : Str)) = false := by decide) : PE X (.Call (.Name x p) [] [] pos) (tCall sp [] E tNil) := by
  obtain ⟨f, fd, F, b, kp, hm⟩ := c
  exact pe_call0 F (hr.mono hk) hg hm kp b .nil hx hdb
end
end GX

-- text K1A
set_option maxRecDepth 100000
set_option maxHeartbeats 4000000
namespace K1
open PySem PySem.Spec PyProof.Rows L2 LamX GX
section
variable {P : Program} {w : World} {K : PySem.W.Frag} {mg : Str → Option Value} {base : Heap}
abbrev aCE (K : PySem.W.Frag) : Addr := He.ga K "CodeError"
/-! ### check_sign -/
def okS (l : List Nat) : Bool := !l.isEmpty && l.all fun c => c == 48 || c == 49
theorem mem01 {c : Nat} (h : c ∈ ("01" : Str).cps.toList) : c = 48 ∨ c = 49 := by
  have e : ("01" : Str).cps.toList = [48, 49] := by decide +kernel
  rw [e] at h
  simpa using h
theorem mem01' {c : Nat} (h : c = 48 ∨ c = 49) : c ∈ ("01" : Str).cps.toList := by
  have e : ("01" : Str).cps.toList = [48, 49] := by decide +kernel
  rw [e]
  simpa using h
theorem okS_all {l : List Nat} (h : okS l = true) {c : Nat} (hc : c ∈ l) : c = 48 ∨ c = 49 := by
  unfold okS at h
  have := (Bool.and_eq_true_iff.mp h).2
  have := List.all_eq_true.mp this c hc
  simpa using this
def spCheck (K : PySem.W.Frag) : Sp := fun vs H Q E => ∃ l : List Nat, vs = [.str (S l)] ∧ Tabs (T K) H ∧
  (okS l = true → ∀ H', Le (T K) H H' → Q .non H') ∧ (okS l = false → ∀ H', Le (T K) H H' → E (.ref (aCE K)) none H')
theorem ok_check (C : Ctx K mg base) : CalX P w K mg base 2 "check_sign" ["sign"] (spCheck K) := by
  obtain ⟨fd, F⟩ := C.d.d_check_sign
  refine ⟨_, fd, ?_, F.funD.bindsN fun _ _ _ _ _ _ us hl => (match us, hl with | [_], _ => rfl), F.kp, C.t.m_check_sign⟩
  refine F.ok sc_check_sign (fun vs H Q E h => ?_) (fun A outer s H vs Q E hr h => ?_)
  · obtain ⟨l, rfl, _⟩ := h
    rfl
  · obtain ⟨l, rfl, hT, hok, hno⟩ := h
    obtain ⟨e1, e2, e3, e4⟩ := C.t.e_CodeError
    refine ⟨_, pss_one (ps_if (PW.pt (pw_or (pt_cmpR op_eq (pv 0) pe_str (nomark _)) (pw_or1 (pt_val
        (pe_genAny (T := T K) (own := [("one", 1)]) (g := gName 1) hr rfl C.t.b_any sc_check_sign.nd (C.b _ (tf_mem 2)) rfl (T_mem 2) (T_uniq C.u 2) (pi_str (pv 0)) (gsc_by (blkOk_by (N := n_check_sign) (sc := defScope s_check_sign) (by decide +kernel)) (by decide +kernel))
          (fun _ _ _ _ _ => pg_name (i := 1) sc_check_sign.nd rfl (Or.inl rfl)) (fun _ _ _ _ _ _ => pe_cmpR op_notIn_sign (pv 1) pe_str rfl))))))
      (pss_one (ps_raise rfl takesA (pmk_own PySem.F.excBase_ValueError e1 C.t.m_CodeError e2 (raises_own e3 e4) (by rfl)))) pss_nil), ?_⟩
    refine ⟨_, rfl, rfl, _, rfl, ?_⟩
    by_cases hl : l = []
    · subst hl
      refine iteT ?_
      refine iteT ?_
      exact hno rfl _ (Le.refl hT)
    · have hne : decide (V.str (S l) = V.str "") = false := decide_eq_false fun z => hl (S_inj (V.str.inj z))
      rw [hne]
      refine iteF ?_
      refine ⟨_, rfl, _, rfl, hT, fun H2 hE hT2 hno2 => ?_⟩
      refine ⟨l.length, fun i H' => Le (T K) H H' ∧ ∀ j c, j < i → l[j]? = some c → c = 48 ∨ c = 49, ⟨⟨hE, hT2, hno2⟩, fun j c h => absurd h (Nat.not_lt_zero j)⟩, fun i H3 hi ⟨L3, h3⟩ => ⟨?_, ?_⟩, fun H3 ⟨L3, h3⟩ => ⟨?_, ?_⟩⟩
      · show i < (S l).cps.size
        simpa [S] using hi
      · rintro x H4 ⟨rfl, c, hc, rfl⟩
        have hc' : l[i]? = some c := by simpa [S] using hc
        refine ⟨rfl, _, rfl, c, _, rfl, rfl, _, rfl, ?_⟩
        by_cases hm : c ∈ ("01" : Str).cps.toList
        · rw [decide_eq_true hm]
          refine iteF ?_
          refine ⟨L3, fun j d hj hd => ?_⟩
          by_cases hji : j = i
          · subst hji
            rw [hc'] at hd
            cases hd
            exact mem01 hm
          · exact h3 j d (by omega) hd
        · rw [decide_eq_false hm]
          refine iteT ?_
          refine ⟨_, rfl, ?_⟩
          refine iteT ?_
          refine hno ?_ _ L3
          cases q : okS l with
          | false => rfl
          | true => exact absurd (mem01' (okS_all q (List.mem_of_getElem? hc'))) hm
      · show (S l).cps.size ≤ l.length
        simp [S]
      · refine ⟨_, rfl, ?_⟩
        refine iteF ?_
        refine hok ?_ _ L3
        unfold okS
        have : l.isEmpty = false := by simpa using hl
        rw [this, Bool.not_false, Bool.true_and, List.all_eq_true]
        intro c hc
        obtain ⟨j, hj, e⟩ := List.mem_iff_getElem.mp hc
        have := h3 j c hj (by rw [List.getElem?_eq_getElem hj, e])
        simpa using this
/-! ### far -/
def dist (a b : List Nat) : Nat := ((a.zip b).filter fun p => p.1 != p.2).length
def farOk (a b : List Nat) : Bool := okS a && (okS b && a.length == b.length)
def spFar (K : PySem.W.Frag) : Sp := fun vs H Q E => ∃ a b : List Nat, vs = [.str (S a), .str (S b)] ∧ Tabs (T K) H ∧ a.length ≤ 1000 ∧ b.length ≤ 1000 ∧
  (farOk a b = true → ∀ H', Le (T K) H H' → Q (.int (dist a b : Nat)) H') ∧ (farOk a b = false → ∀ H', Le (T K) H H' → E (.ref (aCE K)) none H')
theorem ok_far (C : Ctx K mg base) : CalX P w K mg base 3 "far" ["one", "other"] (spFar K) := by
  obtain ⟨fd, F⟩ := C.d.d_far
  refine ⟨_, fd, ?_, F.funD.bindsN fun _ _ _ _ _ _ us hl => (match us, hl with | [_, _], _ => rfl), F.kp, C.t.m_far⟩
  refine F.ok sc_far (fun vs H Q E h => ?_) (fun A outer s H vs Q E hr h => ?_)
  · obtain ⟨a, b, rfl, _⟩ := h
    rfl
  · obtain ⟨a, b, rfl, hT, la, lb, hok, hno⟩ := h
    obtain ⟨e1, e2, e3, e4⟩ := C.t.e_CodeError
    have Gc := ok_check (P := P) (w := w) C
    refine ⟨_, pss_cons (ps_expr (pe_cx Gc hr (by decide) rfl passA (pa_cons (pv 0) pa_nil))) (pss_cons (ps_expr (pe_cx Gc hr (by decide) rfl passA (pa_cons (pv 1) pa_nil)))
      (pss_cons (ps_if (pt_cmpR op_ne (pe_callB call_len_str (by rfl) C.t.b_len PySem.boot_len (pa_cons (pv 0) pa_nil)) (pe_callB call_len_str (by rfl) C.t.b_len PySem.boot_len (pa_cons (pv 1) pa_nil)) (nomark _))
        (pss_one (ps_raise rfl takesA (pmk_own PySem.F.excBase_ValueError e1 C.t.m_CodeError e2 (raises_own e3 e4) (by rfl)))) pss_nil)
      (pss_one (ps_ret (pe_callB call_len_seq (by rfl) C.t.b_len PySem.boot_len (pa_cons
        (pe_lc (own := [("mine", 2), ("yours", 3)]) (g := gTup K 2 (gCons (gName 2) (gCons (gName 3) gNil))) rfl sc_far.nd (pi_zipS (by rfl) C.t.b_zip (pa_cons (pv 0) (pa_cons (pv 1) pa_nil))) (blkOk_by (N := n_far) (sc := defScope s_far) (by decide +kernel))
          (fun _ _ _ _ _ => by exact pg_tup rfl (pgs_cons (pg_name (i := 2) sc_far.nd rfl (Or.inl rfl)) (pgs_cons (pg_name (i := 3) sc_far.nd rfl (Or.inl rfl)) pgs_nil)))
          (fun _ _ _ _ _ => pts_one (pt_cmpR op_ne (pv 2) (pv 3) (nomark _))) (fun _ _ _ _ _ => pe_int)) pa_nil)))))), ?_⟩
    refine ⟨_, rfl, a, rfl, hT, fun ha H1 L1 => ?_, fun ha H1 L1 => hno (by unfold farOk; rw [ha]; rfl) H1 L1⟩
    refine ⟨_, rfl, b, rfl, L1.tab, fun hb H2 L2 => ?_, fun hb H2 L2 => hno (by unfold farOk; rw [ha, hb]; rfl) H2 (L1.trans L2)⟩
    have LA := L1.trans L2
    refine ⟨_, rfl, _, rfl, Nat.le_trans (by rw [S_len]; exact la) (by decide), _, rfl, _, rfl, Nat.le_trans (by rw [S_len]; exact lb) (by decide), rfl, _, rfl, ?_⟩
    rw [S_len, S_len]
    by_cases hl : a.length = b.length
    · have e : decide (V.int (a.length : Int) = V.int (b.length : Int)) = true := decide_eq_true (by rw [hl])
      rw [e]
      refine iteF ?_
      refine ⟨_, rfl, _, rfl, _, _, rfl, fun D hD => ?_⟩
      refine lc_n a.length (fun i H' => ∃ acc : List V, H' D = some (.lst acc) ∧ acc.length = (((a.zip b).take i).filter fun p => p.1 != p.2).length ∧ acc.length ≤ i ∧ Le (T K) H H') ⟨[], upd_same, by simp, Nat.le_refl _, LA.new hD⟩ (fun i H3 hi ⟨acc, hD3, hal, hai, L3⟩ => ⟨?_, ?_⟩) (fun H3 ⟨acc, hD3, hal, hai, L3⟩ => ⟨?_, ?_⟩)
      · show i < min (S a).cps.size (S b).cps.size
        simp [S]
        omega
      · rintro x H4 ⟨t, c, d, rfl, ht, rfl, hc, hd⟩
        have hc' : a[i]? = some c := by simpa [S] using hc
        have hd' : b[i]? = some d := by simpa [S] using hd
        have hz : (a.zip b)[i]? = some (c, d) := List.getElem?_zip_eq_some.mpr ⟨hc', hd'⟩
        have htk : (a.zip b).take (i + 1) = (a.zip b).take i ++ [(c, d)] := by rw [List.take_add_one, hz]; rfl
        have hDt : D ≠ t := ne_of_none hD3 ht
        refine ⟨t, _, rfl, SqT.of upd_same, rfl, _, _, rfl, _, _, rfl, rfl, rfl, _, rfl, _, rfl, rfl, ?_⟩
        by_cases hcd : c = d
        · rw [decide_eq_true (show V.str ⟨#[c]⟩ = V.str ⟨#[d]⟩ by rw [hcd])]
          refine ⟨_, rfl, iteF ?_⟩
          refine ⟨acc, (upd_ne hDt).trans hD3, ?_, by omega, L3.new ht⟩
          rw [htk, List.filter_append, List.length_append, hal]
          simp [hcd]
        · rw [decide_eq_false (show ¬ V.str ⟨#[c]⟩ = V.str ⟨#[d]⟩ from fun z => hcd (by have := V.str.inj z; have := congrArg Str.cps this; simpa using this))]
          refine ⟨_, rfl, iteT ?_⟩
          refine ⟨acc, (upd_ne hDt).trans hD3, Nat.lt_of_le_of_lt (Nat.le_trans hai (Nat.le_of_lt (Nat.lt_of_lt_of_le hi la))) (by decide), acc ++ [.int 1], upd_same, ?_, ?_, ?_⟩
          · rw [htk, List.filter_append, List.length_append, List.length_append, hal]
            have : (c != d) = true := by simpa using hcd
            simp [this]
          · rw [List.length_append, List.length_singleton]; omega
          · exact (L3.new ht).set (LA.no D hD) ((upd_ne hDt).trans hD3)
      · show min (S a).cps.size (S b).cps.size ≤ a.length
        simp [S]
        omega
      · refine ⟨D, _, rfl, .inl (SqL.of hD3), ?_⟩
        have : ((acc.length : Nat) : Int) = (dist a b : Nat) := by
          rw [hal, List.take_of_length_le (by rw [List.length_zip]; omega)]
          rfl
        rw [this]
        exact hok (by unfold farOk; rw [ha, hb, hl]; simp) _ L3
    · have e : decide (V.int (a.length : Int) = V.int (b.length : Int)) = false := decide_eq_false fun z => hl (by have := V.int.inj z; omega)
      rw [e]
      refine iteT ?_
      exact hno (by unfold farOk; rw [ha, hb]; simpa using hl) _ LA
end
end K1

-- text Str1
set_option maxRecDepth 100000
set_option maxHeartbeats 4000000
/-! Str1: texts by their codes. -/
namespace GX
open PySem PySem.Spec PyProof.Rows L2 LamX
theorem S_app (a b : List Nat) : S a ++ S b = S (a ++ b) := by
  show Str.append (S a) (S b) = _
  simp [S, Str.append]
theorem S_app' (a b : List Nat) : Str.append (S a) (S b) = S (a ++ b) := by simp [S, Str.append]
theorem cutS_def (z : Str) (lo hi : Option Int) : cutS z lo hi = S ((z.cps.toList.drop (HT.sIx z.length 0 lo)).take (HT.sIx z.length z.length hi - HT.sIx z.length 0 lo)) := rfl
theorem sIx_none (n d : Nat) : HT.sIx n d none = d := by
  unfold HT.sIx
  rfl
theorem sIx_nat (n d k : Nat) : HT.sIx n d (some (k : Int)) = min k n := by
  unfold HT.sIx
  simp only
  split
  · omega
  · omega
theorem cut_lo (l : List Nat) (k : Nat) : cutS (S l) none (some (k : Int)) = S (l.take k) := by
  rw [cutS_def, sIx_none, sIx_nat, S_cps, S_len]
  congr 1
  rw [List.drop_zero, Nat.sub_zero]
  rcases Nat.le_total k l.length with h | h
  · rw [Nat.min_eq_left h]
  · rw [Nat.min_eq_right h, List.take_of_length_le (Nat.le_refl _), List.take_of_length_le h]
theorem cut_hi (l : List Nat) (k : Nat) : cutS (S l) (some (k : Int)) none = S (l.drop k) := by
  rw [cutS_def, sIx_none, sIx_nat, S_cps, S_len]
  congr 1
  rcases Nat.le_total k l.length with h | h
  · rw [Nat.min_eq_left h, List.take_of_length_le (by rw [List.length_drop]; omega)]
  · rw [Nat.min_eq_right h, Nat.sub_self, List.take_zero, List.drop_of_length_le h]
theorem cut_mid (l : List Nat) (i j : Nat) : cutS (S l) (some (i : Int)) (some (j : Int)) = S ((l.take j).drop i) := by
  rw [cutS_def, sIx_nat, sIx_nat, S_cps, S_len]
  congr 1
  rw [List.drop_take]
  rcases Nat.le_total j l.length with h | h
  · rw [Nat.min_eq_left h]
    rcases Nat.le_total i l.length with h' | h'
    · rw [Nat.min_eq_left h']
    · rw [Nat.min_eq_right h', List.drop_of_length_le (Nat.le_refl _), List.drop_of_length_le h', List.take_nil, List.take_nil]
  · rw [Nat.min_eq_right h]
    rcases Nat.le_total i l.length with h' | h'
    · rw [Nat.min_eq_left h', List.take_of_length_le (by rw [List.length_drop]; exact Nat.le_refl _), List.take_of_length_le (by rw [List.length_drop]; omega)]
    · rw [Nat.min_eq_right h', Nat.sub_self, List.take_zero, List.drop_of_length_le h', List.take_nil]
/-- str(n) of a small number -/
theorem toS_bit {n : Int} (h : n = 0 ∨ n = 1) : (Str.ofString (toString n) : Str) = S [(48 + n.toNat : Nat)] := by
  rcases h with rfl | rfl <;> decide +kernel
theorem log_bit {n : Int} (h : n = 0 ∨ n = 1) : n.natAbs.log2 < 1920 := by
  rcases h with rfl | rfl <;> decide +kernel
theorem int_bit {c : Nat} (h : c = 48 ∨ c = 49) : PySem.intText? (S [c]) = some ((c : Int) - 48) := by
  rcases h with rfl | rfl <;> decide +kernel
theorem S_one (c : Nat) : (⟨#[c]⟩ : Str) = S [c] := rfl
theorem lenS_le {l : List Nat} {n : Nat} (h : l.length ≤ n) (hn : n ≤ sizeLine) : (S l).length ≤ sizeLine := by rw [S_len]; exact Nat.le_trans h hn
theorem atS {l : List Nat} {k c : Nat} (h : l[k]? = some c) : atI (S l).cps.toList (k : Int) = some c := by
  rw [S_cps]
  exact atI_nat h
/-- how often "1" comes -/
def cnt (l : List Nat) : Nat := (l.filter fun c => c == 49).length
end GX

-- text Lp2
set_option maxRecDepth 100000
set_option maxHeartbeats 4000000
/-! Lp2: walks over the signs of a text. -/
namespace GX
open PySem PySem.Spec PyProof.Rows L2 LamX
theorem lc_txt {g : TG} {tt : TT} {te : TE} {vs : List Nat} {σ : L2.St} {H1 : Hp} {D : Addr} {Qd : Hp → Prop} (l : List Nat) (Pv : Nat → Hp → Prop) (h0 : Pv 0 (upd H1 D (.lst [])))
    (hs : ∀ i c H, l[i]? = some c → Pv i H → g (.str (S [c])) (wipe σ vs) H fun σ2 H2 => wipe σ2 vs = wipe σ vs ∧ tt σ2 H2 fun b H3 =>
      if b = true then te σ2 H3 fun y H4 => ∃ acc, H4 D = some (.lst acc) ∧ acc.length < sizeLine ∧ Pv (i + 1) (upd H4 D (.lst (acc ++ [y]))) else Pv (i + 1) H3)
    (hd : ∀ H, Pv l.length H → Qd H) :
    ∃ W : Nat → Nat → Hp → Prop, (∃ m, W 0 m (upd H1 D (.lst []))) ∧ ∀ i m H, W i m H →
      ((Its (S l)).stop i H ∧ Qd H) ∨ ((Its (S l)).go i H ∧ ∃ Nx : Hp → Prop, (∀ H', Nx H' → ∃ m', m' < m ∧ W (i + 1) m' H') ∧ ∀ x H', (Its (S l)).yld i H x H' → g x (wipe σ vs) H' fun σ2 H2 => wipe σ2 vs = wipe σ vs ∧ tt σ2 H2 fun b H3 =>
        if b = true then te σ2 H3 fun y H4 => ∃ acc, H4 D = some (.lst acc) ∧ acc.length < sizeLine ∧ Nx (upd H4 D (.lst (acc ++ [y]))) else Nx H3) := by
  refine lc_n l.length Pv h0 (fun i H hi p => ⟨?_, ?_⟩) (fun H p => ⟨?_, hd H p⟩)
  · show i < (S l).cps.size
    simpa [S] using hi
  · rintro x H' ⟨rfl, c, hc, rfl⟩
    exact hs i c _ (by simpa [S] using hc) p
  · show (S l).cps.size ≤ l.length
    simp [S]
theorem for_txt {g : TG} {tb : TS} {D : Ends} {σ : L2.St} {H : Hp} (l : List Nat) (Pv : Nat → L2.St → Hp → Prop) (h0 : Pv 0 σ H)
    (hs : ∀ i c σ H, l[i]? = some c → Pv i σ H → g (.str (S [c])) σ H fun σ2 H2 => tb { D with nx := Pv (i + 1), ct := Pv (i + 1), bk := D.nx } σ2 H2)
    (hd : ∀ σ H, Pv l.length σ H → D.nx σ H) :
    ∃ W : Nat → Nat → L2.St → Hp → Prop, (∃ m, W 0 m σ H) ∧ ∀ i m σ H, W i m σ H →
      ((Its (S l)).stop i H ∧ D.nx σ H) ∨ ((Its (S l)).go i H ∧ ∃ N : L2.St → Hp → Prop, (∀ σ' H', N σ' H' → ∃ m', m' < m ∧ W (i + 1) m' σ' H') ∧ ∀ x H', (Its (S l)).yld i H x H' → g x σ H' fun σ2 H2 => tb { D with nx := N, ct := N, bk := D.nx } σ2 H2) := by
  refine for_n l.length Pv h0 (fun i σ H hi p => ⟨?_, ?_⟩) (fun σ H p => ⟨?_, hd σ H p⟩)
  · show i < (S l).cps.size
    simpa [S] using hi
  · rintro x H' ⟨rfl, c, hc, rfl⟩
    exact hs i c σ _ (by simpa [S] using hc) p
  · show (S l).cps.size ≤ l.length
    simp [S]
/-- the same without a test -/
theorem lc_txtY {g : TG} {te : TE} {vs : List Nat} {σ : L2.St} {H1 : Hp} {D : Addr} {Qd : Hp → Prop} (l : List Nat) (Pv : Nat → Hp → Prop) (h0 : Pv 0 (upd H1 D (.lst [])))
    (hs : ∀ i c H, l[i]? = some c → Pv i H → g (.str (S [c])) (wipe σ vs) H fun σ2 H2 => wipe σ2 vs = wipe σ vs ∧ te σ2 H2 fun y H4 => ∃ acc, H4 D = some (.lst acc) ∧ acc.length < sizeLine ∧ Pv (i + 1) (upd H4 D (.lst (acc ++ [y]))))
    (hd : ∀ H, Pv l.length H → Qd H) (hm : ∀ v σ H Q Q', (∀ σ H, Q σ H → Q' σ H) → g v σ H Q → g v σ H Q') :
    ∃ W : Nat → Nat → Hp → Prop, (∃ m, W 0 m (upd H1 D (.lst []))) ∧ ∀ i m H, W i m H →
      ((Its (S l)).stop i H ∧ Qd H) ∨ ((Its (S l)).go i H ∧ ∃ Nx : Hp → Prop, (∀ H', Nx H' → ∃ m', m' < m ∧ W (i + 1) m' H') ∧ ∀ x H', (Its (S l)).yld i H x H' → g x (wipe σ vs) H' fun σ2 H2 => wipe σ2 vs = wipe σ vs ∧ tYes σ2 H2 fun b H3 =>
        if b = true then te σ2 H3 fun y H4 => ∃ acc, H4 D = some (.lst acc) ∧ acc.length < sizeLine ∧ Nx (upd H4 D (.lst (acc ++ [y]))) else Nx H3) :=
  lc_txt l Pv h0 (fun i c H hc p => hm _ _ _ _ _ (fun σ2 H2 ⟨e, z⟩ => ⟨e, @iteT _ (Pv (i + 1) H2) z⟩) (hs i c H hc p)) hd
theorem mono_name {i : Nat} : ∀ v σ H Q Q', (∀ σ H, Q σ H → Q' σ H) → gName i v σ H Q → gName i v σ H Q' := fun _ _ _ _ _ h z => h _ _ z
theorem lenS_one {c : Nat} : (S [c]).length ≤ 640 := by rw [S_len]; exact Nat.le_trans (Nat.le_refl 1) (by decide)
theorem take_snoc {α : Type} {l : List α} {i : Nat} {c : α} (h : l[i]? = some c) : l.take (i + 1) = l.take i ++ [c] := by rw [List.take_add_one, h]; rfl
end GX

-- text K1B
set_option maxRecDepth 100000
set_option maxHeartbeats 4000000
namespace K1
open PySem PySem.Spec PyProof.Rows L2 LamX GX
section
variable {P : Program} {w : World} {K : PySem.W.Frag} {mg : Str → Option Value} {base : Heap}
/-! ### with_check, is_whole -/
def par (l : List Nat) : Int := (Txt.count (S l) ("1" : Str)) % 2
theorem par_bit (l : List Nat) : par l = 0 ∨ par l = 1 := by
  unfold par
  omega
def spWith (K : PySem.W.Frag) : Sp := fun vs H Q E => ∃ l : List Nat, vs = [.str (S l)] ∧ Tabs (T K) H ∧ l.length ≤ 1000 ∧
  (okS l = true → ∀ H', Le (T K) H H' → Q (.str (S (l ++ [48 + (par l).toNat]))) H') ∧ (okS l = false → ∀ H', Le (T K) H H' → E (.ref (aCE K)) none H')
theorem ok_with (C : Ctx K mg base) : CalX P w K mg base 3 "with_check" ["sign"] (spWith K) := by
  obtain ⟨fd, F⟩ := C.d.d_with_check
  refine ⟨_, fd, ?_, F.funD.bindsN fun _ _ _ _ _ _ us hl => (match us, hl with | [_], _ => rfl), F.kp, C.t.m_with_check⟩
  refine F.ok sc_with_check (fun vs H Q E h => ?_) (fun A outer s H vs Q E hr h => ?_)
  · obtain ⟨l, rfl, _⟩ := h
    rfl
  · obtain ⟨l, rfl, hT, hl, hok, hno⟩ := h
    refine ⟨_, pss_cons (ps_expr (pe_cx (ok_check (P := P) (w := w) C) hr (by decide) rfl passA (pa_cons (pv 0) pa_nil)))
      (pss_one (ps_ret (pe_op op_add_str (pv 0) (pe_callTy call_str_int (by rfl) C.t.b_str (by decide +kernel) (pa_cons (pe_op op_mod (pe_m1 PySem.F.slot_str_count PySem.F.type_str_count mt_count (pv 0) pe_str) pe_int) pa_nil))))), ?_⟩
    refine ⟨_, rfl, l, rfl, hT, fun ha H1 L1 => ?_, fun ha H1 L1 => hno ha H1 L1⟩
    have e : Str.ofString (toString (Txt.count (S l) "1" % 2)) = S [48 + (par l).toNat] := toS_bit (par_bit l)
    refine ⟨_, rfl, _, rfl, ⟨_, rfl⟩, _, _, rfl, rfl, _, _, rfl, rfl, (by show (0 : Int) < 2; decide), _, rfl, log_bit (par_bit l), _, _, rfl, rfl, ?_, ?_⟩
    · rw [e, S_len, S_len]
      exact Nat.le_trans (Nat.add_le_add_right hl 1) (by decide)
    · rw [e, S_app]
      exact hok ha H1 L1
def spWhole (K : PySem.W.Frag) : Sp := fun vs H Q E => ∃ l : List Nat, vs = [.str (S l)] ∧ Tabs (T K) H ∧
  (okS l = true → ∀ H', Le (T K) H H' → Q (.bl (decide (par l = 0))) H') ∧ (okS l = false → ∀ H', Le (T K) H H' → E (.ref (aCE K)) none H')
theorem ok_whole (C : Ctx K mg base) : CalX P w K mg base 3 "is_whole" ["sign"] (spWhole K) := by
  obtain ⟨fd, F⟩ := C.d.d_is_whole
  refine ⟨_, fd, ?_, F.funD.bindsN fun _ _ _ _ _ _ us hl => (match us, hl with | [_], _ => rfl), F.kp, C.t.m_is_whole⟩
  refine F.ok sc_is_whole (fun vs H Q E h => ?_) (fun A outer s H vs Q E hr h => ?_)
  · obtain ⟨l, rfl, _⟩ := h
    rfl
  · obtain ⟨l, rfl, hT, hok, hno⟩ := h
    refine ⟨_, pss_cons (ps_expr (pe_cx (ok_check (P := P) (w := w) C) hr (by decide) rfl passA (pa_cons (pv 0) pa_nil)))
      (pss_one (ps_ret (pe_cmpR op_eq (pe_op op_mod (pe_m1 PySem.F.slot_str_count PySem.F.type_str_count mt_count (pv 0) pe_str) pe_int) pe_int (nomark _)))), ?_⟩
    refine ⟨_, rfl, l, rfl, hT, fun ha H1 L1 => ?_, fun ha H1 L1 => hno ha H1 L1⟩
    refine ⟨_, rfl, ⟨_, rfl⟩, _, _, rfl, rfl, _, _, rfl, rfl, (by show (0 : Int) < 2; decide), rfl, ?_⟩
    have e : decide (V.int (Txt.count (S l) "1" % 2) = V.int 0) = decide (par l = 0) := by
      apply decide_eq_decide.mpr
      exact ⟨fun z => V.int.inj z, fun z => congrArg V.int z⟩
    rw [e]
    exact hok ha H1 L1
/-! ### guarded, mended -/
def bit (l : List Nat) (i : Nat) : Int := ((l.getD i 0 : Nat) : Int) - 48
def bV (c : Nat) : V := .int ((c : Int) - 48)
def s3 (a b c : Int) : Nat := 48 + ((a + b + c) % 2).toNat
/-- four shutters, guarded by three -/
def grd (l : List Nat) : List Nat := l ++ [s3 (bit l 0) (bit l 1) (bit l 3)] ++ [s3 (bit l 0) (bit l 2) (bit l 3)] ++ [s3 (bit l 1) (bit l 2) (bit l 3)]
def grdOk (l : List Nat) : Bool := okS l && l.length == 4
theorem mod_bit (a b c : Int) : (a + b + c) % 2 = 0 ∨ (a + b + c) % 2 = 1 := by omega
def spGuard (K : PySem.W.Frag) : Sp := fun vs H Q E => ∃ l : List Nat, vs = [.str (S l)] ∧ Tabs (T K) H ∧ l.length ≤ 1000 ∧
  (grdOk l = true → ∀ H', Le (T K) H H' → Q (.str (S (grd l))) H') ∧ (grdOk l = false → ∀ H', Le (T K) H H' → E (.ref (aCE K)) none H')
theorem ok_guard (C : Ctx K mg base) : CalX P w K mg base 3 "guarded" ["sign"] (spGuard K) := by
  obtain ⟨fd, F⟩ := C.d.d_guarded
  refine ⟨_, fd, ?_, F.funD.bindsN fun _ _ _ _ _ _ us hl => (match us, hl with | [_], _ => rfl), F.kp, C.t.m_guarded⟩
  refine F.ok sc_guarded (fun vs H Q E h => ?_) (fun A outer s H vs Q E hr h => ?_)
  · obtain ⟨l, rfl, _⟩ := h
    rfl
  · obtain ⟨l, rfl, hT, hl, hok, hno⟩ := h
    obtain ⟨e1, e2, e3, e4⟩ := C.t.e_CodeError
    refine ⟨_, pss_cons (ps_expr (pe_cx (ok_check (P := P) (w := w) C) hr (by decide) rfl passA (pa_cons (pv 0) pa_nil)))
      (pss_cons (ps_if (pt_cmpR op_ne (pe_callB call_len_str (by rfl) C.t.b_len PySem.boot_len (pa_cons (pv 0) pa_nil)) pe_int (nomark _))
        (pss_one (ps_raise rfl takesA (pmk_own PySem.F.excBase_ValueError e1 C.t.m_CodeError e2 (raises_own e3 e4) (by rfl)))) pss_nil)
      (pss_cons (ps_asg (pe_lc (own := [("one", 5)]) (g := gName 5) rfl sc_guarded.nd (pi_str (pv 0)) (blkOk_by (N := n_guarded) (sc := defScope s_guarded) (by decide +kernel))
          (fun _ _ _ _ _ => pg_name (i := 5) sc_guarded.nd rfl (Or.inl rfl)) (fun _ _ _ _ _ => pts_nil) (fun _ _ _ _ _ => pe_callTy call_int_str (by rfl) C.t.b_int (by decide +kernel) (pa_cons (pv 5) pa_nil)))
          (pg_unl (by rfl) (pgs_cons (pg_name (i := 1) sc_guarded.nd rfl (Or.inl rfl)) (pgs_cons (pg_name (i := 2) sc_guarded.nd rfl (Or.inl rfl)) (pgs_cons (pg_name (i := 3) sc_guarded.nd rfl (Or.inl rfl)) (pgs_cons (pg_name (i := 4) sc_guarded.nd rfl (Or.inl rfl)) pgs_nil))))))
      (pss_one (ps_ret (pe_op op_add_str (pe_op op_add_str (pe_op op_add_str (pv 0)
        (pe_callTy call_str_int (by rfl) C.t.b_str (by decide +kernel) (pa_cons (pe_op op_mod (pe_op op_add (pe_op op_add (pv 1) (pv 2)) (pv 4)) pe_int) pa_nil)))
        (pe_callTy call_str_int (by rfl) C.t.b_str (by decide +kernel) (pa_cons (pe_op op_mod (pe_op op_add (pe_op op_add (pv 1) (pv 3)) (pv 4)) pe_int) pa_nil)))
        (pe_callTy call_str_int (by rfl) C.t.b_str (by decide +kernel) (pa_cons (pe_op op_mod (pe_op op_add (pe_op op_add (pv 2) (pv 3)) (pv 4)) pe_int) pa_nil))))))), ?_⟩
    refine ⟨_, rfl, l, rfl, hT, fun ha H1 L1 => ?_, fun ha H1 L1 => hno (by unfold grdOk; rw [ha]; rfl) H1 L1⟩
    refine ⟨_, rfl, _, rfl, lenS_le hl (by decide), rfl, _, rfl, ?_⟩
    rw [S_len]
    by_cases h4 : l.length = 4
    · rw [decide_eq_true (show V.int ((l.length : Nat) : Int) = V.int 4 by rw [h4]; rfl)]
      refine iteF ?_
      refine ⟨_, rfl, _, rfl, fun D hD => ?_⟩
      refine lc_txtY l (fun i H' => Le (T K) H H' ∧ H' D = some (.lst ((l.take i).map bV))) ⟨L1.new hD, upd_same⟩ (fun i c H2 hc ⟨L2, h2⟩ => ?_) (fun H2 ⟨L2, h2⟩ => ?_) mono_name
      · refine ⟨rfl, ?_⟩
        refine ⟨_, rfl, _, _, rfl, int_bit (okS_all ha (List.mem_of_getElem? hc)), lenS_one, _, h2, ?_, L2.set (L1.no D hD) h2, ?_⟩
        · rw [List.length_map, List.length_take]
          exact Nat.lt_of_le_of_lt (Nat.min_le_right _ _) (Nat.lt_of_le_of_lt hl (by decide))
        · rw [upd_same, take_snoc hc, List.map_append]
          rfl
      · rw [List.take_of_length_le (Nat.le_refl _)] at h2
        match l, h4 with
        | [a, b, c, d], _ =>
        refine ⟨D, _, rfl, SqL.of h2, rfl, _, _, rfl, _, _, rfl, _, _, rfl, _, _, rfl, rfl, ?_⟩
        have t1 : Str.ofString (toString ((((a : Int) - 48) + ((b : Int) - 48) + ((d : Int) - 48)) % 2)) = S [s3 (bit [a, b, c, d] 0) (bit [a, b, c, d] 1) (bit [a, b, c, d] 3)] := toS_bit (mod_bit _ _ _)
        have t2 : Str.ofString (toString ((((a : Int) - 48) + ((c : Int) - 48) + ((d : Int) - 48)) % 2)) = S [s3 (bit [a, b, c, d] 0) (bit [a, b, c, d] 2) (bit [a, b, c, d] 3)] := toS_bit (mod_bit _ _ _)
        have t3 : Str.ofString (toString ((((b : Int) - 48) + ((c : Int) - 48) + ((d : Int) - 48)) % 2)) = S [s3 (bit [a, b, c, d] 1) (bit [a, b, c, d] 2) (bit [a, b, c, d] 3)] := toS_bit (mod_bit _ _ _)
        have two : (0 : Int) < 2 := by decide
        refine ⟨_, rfl, _, rfl, _, rfl, _, _, rfl, rfl, _, rfl, _, _, rfl, rfl, _, _, rfl, rfl, two, _, rfl, log_bit (mod_bit _ _ _), _, _, rfl, rfl, ?_, ?_⟩
        · rw [t1, S_len, S_len]
          exact Nat.le_trans (Nat.le_refl 5) (by decide)
        rw [t1, S_app]
        refine ⟨_, rfl, _, rfl, _, _, rfl, rfl, _, rfl, _, _, rfl, rfl, _, _, rfl, rfl, two, _, rfl, log_bit (mod_bit _ _ _), _, _, rfl, rfl, ?_, ?_⟩
        · rw [t2, S_len, S_len]
          exact Nat.le_trans (Nat.le_refl 6) (by decide)
        rw [t2, S_app]
        refine ⟨_, rfl, _, rfl, _, _, rfl, rfl, _, rfl, _, _, rfl, rfl, _, _, rfl, rfl, two, _, rfl, log_bit (mod_bit _ _ _), _, _, rfl, rfl, ?_, ?_⟩
        · rw [t3, S_len, S_len]
          exact Nat.le_trans (Nat.le_refl 7) (by decide)
        rw [t3, S_app]
        exact hok (by unfold grdOk; rw [ha]; rfl) H2 L2
    · rw [decide_eq_false (show ¬ V.int ((l.length : Nat) : Int) = V.int 4 from fun z => h4 (by have := V.int.inj z; omega))]
      refine iteT ?_
      exact hno (by unfold grdOk; rw [ha]; simpa using h4) H1 L1
/-- one shutter the other way -/
def flipAt (l : List Nat) : Option Nat → List Nat
  | none => l
  | some k => l.take k ++ [97 - l.getD k 0] ++ l.drop (k + 1)
def places : List (Option Nat) := [none, some 0, some 1, some 2, some 3, some 4, some 5, some 6]
def oV : Option Nat → V
  | none => .non
  | some k => .int (k : Int)
def meets (l : List Nat) (o : Option Nat) : Bool := decide (grd ((flipAt l o).take 4) = flipAt l o)
def menOk (l : List Nat) : Bool := okS l && l.length == 7
theorem okS_of {l : List Nat} (h0 : l ≠ []) (h : ∀ c ∈ l, c = 48 ∨ c = 49) : okS l = true := by
  unfold okS
  have : l.isEmpty = false := by simpa using h0
  rw [this, Bool.not_false, Bool.true_and, List.all_eq_true]
  intro c hc
  have := h c hc
  simpa using this
theorem flip_in {l : List Nat} (h : okS l = true) (hl : l.length = 7) {o : Option Nat} (ho : o ∈ places) : (flipAt l o).length = 7 ∧ ∀ c ∈ flipAt l o, c = 48 ∨ c = 49 := by
  cases o with
  | none => exact ⟨hl, fun c hc => okS_all h hc⟩
  | some k =>
    have hk : k < 7 := by
      have : ∀ o ∈ places, ∀ k, o = some k → k < 7 := by decide
      exact this _ ho _ rfl
    refine ⟨?_, fun c hc => ?_⟩
    · show (l.take k ++ [97 - l.getD k 0] ++ l.drop (k + 1)).length = 7
      rw [List.length_append, List.length_append, List.length_take, List.length_drop, List.length_singleton]
      omega
    · rcases List.mem_append.mp hc with hc | hc
      · rcases List.mem_append.mp hc with hc | hc
        · exact okS_all h (List.mem_of_mem_take hc)
        · have e := List.mem_singleton.mp hc
          have hg : l.getD k 0 = 48 ∨ l.getD k 0 = 49 := by
            have e2 : l.getD k 0 = l[k] := by rw [List.getD_eq_getElem?_getD, List.getElem?_eq_getElem (by omega)]; rfl
            rw [e2]
            exact okS_all h (List.getElem_mem _)
          omega
      · exact okS_all h (List.mem_of_mem_drop hc)
theorem flip_grd {l : List Nat} (h : okS l = true) (hl : l.length = 7) {o : Option Nat} (ho : o ∈ places) : grdOk ((flipAt l o).take 4) = true := by
  obtain ⟨a, b⟩ := flip_in h hl ho
  have h4 : ((flipAt l o).take 4).length = 4 := by rw [List.length_take, a]; rfl
  unfold grdOk
  rw [okS_of (fun z => by rw [z] at h4; cases h4) (fun c hc => b c (List.mem_of_mem_take hc)), h4]
  rfl
theorem cut4 (l : List Nat) : cutS (S l) none (some 4) = S (l.take 4) := cut_lo l 4
def spMend (K : PySem.W.Frag) : Sp := fun vs H Q E => ∃ l : List Nat, vs = [.str (S l)] ∧ Tabs (T K) H ∧ l.length ≤ 1000 ∧
  (menOk l = true → ∀ o, places.find? (meets l) = some o → ∀ H' p, Le (T K) H H' → H' p = none → Q (.ref p) (upd H' p (.tup [.str (S ((flipAt l o).take 4)), oV o]))) ∧
  (menOk l = true → places.find? (meets l) = none → ∀ H', Le (T K) H H' → E (.ref (aCE K)) none H') ∧
  (menOk l = false → ∀ H', Le (T K) H H' → E (.ref (aCE K)) none H')
theorem ok_mend (C : Ctx K mg base) : CalX P w K mg base 4 "mended" ["sign"] (spMend K) := by
  obtain ⟨fd, F⟩ := C.d.d_mended
  refine ⟨_, fd, ?_, F.funD.bindsN fun _ _ _ _ _ _ us hl => (match us, hl with | [_], _ => rfl), F.kp, C.t.m_mended⟩
  refine F.ok sc_mended (fun vs H Q E h => ?_) (fun A outer s H vs Q E hr h => ?_)
  · obtain ⟨l, rfl, _⟩ := h
    rfl
  · obtain ⟨l, rfl, hT, hl, hok, hnf, hno⟩ := h
    obtain ⟨e1, e2, e3, e4⟩ := C.t.e_CodeError
    refine ⟨_, pss_cons (ps_expr (pe_cx (ok_check (P := P) (w := w) C) hr (by decide) rfl passA (pa_cons (pv 0) pa_nil)))
      (pss_cons (ps_if (pt_cmpR op_ne (pe_callB call_len_str (by rfl) C.t.b_len PySem.boot_len (pa_cons (pv 0) pa_nil)) pe_int (nomark _))
        (pss_one (ps_raise rfl takesA (pmk_own PySem.F.excBase_ValueError e1 C.t.m_CodeError e2 (raises_own e3 e4) (by rfl)))) pss_nil)
      (pss_cons (ps_for ownsA rfl (pi_tup (pe_tup (pa_cons pe_non (pa_cons pe_int (pa_cons pe_int (pa_cons pe_int (pa_cons pe_int (pa_cons pe_int (pa_cons pe_int (pa_cons pe_int pa_nil)))))))))) (pg_name (i := 1) sc_mended.nd rfl (Or.inl rfl))
        (C8.pss_cut (ps_set (i := 2) sc_mended.nd rfl (Or.inl rfl) (pe_ifExp (pt_cmpR op_isN (pv 1) pe_non (nomark _)) (pv 0)
          (pe_op op_add_str (pe_op op_add_str (pe_slice sl_str (pv 0) po_none (po_some (pv 1)))
            (pe_callTy call_str_int (by rfl) C.t.b_str (by decide +kernel) (pa_cons (pe_op op_sub pe_int (pe_callTy call_int_str (by rfl) C.t.b_int (by decide +kernel) (pa_cons (pe_ix ix_str (pv 0) (pv 1) (fun _ _ => rfl)) pa_nil))) pa_nil)))
            (pe_slice sl_str (pv 0) (po_some (pe_op op_add (pv 1) pe_int)) po_none))))
        (pss_one (ps_if (pt_cmpR op_eq (pe_cx (ok_guard (P := P) (w := w) C) hr (by decide) rfl passA (pa_cons (pe_slice sl_str (pv 2) po_none (po_some pe_int)) pa_nil)) (pv 2) (nomark _))
          (pss_cons (ps_set (i := 3) sc_mended.nd rfl (Or.inl rfl) (pe_tup (pa_cons (pe_slice sl_str (pv 2) po_none (po_some pe_int)) (pa_cons (pv 1) pa_nil)))) (pss_one (ps_ret (pv 3)))) pss_nil))))
      (pss_one (ps_raise rfl takesA (pmk_own PySem.F.excBase_ValueError e1 C.t.m_CodeError e2 (raises_own e3 e4) (by rfl)))))), ?_⟩
    refine ⟨_, rfl, l, rfl, hT, fun ha H1 L1 => ?_, fun ha H1 L1 => hno (by unfold menOk; rw [ha]; rfl) H1 L1⟩
    refine ⟨_, rfl, _, rfl, lenS_le hl (by decide), rfl, _, rfl, ?_⟩
    rw [S_len]
    by_cases h7 : l.length = 7
    · rw [decide_eq_true (show V.int ((l.length : Nat) : Int) = V.int 7 by rw [h7]; rfl)]
      refine iteF ?_
      have hm : menOk l = true := by unfold menOk; rw [ha, h7]; rfl
      refine ⟨by show 8 ≤ sizeLine; decide, fun tp hp => ?_⟩
      refine ⟨_, rfl, ⟨_, SqT.of upd_same⟩, ?_⟩
      refine for_tup (xs := places.map oV) (fun i σ H' => Le (T K) H H' ∧ H' tp = some (.tup (places.map oV)) ∧ (∃ a b c, σ = [some (.str (S l)), a, b, c]) ∧ ∀ j o, j < i → places[j]? = some o → meets l o = false)
        ⟨L1.new hp, upd_same, ⟨_, _, _, rfl⟩, fun j o h => absurd h (Nat.not_lt_zero j)⟩ (fun i σ H' _ hP => SqT.of hP.2.1) (fun i x σ H2 hx ⟨L2, h2, ⟨a, b, c, hσ⟩, hn⟩ => ?_) (fun σ H2 ⟨L2, h2, hσ, hn⟩ => ?_)
      · obtain ⟨o, ho, rfl⟩ := get_map hx
        have hop := List.mem_of_getElem? ho
        obtain ⟨f7, fin⟩ := flip_in ha h7 hop
        subst hσ
        refine ⟨fun σ' H' => H' = H2 ∧ σ' = [some (.str (S l)), some (oV o), some (.str (S (flipAt l o))), c], ?_, ?_⟩
        · refine ⟨_, rfl, rfl, _, rfl, ?_⟩
          cases o with
          | none =>
            refine iteT ?_
            exact ⟨_, rfl, rfl, rfl⟩
          | some k =>
            refine iteF ?_
            have hk : k < 7 := by
              have : ∀ o ∈ places, ∀ k, o = some k → k < 7 := by decide
              exact this _ hop _ rfl
            have hc : l[k]? = some (l.getD k 0) := by rw [List.getD_eq_getElem?_getD, List.getElem?_eq_getElem (by omega)]; rfl
            have hb := okS_all ha (List.mem_of_getElem? hc)
            have e : Str.ofString (toString (1 - (((l.getD k 0 : Nat) : Int) - 48))) = S [97 - l.getD k 0] := by
              rw [toS_bit (by omega : 1 - (((l.getD k 0 : Nat) : Int) - 48) = 0 ∨ 1 - (((l.getD k 0 : Nat) : Int) - 48) = 1)]
              congr 2
              omega
            refine ⟨_, rfl, _, rfl, _, rfl, _, rfl, lenS_le hl (by decide), ?_⟩
            rw [cut_lo]
            refine ⟨_, rfl, _, rfl, _, _, _, rfl, rfl, lenS_le hl (by decide), atS hc, _, _, rfl, int_bit hb, lenS_one, _, _, rfl, rfl, _, rfl, log_bit (by omega), _, _, rfl, rfl, ?_, ?_⟩
            · rw [e, S_len, S_len]
              exact Nat.le_trans (Nat.add_le_add_right (List.length_take_le _ _) 1) (Nat.le_trans (show k + 1 ≤ 8 by omega) (by decide))
            rw [e, S_app]
            refine ⟨_, rfl, _, rfl, _, _, rfl, rfl, _, rfl, _, rfl, lenS_le hl (by decide), ?_⟩
            rw [show ((k : Nat) : Int) + 1 = ((k + 1 : Nat) : Int) by omega, cut_hi]
            refine ⟨_, _, rfl, rfl, ?_, ?_⟩
            · rw [S_len, S_len, List.length_append, List.length_take, List.length_drop, List.length_singleton]
              exact Nat.le_trans (show _ ≤ 16 by omega) (by decide)
            rw [S_app]
            exact ⟨rfl, rfl⟩
        · rintro σ' H' ⟨rfl, rfl⟩
          refine ⟨_, rfl, _, rfl, _, rfl, lenS_le (Nat.le_of_eq f7) (by decide), ?_⟩
          rw [cut4]
          refine ⟨_, rfl, L2.tab, ?_, fun g1 H3 L3 => ?_, fun g1 => ?_⟩
          · rw [List.length_take]
            omega
          · refine ⟨_, rfl, rfl, _, rfl, ?_⟩
            have hmt : meets l o = decide (V.str (S (grd ((flipAt l o).take 4))) = V.str (S (flipAt l o))) := decide_eq_decide.mpr ⟨fun z => by rw [z], fun z => S_inj (V.str.inj z)⟩
            rw [← hmt]
            cases hv : meets l o with
            | false =>
              refine iteF ?_
              refine ⟨L2.trans L3, L3.at h2, ⟨_, _, _, rfl⟩, fun j o' hj ho' => ?_⟩
              by_cases hji : j = i
              · subst hji
                rw [ho] at ho'
                cases ho'
                exact hv
              · exact hn j o' (by omega) ho'
            | true =>
              refine iteT ?_
              refine ⟨_, rfl, _, rfl, _, rfl, lenS_le (Nat.le_of_eq f7) (by decide), _, rfl, by show 2 ≤ sizeLine; decide, fun p hp2 => ?_⟩
              rw [cut4]
              refine ⟨_, rfl, ?_⟩
              refine hok hm o ?_ H3 p (L2.trans L3) hp2
              have hi8 : i < places.length := (List.getElem?_eq_some_iff.mp ho).1
              have hs : places = places.take i ++ o :: places.drop (i + 1) := by
                rw [← (List.getElem?_eq_some_iff.mp ho).2, List.getElem_cons_drop]
                exact (List.take_append_drop i places).symm
              rw [hs, List.find?_append]
              have hn0 : (places.take i).find? (meets l) = none := by
                rw [List.find?_eq_none]
                intro o' ho' z
                obtain ⟨j, hj, e⟩ := List.mem_iff_getElem.mp ho'
                have hj2 : j < i := by rw [List.length_take] at hj; omega
                have := hn j o' hj2 (by rw [← e, List.getElem_take, List.getElem?_eq_getElem (by omega)])
                rw [this] at z
                cases z
              rw [hn0, List.find?_cons_of_pos hv]
              rfl
          · rw [flip_grd ha h7 hop] at g1
            cases g1
      · obtain ⟨a, b, c, rfl⟩ := hσ
        refine hnf hm ?_ H2 L2
        rw [List.find?_eq_none]
        intro o ho z
        obtain ⟨j, hj, e⟩ := List.mem_iff_getElem.mp ho
        have := hn j o (by rw [List.length_map]; exact hj) (by rw [List.getElem?_eq_getElem hj, e])
        rw [this] at z
        cases z
    · rw [decide_eq_false (show ¬ V.int ((l.length : Nat) : Int) = V.int 7 from fun z => h7 (by have := V.int.inj z; omega))]
      refine iteT ?_
      exact hno (by unfold menOk; rw [ha]; simpa using h7) H1 L1
end
end K1

-- text GenX1
set_option maxRecDepth 100000
set_option maxHeartbeats 4000000
/-! GenX1: sum over a generator expression. -/
namespace GX
open PySem PySem.Spec PyProof.Rows L2 LamX GenW
section
variable {G : GD} {J : It} {tn : Nat → Heap → Prop} {n₀ : Nat} {W : Nat → List V → Hp → Prop} {A : Around} {R : Result → Shared → Prop}
abbrev sumGh (S : Addr) : Nat → Shared → List V → Prop := fun i s ys => ∃ (ns : List Int) (t : Tok) (c : Nat), ys = ns.map V.int ∧ s.heap.get? S = some (lstObj #[.int ns.sum t] c)
abbrev intYd : Nat → List V → V → Hp → Prop := fun _ _ y _ => ∃ n, y = .int n
theorem sum_snoc (ns : List Int) (n : Int) : (ns ++ [n]).sum = ns.sum + n := by rw [List.sum_append, List.sum_singleton]
theorem sum_loop (hA : G.A = A.in1.in1) (hh : A.handled = none) (hr : A.depth < recursionLimit) (hS : G.s.heap.objs.size ≤ G.S) (haS : G.S ≠ G.a) (hiG : ∀ h : Heap, h.get? G.a = some G.go → h.IsGen G.a G.g)
    (hF : ∀ (ns : List Int) (t : Tok) H s1 s2, G.at H s1 → W n₀ (ns.map V.int) H → s2.os = s1.os → AllBare s2.gens → (∀ b o, s1.heap.get? b = some o → s2.heap.get? b = some o) → R (.ok (.ret (.int ns.sum t))) s2) :
    ∀ (n : Nat) (s : Shared) (st : Int) (v0 : Value) (c0 : Nat), (st = 0 ∨ st = 2) → n ≠ 0 → s.heap.get? G.S = some (lstObj #[v0] c0) → G.Wait tn n₀ (sumGh G.S) W intYd yesCt n s → codeAny (model G.X.prog G.X.w) A (.builtin "sum.loop" ⟨[.ref G.a, .ref G.S, rawInt st, rawInt 0], []⟩) R s := by
  intro n
  induction n with
  | zero => exact fun _ _ _ _ _ h => absurd rfl h
  | succ n ih =>
    intro s st v0 c0 hst _ hS0 hw
    refine (codeAny_builtin F.entry_sum_loop ?_)
    rw [Around.under_plainId F.plain_sum_loop _]
    show wpAny _ A.in1 (seqItems? (.ref G.S) >>= _) _ _ s
    refine wpAny_bind (wpAny_seqItems hS0 rfl ?_)
    show wpAny _ A.in1 (tryCatch (pyNext (.ref G.a)) _ >>= _) _ _ s
    refine wpAny_bind (wpAny_tryCatch (next_gen (A := A.in1) (Nat.succ_ne_zero n) hS hA hh hr hiG hw (fun i ys y v H s1 gs' hi hlt hgh rv hat hb hk hyd hk2 => ?_) (fun ys H s1 s2 hn1 hgh hat hk hw2 ho hb hkp => ?_)))
    · obtain ⟨ns, t, c, hys, hSg⟩ := hgh
      have e0 := Option.some.inj (hSg.symm.trans hS0)
      have ev : v0 = .int ns.sum t := by injection e0 with _ _ e1 _; injection e1 with e2 _; have := congrArg Array.toList e2; simpa using this.symm
      subst ev
      have hS1 : s1.heap.get? G.S = some (lstObj #[.int ns.sum t] c0) := hk _ hS0
      obtain ⟨_, _, _, _, ga1, _⟩ := hat.facts
      obtain ⟨m, rfl⟩ := hyd
      obtain ⟨t2, rfl⟩ := rv
      have hn : n ≠ 0 := by omega
      have oth : ∀ (f : Obj → Obj) (h : Heap) b o, b ≠ G.S → h.get? b = some o → (h.update G.S f).get? b = some o := fun f h b o hb e => (Heap.get?_update_other _ _ (fun z => hb z.symm)).trans e
      -- the loop goes on, whatever way the sum was put down
      have next : ∀ (s' : Shared) (st' : Int) (t' : Tok) (c' : Nat), (st' = 0 ∨ st' = 2) → s'.os = s1.os → s'.gens = (s1.setGen G.g gs').gens → (∀ b o, b ≠ G.S → s1.heap.get? b = some o → s'.heap.get? b = some o) → s'.heap.get? G.S = some (lstObj #[.int (ns.sum + m) t'] c') →
          codeAny (model G.X.prog G.X.w) A (.builtin "sum.loop" ⟨[.ref G.a, .ref G.S, rawInt st', rawInt 0], []⟩) R s' := fun s' st' t' c' hst' ho hg hkk hS' => by
        refine ih s' st' _ c' hst' hn hS' (hk2 _ ⟨ho, by rw [hg]; exact hb, hkk, hkk _ _ (Ne.symm haS) ga1, ⟨_, hS', lst_cell⟩⟩ hg trivial ⟨ns ++ [m], t', c', ?_, ?_⟩)
        · rw [hys, List.map_append]
          rfl
        · rw [sum_snoc]
          exact hS'
      rcases hst with rfl | rfl
      · show wpAny _ A.in1 (if (_ : Bool) = true then (mkInt (ns.sum + m) >>= _) else _) _ _ _
        split
        · refine wpAny_bind (wpAny_mkInt ?_)
          show wpAny _ A.in1 (updateSeq G.S (fun _ => #[.int (ns.sum + m) s1.toks]) >>= _) _ _ _
          refine wpAny_bind ?_
          refine wpAny_updateSeq hS1 rfl (wpAny_pure ⟨plainId_quiet F.plain_sum_loop _, ?_⟩)
          exact next _ 0 _ _ (.inl rfl) rfl rfl (fun b o hb e => oth _ _ b o hb e) (Heap.get?_update_self _ hS1 rfl)
        · refine wpAny_bind (wpAny_rule ?_)
          refine wpAny_bind (wpAny_attempt (wpAny_holding (wpAny_add_int ?_)))
          show wpAny _ A.in1 (updateSeq G.S (fun _ => #[.int (ns.sum + m) s1.toks]) >>= _) _ _ _
          refine wpAny_bind (wpAny_updateSeq hS1 rfl ?_)
          have hS2 := Heap.get?_update_self (Obj.mapSeq fun _ => #[Value.int (ns.sum + m) s1.toks]) hS1 rfl
          refine wpAny_bind (wpAny_letGo ?_)
          refine wpAny_bind (wpAny_updateSeq hS2 rfl (wpAny_pure ⟨plainId_quiet F.plain_sum_loop _, ?_⟩))
          exact next _ 2 _ _ (.inr rfl) rfl rfl (fun b o hb e => oth _ _ b o hb (oth _ _ b o hb e)) (Heap.get?_update_self _ hS2 rfl)
      · show wpAny _ A.in1 ((holding [Value.int m t2] (binaryOp .Add (.int ns.sum t) (.int m t2))).attempt >>= _) _ _ _
        refine wpAny_bind (wpAny_attempt (wpAny_holding (wpAny_add_int ?_)))
        show wpAny _ A.in1 (updateSeq G.S (fun _ => #[.int (ns.sum + m) s1.toks]) >>= _) _ _ _
        refine wpAny_bind (wpAny_updateSeq hS1 rfl ?_)
        have hS2 := Heap.get?_update_self (Obj.mapSeq fun _ => #[Value.int (ns.sum + m) s1.toks]) hS1 rfl
        refine wpAny_bind (wpAny_letGo ?_)
        refine wpAny_bind (wpAny_updateSeq hS2 rfl (wpAny_pure ⟨plainId_quiet F.plain_sum_loop _, ?_⟩))
        exact next _ 2 _ _ (.inr rfl) rfl rfl (fun b o hb e => oth _ _ b o hb (oth _ _ b o hb e)) (Heap.get?_update_self _ hS2 rfl)
    · obtain ⟨ns, t, c, hys, hSg⟩ := hgh
      have e0 := Option.some.inj (hSg.symm.trans hS0)
      have ev : v0 = .int ns.sum t := by injection e0 with _ _ e1 _; injection e1 with e2 _; have := congrArg Array.toList e2; simpa using this.symm
      subst ev
      rw [hys] at hw2
      exact wpAny_pure (hF ns t H s1 s2 hat hw2 ho hb hkp)
end
def vint : V → Int
  | .int n => n
  | _ => 0
def vsum (ys : List V) : Int := (ys.map vint).sum
theorem vsum_snoc (ys : List V) (m : Int) : vsum (ys ++ [V.int m]) = vsum ys + m := by
  unfold vsum
  rw [List.map_append, List.sum_append]
  simp [vint]
theorem vsum_map (ns : List Int) : vsum (ns.map V.int) = ns.sum := by
  unfold vsum
  rw [List.map_map]
  congr 1
  exact List.map_id ns
/-- the reading of sum(elt for tg in iter) -/
def tGenSum (T : List (Addr × Str)) (wi : TI) (g : TG) (te : TE) (vs : List Nat) : TE := fun σ H Q => wi σ H fun J H1 => Tabs T H1 ∧ ∀ H2, ExtN H1 H2 → Tabs T H2 → (∀ b, H2 b = none → H1 b = none) →
  ∃ (n₀ : Nat) (W : Nat → Int → Hp → Prop), W 0 0 H2 ∧
    (∀ i a H, i < n₀ → W i a H → J.go i H ∧ ∀ x H', J.yld i H x H' → g x (wipe σ vs) H' fun σ2 H3 => wipe σ2 vs = wipe σ vs ∧ te σ2 H3 fun y H4 => ∃ m, y = .int m ∧ W (i + 1) (a + m) H4) ∧
    (∀ a H, W n₀ a H → J.stop n₀ H ∧ Q (.int a) H)
section
variable {X : Cx}
theorem boot_sum2 : bootBuiltins "sum" = some (.builtin "sum") := by decide +kernel
theorem pe_genSum {T : List (Addr × Str)} {c P : Addr} {own : List (Str × Nat)} {tg iter elt : Expr} {scope : Scope} {gpos p pos : Pos} {wi : TI} {g : TG} {te : TE} {k : Nat}
    (hr : Room (k + 1) X.A) (hgl : Gl X "sum") (hm : X.mg "sum" = none) (hN : X.N.Nodup) (TB : TabB X.base X.mg c P) (hcode : X.env.code = .ref c) (hmT : (P, X.env.qual ++ "<genexpr>") ∈ T) (hu : ∀ p ∈ T, p.1 = P → p.2 = X.env.qual ++ "<genexpr>")
    (hi : PI X tg iter wi) (ok : GSc X.N X.env.scope scope own)
    (hg : ∀ (A : Around) (s : Shared) (H : Hp) (code : Value) (ex : List Addr), PG (gcx X A s H scope code ex) tg g) (he : ∀ (A : Around) (s : Shared) (H : Hp) (code : Value) (ex : List Addr), Room k (gcx X A s H scope code ex).A → PE (gcx X A s H scope code ex) elt te)
    (hs : ∀ v, genFold iter X.env v = pure v := by intro _; rfl)
    (hst : starEach [.GeneratorExp elt [⟨tg, iter, [], 0⟩] scope gpos] X.env = (false, eval (.GeneratorExp elt [⟨tg, iter, [], 0⟩] scope gpos) X.env) :: starEach [] X.env := by rfl) :
    PE X (.Call (.Name "sum" p) [.GeneratorExp elt [⟨tg, iter, [], 0⟩] scope gpos] [] pos) (tGenSum T wi g te (own.map (·.2))) := by
  refine ⟨fun pins s σ H Q I h => ?_⟩
  refine wpAny_Call_Name_kw (ld_blt I hgl hm boot_sum2 ?_)
  refine PyProof.Rows.callWith_builtin1 ?_ hst (by rfl)
  rw [hst]
  show wpAny _ _ (spliced ((false, eval (Expr.GeneratorExp elt [⟨tg, iter, [], 0⟩] scope gpos) X.env) :: backTo pos (starEach [] X.env))) _ _ s
  refine Calls.spliced_cons (gen_make I hi ok TB hcode hmT hu hr.depth hs h fun J H1 H2 it fp tn code a go gi s4 s5 hR hE hT hno M => ?_)
  refine Calls.spliced_nil ?_
  obtain ⟨n₀, W, w0, step, stop⟩ := hR H2 hE hT hno
  let WV : Nat → List V → Hp → Prop := fun i ys H => W i (vsum ys) H
  let G : GD := ⟨X, X.A.in1.in1, s4, H2, scope, code, fp, a, go, gi, s5.heap.objs.size, wipe σ (own.map (·.2))⟩
  have P0 : Turns G J g te (own.map (·.2)) n₀ WV intYd yesCt (fun i ys y H => ∃ m, y = .int m ∧ W (i + 1) (vsum ys + m) H) := by
    refine ⟨fun i ys H hi hw => step i _ H hi hw, fun i ys y H hi hp => ?_, fun ys H hw => (stop _ H hw).1⟩
    obtain ⟨m, rfl, hq⟩ := hp
    exact ⟨⟨m, rfl⟩, fun _ => by show W (i + 1) (vsum (ys ++ [V.int m])) H; rw [vsum_snoc]; exact hq⟩
  refine call_function_tree F.kind_sum F.plain_sum F.entry_sum (F.args_sum1 _) ?_
  unfold Builtin.«sum»
  simp only [List.length_cons, List.length_nil]
  rw [if_neg (by decide)]
  refine wpAny_bind (wpAny_of_eq (show Builtin.Builtins.bindParams "sum" ["start"] 0 { } = pure [none] from rfl) ?_)
  refine wpAny_bind (wpAny_pyIter_gen (M.isG _ M.ga) ?_)
  refine wpAny_bind (wpAny_mkInt ?_)
  refine wpAny_bind (wpAny_pure ?_)
  simp only [List.forIn_cons, List.forIn_nil]
  refine wpAny_bind (wpAny_bind (wpAny_bind (wpAny_isInstance (T := "int") (b := false) (typeIs_int _ _ _) PySem.sub_int_str ?_)))
  simp only [Bool.false_eq_true, if_false]
  refine wpAny_pure (wpAny_bind (wpAny_bind (wpAny_isInstance (T := "int") (b := false) (typeIs_int _ _ _) PySem.sub_int_bytes ?_)))
  simp only [Bool.false_eq_true, if_false]
  refine wpAny_pure (wpAny_bind (wpAny_bind (wpAny_isInstance (T := "int") (b := false) (typeIs_int _ _ _) PySem.sub_int_bytearray ?_)))
  simp only [Bool.false_eq_true, if_false]
  refine wpAny_pure (wpAny_pure ?_)
  refine wpAny_bind (wpAny_newObj_type ?_)
  refine wpAny_pure ⟨plainId_quiet F.plain_sum_loop _, ?_⟩
  refine sum_loop (G := G) (A := X.A) (W := WV) (n₀ := n₀) (tn := tn) rfl hr.hd hr.depth (Nat.le_of_lt (Nat.lt_trans M.lt M.ltS)) (Nat.ne_of_gt M.ltS) M.isG (fun ns t H' s1 s2 hat hw ho hb hk => ?_) (n₀ + 1) _ 0 _ 0 (.inl rfl) (Nat.succ_ne_zero _) (Heap.get?_push_size _ rfl) ?_
  · have hw : W n₀ (vsum (ns.map V.int)) H' := hw
    rw [vsum_map] at hw
    obtain ⟨oS, hc, J'⟩ := hat
    exact ⟨.int ns.sum, H', gen_back M.inv J' (fun b hb => (M.fps b hb).1) ho hk hb, ⟨t, rfl⟩, (stop _ H' hw).2⟩
  · exact made_wait M ok hN hr.hd M.inv.ok.frames (hg _ _ _ _ _) (he _ _ _ _ _ (room_gen2 hr _)) P0 rfl rfl (fun b o e => Heap.get?_push_of_some _ e) (Heap.get?_push_size _ rfl) lst_cell (Nat.lt_trans M.lt M.ltS) ⟨[], s5.toks, 0, rfl, Heap.get?_push_size _ rfl⟩ w0
end
end GX

-- text GenY
set_option maxRecDepth 100000
set_option maxHeartbeats 4000000
/-! GenY: generator expressions with two clauses. -/
namespace GX
open PySem PySem.Spec PyProof.Rows L2 LamX GenW
abbrev gen2 (elt tg iter tg1 iter1 : Expr) (scope : Scope) (pos : Pos) : Expr := .GeneratorExp elt [⟨tg, iter, [], 0⟩, ⟨tg1, iter1, [], 0⟩] scope pos
theorem over_in {A : Around} {elt : Expr} {gs : List Comprehension} {scope : Scope} {pos p : Pos} {it it0 acc : Value} {env : Env} {k : Result → Sem Fin} :
    A.over (.compLoop (.GeneratorExp elt gs scope pos) 1 it acc env) [.ret k none false [] (.compLoop (.GeneratorExp elt gs scope pos) 0 it0 acc env) p []] = A.deeper env := by
  obtain ⟨a, b, c, d, e⟩ := A
  simp [Around.over, Around.deeper, marksOver, markOver, frameCount, unitsOf, envsOf, guardsOf, pushEnvs, pushGuards, Code.envs, Code.env?, Code.isFrame, Code.guards, Code.isGuard, Code.weight, Code.frames, Code.isCreation, Code.isCaller, Code.cUnits, Frame.where_, Frame.marks]
theorem over_inS {A : Around} {elt : Expr} {gs : List Comprehension} {scope : Scope} {pos p : Pos} {it it0 acc : Value} {env : Env} {k : Result → Sem Fin} :
    A.over (.compStart (.GeneratorExp elt gs scope pos) 1 it acc env) [.ret k none false [] (.compLoop (.GeneratorExp elt gs scope pos) 0 it0 acc env) p []] = A.deeper env := by
  obtain ⟨a, b, c, d, e⟩ := A
  simp [Around.over, Around.deeper, marksOver, markOver, frameCount, unitsOf, envsOf, guardsOf, pushEnvs, pushGuards, Code.envs, Code.env?, Code.isFrame, Code.guards, Code.isGuard, Code.weight, Code.frames, Code.isCreation, Code.isCaller, Code.cUnits, Frame.where_, Frame.marks]
theorem over_out {A : Around} {elt : Expr} {gs : List Comprehension} {scope : Scope} {pos : Pos} {it acc : Value} {env : Env} : A.over (.compLoop (.GeneratorExp elt gs scope pos) 0 it acc env) [] = A.deeper env := over_gen
theorem turn2_0 (elt tg iter tg1 iter1 : Expr) (scope : Scope) (pos : Pos) (it acc : Value) (env : Env) : compTurn (gen2 elt tg iter tg1 iter1 scope pos) 0 it acc env = (do
      standAt iter.pos
      match ← pyNext it with
      | none => pure (.done .next)
      | some v =>
        letOwnedTupleGo tg it v
        assign tg env v
        let mut ok := true
        for c in ([] : List Expr) do
          if ok then ok ← isTrue c env (eval c env)
        if ok then
          let x ← eval iter1 env
          standAt iter1.pos
          let x ← foldedSetIterable iter1 env x
          let _ ← runOwn (.compStart (gen2 elt tg iter tg1 iter1 scope pos) 1 (← holding [x] (pyIter x)) acc env) env
        again (.compLoop (gen2 elt tg iter tg1 iter1 scope pos) 0 it acc env)) := by
  rfl
theorem turn2_1 (elt tg iter tg1 iter1 : Expr) (scope : Scope) (pos : Pos) (it acc : Value) (env : Env) : compTurn (gen2 elt tg iter tg1 iter1 scope pos) 1 it acc env = (do
      standAt iter1.pos
      match ← pyNext it with
      | none => pure (.done .next)
      | some v =>
        letOwnedTupleGo tg1 it v
        assign tg1 env v
        let mut ok := true
        for c in ([] : List Expr) do
          if ok then ok ← isTrue c env (eval c env)
        if ok then
          (do let v ← eval elt env; standAt elt.pos; let _ ← yieldOut env v)
        again (.compLoop (gen2 elt tg iter tg1 iter1 scope pos) 1 it acc env)) := by
  rfl
theorem seg_runOwn {M : Model} {A : Around} {R : GenEnd} {Y : Protocol} {n : Nat} {s₀ s : Shared} {c c' : Code} {env : Env} {fs : List Frame} {K : Flow → Sem Fin} {H : Value → Sem Fin} {gd : Bool → Bool} {lv : List Value → List Value}
    (h : ∀ p, Seg M A R Y n s₀ c' (M.den c') (.ret (fun r => ((match r with | .ok f => (.pure f : Sem Flow) | .error e => .raise e).onRaise fun (x : Value) => do
        if (← field x 1) == Value.none then unsupported "frame.own-activation:exception-without-traceback"
        setFlight x env.frame).wrap K H gd lv) none (gd false) (lv []) c p [] :: fs) s) : Seg M A R Y n s₀ c ((runOwn c' env).wrap K H gd lv) fs s := seg_call h
/-- one turn's promise; the inner clause's own turns within -/
structure Turns2 (G : GD) (J : It) (g : TG) (wi1 : TI) (g1 : TG) (te : TE) (vs vs1 : List Nat) (no N : Nat) (W : Nat → List V → Hp → Prop) (Wf : List V → Hp → Prop) (Yd : V → Prop) : Prop where
  step : ∀ i ys H, i < no → W i ys H → J.go i H ∧ ∀ x H', J.yld i H x H' → g x G.σ H' fun σ2 H2 => wipe σ2 vs = G.σ ∧ wi1 σ2 H2 fun J1 H4 => ∃ (m : Nat) (U : Nat → List V → Hp → Prop), U 0 ys H4 ∧
    (∀ j ys H, j < m → U j ys H → ys.length < N ∧ J1.go j H ∧ ∀ x H', J1.yld j H x H' → g1 x (wipe σ2 vs1) H' fun σ3 H5 => wipe σ3 vs1 = wipe σ2 vs1 ∧ te σ3 H5 fun y H6 => Yd y ∧ U (j + 1) (ys ++ [y]) H6) ∧
    (∀ ys H, U m ys H → J1.stop m H ∧ W (i + 1) ys H)
  stop : ∀ ys H, W no ys H → J.stop no H ∧ ys.length = N ∧ Wf ys H
section
variable {G : GD} {elt tg iter tg1 iter1 : Expr} {pos : Pos} {vs vs1 : List Nat} {J : It} {g g1 : TG} {wi1 : TI} {te : TE} {it : Addr} {tn : Nat → Heap → Prop} {no N : Nat} {Gh : Nat → Shared → List V → Prop} {W : Nat → List V → Hp → Prop} {Wf : List V → Hp → Prop} {Yd : V → Prop}
abbrev yd2 (Yd : V → Prop) : Nat → List V → V → Hp → Prop := fun _ _ y _ => Yd y
abbrev we2 (Wf : List V → Hp → Prop) : Nat → List V → Hp → Prop := fun _ ys H => Wf ys H
theorem GD.at.setσ {σ' : L2.St} {H : Hp} {s : Shared} (h : GD.at { G with σ := σ' } H s) (hl : G.σ.length = σ'.length) (w : ∀ (i : Nat) v, G.σ[i]? = some (some v) → σ'[i]? = some (some v)) : G.at H s := by
  obtain ⟨oS, hc, I⟩ := h
  exact ⟨oS, hc, Inv.weak (X := G.cx) I hl w⟩
/-- the inner clause's turns -/
theorem seg_inner {J1 : It} {fp1 : List Addr} {it1 : Addr} {tn1 : Nat → Heap → Prop} {σ2 : L2.St} {m : Nat} {U : Nat → List V → Hp → Prop} {kf : Result → Sem Fin} {pf : Pos} {i : Nat}
    (T : Turn G.X.prog G.X.w G.X.K tg J G.fp it tn) (T1 : Turn G.X.prog G.X.w G.X.K tg1 J1 fp1 it1 tn1) (hg1 : PG G.cx tg1 g1) (he : PE G.cx elt te) (hco : G.scope.isCoroutine = false) (hS : G.s.heap.objs.size ≤ G.S)
    (haS : ∀ b ∈ G.fp, b ≠ G.a ∧ b ≠ G.S) (st1 : ∀ b ∈ fp1, b ≠ G.cx.env.locals ∧ b ∉ G.cx.fs ∧ (b ∈ G.cx.ex ∨ G.cx.s_0.heap.objs.size ≤ b) ∧ (∀ x c, G.cx.env.cells.lookup x = some c → c ≠ b) ∧ b ≠ G.a ∧ b ≠ G.S ∧ b ∉ G.fp)
    (hσ : wipe (wipe σ2 vs1) vs = G.σ)
    (step : ∀ j ys H, j < m → U j ys H → ys.length < N ∧ J1.go j H ∧ ∀ x H', J1.yld j H x H' → g1 x (wipe σ2 vs1) H' fun σ3 H5 => wipe σ3 vs1 = wipe σ2 vs1 ∧ te σ3 H5 fun y H6 => Yd y ∧ U (j + 1) (ys ++ [y]) H6)
    (stop : ∀ ys H, U m ys H → J1.stop m H)
    (cont : ∀ (n : Nat) (s₀ s : Shared) (ys : List V) (H : Hp), ys.length + n = N + 1 → Gh ys.length s₀ ys → G.at H s → tn i s.heap → (∀ b ∈ G.fp, H b = none) → (∀ o, s₀.heap.get? G.S = some o → s.heap.get? G.S = some o) → U m ys H →
      Seg (model G.X.prog G.X.w) G.A (fun n s₀ r s₁ => r = .ok .next ∧ G.E N Gh (we2 Wf) n s₀ s₁) (G.Y tn N Gh (yd2 Yd) yesCt) n s₀ (.compLoop (gen2 elt tg iter tg1 iter1 G.scope pos) 0 (.ref it) .none G.cx.env) (kf (.ok .next)) [] s) :
    ∀ (l j : Nat) (n : Nat) (s₀ s : Shared) (ys : List V) (H : Hp), j + l = m → ys.length + n = N + 1 → Gh ys.length s₀ ys → GD.at { G with σ := wipe σ2 vs1 } H s → tn i s.heap → tn1 j s.heap → (∀ b ∈ G.fp, H b = none) → (∀ b ∈ fp1, H b = none) →
      (∀ o, s₀.heap.get? G.S = some o → s.heap.get? G.S = some o) → U j ys H →
      Seg (model G.X.prog G.X.w) G.A (fun n s₀ r s₁ => r = .ok .next ∧ G.E N Gh (we2 Wf) n s₀ s₁) (G.Y tn N Gh (yd2 Yd) yesCt) n s₀ (.compLoop (gen2 elt tg iter tg1 iter1 G.scope pos) 1 (.ref it1) .none G.cx.env)
        ((model G.X.prog G.X.w).den (.compLoop (gen2 elt tg iter tg1 iter1 G.scope pos) 1 (.ref it1) .none G.cx.env)) [.ret kf none false [] (.compLoop (gen2 elt tg iter tg1 iter1 G.scope pos) 0 (.ref it) .none G.cx.env) pf []] s := by
  have hov : G.A.over (.compLoop (gen2 elt tg iter tg1 iter1 G.scope pos) 1 (.ref it1) .none G.cx.env) [.ret kf none false [] (.compLoop (gen2 elt tg iter tg1 iter1 G.scope pos) 0 (.ref it) .none G.cx.env) pf []] = G.cx.A := over_in
  have fpokO : ∀ {oS : Obj} {σ' : L2.St} {H' : Hp} {s' : Shared}, Inv G.cx [(G.a, G.go), (G.S, oS)] σ' H' s' → (∀ b ∈ G.fp, H' b = none) → ∀ b ∈ G.fp, FpOk G.cx [(G.a, G.go), (G.S, oS)] H' b := fun {oS σ' H' s'} I' hn b hb =>
    ⟨hn b hb, (I'.ok.exf b hb).1, I'.ok.exfs b hb, .inl hb, fun x c e => (I'.ok.exf b hb).2 x c e, fun p hp => by
      have hp : p ∈ [(G.a, G.go), (G.S, oS)] := hp
      rcases List.mem_cons.mp hp with z | z
      · rw [z]; exact fun q => (haS b hb).1 q.symm
      · rw [List.mem_singleton.mp z]; exact fun q => (haS b hb).2 q.symm⟩
  have fpok1 : ∀ {oS : Obj} {h : Heap} {H' : Hp}, (∀ b ∈ fp1, H' b = none) → ∀ b ∈ fp1, FpOk G.cx ([(G.a, G.go), (G.S, oS)] ++ pinsAt G.fp h) H' b := fun {oS h H'} hn b hb => by
    obtain ⟨k1, k2, k3, k4, k5, k6, k7⟩ := st1 b hb
    refine ⟨hn b hb, k1, k2, k3, k4, fun p hp => ?_⟩
    rcases List.mem_append.mp (show p ∈ [(G.a, G.go), (G.S, oS)] ++ pinsAt G.fp h from hp) with hp | hp
    · rcases List.mem_cons.mp hp with z | z
      · rw [z]; exact fun q => k5 q.symm
      · rw [List.mem_singleton.mp z]; exact fun q => k6 q.symm
    · exact fun q => k7 (by rw [← q]; exact (of_pinsAt hp).1)
  have lσ : G.σ.length = (wipe σ2 vs1).length := by rw [← hσ, wipe_length]
  have wσ : ∀ (i : Nat) v, G.σ[i]? = some (some v) → (wipe σ2 vs1)[i]? = some (some v) := fun i v e => by
    rw [← hσ] at e
    exact (wipe_some e).1
  intro l
  induction l with
  | zero =>
    intro j n s₀ s ys H hj hn hgh hat ht ht1 hO h1 hkS hU
    have hjm : j = m := by omega
    subst hjm
    show Seg _ G.A _ _ _ s₀ _ ((compTurn (gen2 elt tg iter tg1 iter1 G.scope pos) 1 (.ref it1) .none G.cx.env).onRaise _) _ s
    rw [turn2_1, Sem.onRaise_eq_wrap]
    refine seg_bind_wrap (wpAny_standAt ?_)
    obtain ⟨oS, hc, I⟩ := hat
    have I : Inv G.cx [(G.a, G.go), (G.S, oS)] (wipe σ2 vs1) H s := I
    have IP := I.pinned (fpokO I hO) (T.obj _ _ ht)
    refine seg_bind_wrap ?_
    rw [hov]
    refine thnZ (T1.done G.cx rfl rfl rfl rfl j _ s _ H (fun _ _ => False) IP (fpok1 h1) ht1 (stop ys H hU)) fun r s6 ⟨hr, I6⟩ => ?_
    subst hr
    have pS := (I.pin (G.S, oS) (List.mem_append_right _ (List.mem_cons_of_mem _ List.mem_cons_self))).1
    have pS6 := (I6.pin (G.S, oS) (List.mem_append_right _ (List.mem_append_left _ (List.mem_cons_of_mem _ List.mem_cons_self)))).1
    have I6' : Inv G.cx [(G.a, G.go), (G.S, oS)] G.σ H s6 := (I6.unpinned).weak lσ wσ
    refine seg_leaf (.ok .next) (cont n s₀ s6 ys H hn hgh ⟨oS, hc, I6'⟩ (T.keep _ _ _ ht fun b hb o e => (I6.pin (b, o) (List.mem_append_right _ (List.mem_append_right _ (mem_pinsAt hb e)))).1) hO (fun o ho => ?_) hU)
    have := hkS o ho
    rw [pS] at this
    rw [← this]
    exact pS6
  | succ l ih =>
    intro j n s₀ s ys H hj hn hgh hat ht ht1 hO h1 hkS hU
    obtain ⟨hlt, hgo, hst⟩ := step j ys H (by omega) hU
    show Seg _ G.A _ _ _ s₀ _ ((compTurn (gen2 elt tg iter tg1 iter1 G.scope pos) 1 (.ref it1) .none G.cx.env).onRaise _) _ s
    rw [turn2_1, Sem.onRaise_eq_wrap]
    refine seg_bind_wrap (wpAny_standAt ?_)
    obtain ⟨oS, hc, I⟩ := hat
    have I : Inv G.cx [(G.a, G.go), (G.S, oS)] (wipe σ2 vs1) H s := I
    have IP := I.pinned (fpokO I hO) (T.obj _ _ ht)
    refine seg_bind_wrap ?_
    rw [hov]
    refine thnZ (T1.item G.cx rfl rfl rfl rfl j _ s _ H (fun _ _ => False) IP (fpok1 h1) ht1 hgo) fun r s6 ⟨u, hr, h6⟩ => ?_
    subst hr
    refine seg_bind_wrap ?_
    rw [hov]
    refine thnZ h6 fun _ s7 ⟨x, H7, I7, r7, y7, st7, n7⟩ => ?_
    refine seg_bind_wrap ?_
    rw [hov]
    refine thnZ (hg1.run _ s7 _ H7 x u _ (I7.pinned (fpok1 n7) (T1.obj _ _ st7)) r7 (hst x H7 y7)) fun _ s8 ⟨σ8, H8, I8, hw8, q8⟩ => ?_
    refine seg_bind_wrap (wpAny_tests_nil ?_)
    have hy : ∀ v, yieldOut G.cx.env v = yieldValue v := fun v => by
      have hco' : G.cx.env.scope.isCoroutine = false := hco
      simp only [yieldOut, hco', Bool.false_eq_true, if_false]
    simp only [if_true, hy]
    rw [Sem.bind_eq_wrap', Sem.bind_eq_wrap', Sem.wrap_wrap, Sem.wrap_wrap]
    refine seg_wrap ?_
    rw [hov]
    refine thnZ (he.run _ s8 σ8 H8 _ I8 q8) fun v s9 ⟨yv, H9, I9, r9, hyd, hU9⟩ => ?_
    have pin9 : ∀ p ∈ [(G.a, G.go), (G.S, oS)] ++ pinsAt G.fp s.heap, s9.heap.get? p.1 = some p.2 ∧ H9 p.1 = none ∧ p.1 ≠ G.cx.env.locals ∧ p.1 ∉ G.cx.fs ∧ ∀ v, p.2.data ≠ .cell v := fun p hp => I9.pin p (List.mem_append_right _ (List.mem_append_left _ hp))
    have I9' : Inv G.cx [(G.a, G.go), (G.S, oS)] (wipe σ2 vs1) H9 s9 := (I9.pins_of (pins' := [(G.a, G.go), (G.S, oS)]) fun p hp => pin9 p (List.mem_append_left _ hp)).weak (by rw [← hw8, wipe_length]) fun j v e => by
      rw [← hw8] at e
      exact (wipe_some e).1
    have pS := (I.pin (G.S, oS) (List.mem_append_right _ (List.mem_cons_of_mem _ List.mem_cons_self))).1
    have pS9 := (I9'.pin (G.S, oS) (List.mem_append_right _ (List.mem_cons_of_mem _ List.mem_cons_self))).1
    have A9 : GD.at { G with σ := wipe σ2 vs1 } H9 s9 := ⟨oS, hc, I9'⟩
    have t9 : tn i s9.heap := T.keep _ _ _ ht fun b hb o e => (pin9 (b, o) (List.mem_append_right _ (mem_pinsAt hb e))).1
    have n9 : ∀ b ∈ G.fp, H9 b = none := fun b hb => by
      obtain ⟨o, e, _⟩ := T.obj _ _ ht b hb
      exact (pin9 (b, o) (List.mem_append_right _ (mem_pinsAt hb e))).2.1
    have pin1 : ∀ b ∈ fp1, ∀ o, s7.heap.get? b = some o → s9.heap.get? b = some o ∧ H9 b = none := fun b hb o e =>
      let z := I9.pin (b, o) (List.mem_append_right _ (List.mem_append_right _ (mem_pinsAt hb e)))
      ⟨z.1, z.2.1⟩
    have t19 : tn1 (j + 1) s9.heap := T1.keep _ _ _ st7 fun b hb o e => (pin1 b hb o e).1
    have n19 : ∀ b ∈ fp1, H9 b = none := fun b hb => by
      obtain ⟨o, e, _⟩ := T1.obj _ _ st7 b hb
      exact (pin1 b hb o e).2
    obtain ⟨n', rfl⟩ : ∃ n', n = n' + 1 := ⟨n - 1, by omega⟩
    refine seg_at (seg_yield rfl rfl rfl ⟨ys.length, ys, yv, H9, by omega, hlt, hgh, r9, A9.setσ lσ wσ, fun o ho => ?_, hyd, fun s' hr hc' hgh' => ?_⟩)
    · have := hkS o ho
      rw [pS] at this
      rw [← this]
      exact pS9
    · have A' : GD.at { G with σ := wipe σ2 vs1 } H9 s' := A9.woken hS ⟨hr.os, hr.bare, hr.keep, hr.ga, hr.gs⟩
      refine seg_again rfl (ih (j + 1) n' s' s' (ys ++ [yv]) H9 (by omega) (by rw [List.length_append, List.length_singleton]; omega) (by rw [List.length_append, List.length_singleton]; exact hgh') A' (T.keep _ _ _ t9 fun b hb o e => hr.keep b o (haS b hb).2 e)
        (T1.keep _ _ _ t19 fun b hb o e => hr.keep b o (st1 b hb).2.2.2.2.2.1 e) n9 n19 (fun o ho => ho) hU9)
/-- the outer clause's turns -/
theorem seg_outer (T : Turn G.X.prog G.X.w G.X.K tg J G.fp it tn) (hg : PG G.cx tg g) (hi1 : PI G.cx tg1 iter1 wi1) (hg1 : PG G.cx tg1 g1) (he : PE G.cx elt te) (hco : G.scope.isCoroutine = false) (hS : G.s.heap.objs.size ≤ G.S)
    (haS : ∀ b ∈ G.fp, b ≠ G.a ∧ b ≠ G.S) (hsf : ∀ x, foldedSetIterable iter1 G.cx.env x = pure x) (hv : ∀ σ : L2.St, wipe (wipe σ vs1) vs = wipe σ vs) (P : Turns2 G J g wi1 g1 te vs vs1 no N W Wf Yd) :
    ∀ (k i : Nat) (n : Nat) (s₀ s : Shared) (ys : List V) (H : Hp), i + k = no → ys.length + n = N + 1 → Gh ys.length s₀ ys → G.at H s → tn i s.heap → (∀ b ∈ G.fp, H b = none) → (∀ o, s₀.heap.get? G.S = some o → s.heap.get? G.S = some o) → W i ys H →
      Seg (model G.X.prog G.X.w) G.A (fun n s₀ r s₁ => r = .ok .next ∧ G.E N Gh (we2 Wf) n s₀ s₁) (G.Y tn N Gh (yd2 Yd) yesCt) n s₀ (.compLoop (gen2 elt tg iter tg1 iter1 G.scope pos) 0 (.ref it) .none G.cx.env)
        ((model G.X.prog G.X.w).den (.compLoop (gen2 elt tg iter tg1 iter1 G.scope pos) 0 (.ref it) .none G.cx.env)) [] s := by
  have hov : G.A.over (.compLoop (gen2 elt tg iter tg1 iter1 G.scope pos) 0 (.ref it) .none G.cx.env) [] = G.cx.A := over_out
  have fpok : ∀ {oS : Obj} {σ' : L2.St} {H' : Hp} {s' : Shared}, Inv G.cx [(G.a, G.go), (G.S, oS)] σ' H' s' → (∀ b ∈ G.fp, H' b = none) → ∀ b ∈ G.fp, FpOk G.cx [(G.a, G.go), (G.S, oS)] H' b := fun {oS σ' H' s'} I' hn b hb =>
    ⟨hn b hb, (I'.ok.exf b hb).1, I'.ok.exfs b hb, .inl hb, fun x c e => (I'.ok.exf b hb).2 x c e, fun p hp => by
      have hp : p ∈ [(G.a, G.go), (G.S, oS)] := hp
      rcases List.mem_cons.mp hp with z | z
      · rw [z]; exact fun q => (haS b hb).1 q.symm
      · rw [List.mem_singleton.mp z]; exact fun q => (haS b hb).2 q.symm⟩
  intro k
  induction k with
  | zero =>
    intro i n s₀ s ys H hi hn hgh hat ht hO hkS hW
    have him : i = no := by omega
    subst him
    obtain ⟨hstop, hlen, hwf⟩ := P.stop ys H hW
    show Seg _ G.A _ _ _ s₀ _ ((compTurn (gen2 elt tg iter tg1 iter1 G.scope pos) 0 (.ref it) .none G.cx.env).onRaise _) _ s
    rw [turn2_0, Sem.onRaise_eq_wrap]
    refine seg_bind_wrap (wpAny_standAt ?_)
    obtain ⟨oS, hc, I⟩ := hat
    refine seg_bind_wrap ?_
    rw [hov]
    refine thnZ (T.done G.cx rfl rfl rfl rfl i _ s _ H (fun _ _ => False) I (fpok I hO) ht hstop) fun r s6 ⟨hr, I6⟩ => ?_
    subst hr
    have pS := (I.pin (G.S, oS) (List.mem_append_right _ (List.mem_cons_of_mem _ List.mem_cons_self))).1
    have pS6 := (I6.pin (G.S, oS) (List.mem_append_right _ (List.mem_cons_of_mem _ List.mem_cons_self))).1
    rw [hlen] at hgh
    refine seg_end (.ok .next) ⟨rfl, by omega, ys, H, hgh, ⟨oS, hc, I6⟩, fun o ho => ?_, hwf⟩
    have := hkS o ho
    rw [pS] at this
    rw [← this]
    exact pS6
  | succ k ih =>
    intro i n s₀ s ys H hi hn hgh hat ht hO hkS hW
    obtain ⟨hgo, hst⟩ := P.step i ys H (by omega) hW
    show Seg _ G.A _ _ _ s₀ _ ((compTurn (gen2 elt tg iter tg1 iter1 G.scope pos) 0 (.ref it) .none G.cx.env).onRaise _) _ s
    rw [turn2_0, Sem.onRaise_eq_wrap]
    refine seg_bind_wrap (wpAny_standAt ?_)
    obtain ⟨oS, hc, I⟩ := hat
    refine seg_bind_wrap ?_
    rw [hov]
    refine thnZ (T.item G.cx rfl rfl rfl rfl i _ s _ H (fun _ _ => False) I (fpok I hO) ht hgo) fun r s6 ⟨u, hr, h6⟩ => ?_
    subst hr
    refine seg_bind_wrap ?_
    rw [hov]
    refine thnZ h6 fun _ s7 ⟨x, H7, I7, r7, y7, st7, n7⟩ => ?_
    refine seg_bind_wrap ?_
    rw [hov]
    refine thnZ (hg.run _ s7 _ H7 x u _ (I7.pinned (fpok I7 n7) (T.obj _ _ st7)) r7 (hst x H7 y7)) fun _ s8 ⟨σ8, H8, I8, hw8, q8⟩ => ?_
    refine seg_bind_wrap (wpAny_tests_nil ?_)
    simp only [if_true]
    refine seg_bind_wrap ?_
    rw [hov]
    refine thnZ (hi1.run _ s8 σ8 H8 _ I8 q8) fun xv s9 hx => ?_
    refine seg_bind_wrap (wpAny_standAt ?_)
    rw [hsf]
    refine seg_bind_wrap (wpAny_pure ?_)
    refine seg_bind_wrap ?_
    rw [hov]
    refine wpAny_holding (thnZ hx fun itv s10 hx2 => ?_)
    obtain ⟨it1, fp1, tn1, J1, H10, e, I10, T1, t10, f10, m, U, hU0, step1, stop1⟩ := hx2
    subst e
    have pinO : ∀ p ∈ [(G.a, G.go), (G.S, oS)] ++ pinsAt G.fp s7.heap, s10.heap.get? p.1 = some p.2 ∧ H10 p.1 = none ∧ p.1 ≠ G.cx.env.locals ∧ p.1 ∉ G.cx.fs ∧ ∀ v, p.2.data ≠ .cell v := fun p hp => I10.pin p (List.mem_append_right _ hp)
    have n10 : ∀ b ∈ G.fp, H10 b = none := fun b hb => by
      obtain ⟨o, e, _⟩ := T.obj _ _ st7 b hb
      exact (pinO (b, o) (List.mem_append_right _ (mem_pinsAt hb e))).2.1
    have tO : tn (i + 1) s10.heap := T.keep _ _ _ st7 fun b hb o e => (pinO (b, o) (List.mem_append_right _ (mem_pinsAt hb e))).1
    have pS := (I.pin (G.S, oS) (List.mem_append_right _ (List.mem_cons_of_mem _ List.mem_cons_self))).1
    have I10' : Inv G.cx [(G.a, G.go), (G.S, oS)] (wipe σ8 vs1) H10 s10 := (I10.pins_of (pins' := [(G.a, G.go), (G.S, oS)]) fun p hp => pinO p (List.mem_append_left _ hp)).weak (by rw [wipe_length]) fun j v e => (wipe_some e).1
    have pS10 := (I10'.pin (G.S, oS) (List.mem_append_right _ (List.mem_cons_of_mem _ List.mem_cons_self))).1
    have hkS10 : ∀ o, s₀.heap.get? G.S = some o → s10.heap.get? G.S = some o := fun o ho => by
      have := hkS o ho
      rw [pS] at this
      rw [← this]
      exact pS10
    have st1 : ∀ b ∈ fp1, b ≠ G.cx.env.locals ∧ b ∉ G.cx.fs ∧ (b ∈ G.cx.ex ∨ G.cx.s_0.heap.objs.size ≤ b) ∧ (∀ x c, G.cx.env.cells.lookup x = some c → c ≠ b) ∧ b ≠ G.a ∧ b ≠ G.S ∧ b ∉ G.fp := fun b hb => by
      obtain ⟨k0, k1, k2, k3, k4, k5⟩ := f10 b hb
      refine ⟨k1, k2, k3, k4, fun z => k5 (G.a, G.go) (List.mem_append_right _ (List.mem_append_left _ List.mem_cons_self)) z.symm, fun z => k5 (G.S, oS) (List.mem_append_right _ (List.mem_append_left _ (List.mem_cons_of_mem _ List.mem_cons_self))) z.symm, fun hb2 => ?_⟩
      obtain ⟨o, e, _⟩ := T.obj _ _ st7 b hb2
      exact k5 (b, o) (List.mem_append_right _ (List.mem_append_right _ (mem_pinsAt hb2 e))) rfl
    rw [Sem.bind_eq_wrap', Sem.wrap_wrap]
    refine seg_runOwn fun pf => ?_
    have loop : ∀ (kf : Result → Sem Fin), (kf (.ok .next) = .pure (.again (.compLoop (gen2 elt tg iter tg1 iter1 G.scope pos) 0 (.ref it) .none G.cx.env))) →
        Seg (model G.X.prog G.X.w) G.A (fun n s₀ r s₁ => r = .ok .next ∧ G.E N Gh (we2 Wf) n s₀ s₁) (G.Y tn N Gh (yd2 Yd) yesCt) n s₀ (.compLoop (gen2 elt tg iter tg1 iter1 G.scope pos) 1 (.ref it1) .none G.cx.env)
        ((model G.X.prog G.X.w).den (.compLoop (gen2 elt tg iter tg1 iter1 G.scope pos) 1 (.ref it1) .none G.cx.env)) [.ret kf none false [] (.compLoop (gen2 elt tg iter tg1 iter1 G.scope pos) 0 (.ref it) .none G.cx.env) pf []] s10 := fun kf hk =>
      seg_inner (vs := vs) (vs1 := vs1) (J := J) (te := te) (N := N) (Wf := Wf) (Yd := Yd) (σ2 := σ8) (m := m) (U := U) (i := i + 1) T T1 hg1 he hco hS haS st1 (by rw [hv]; exact hw8) step1 (fun ys H h => (stop1 ys H h).1)
        (fun n s₀ s ys H hn hgh hat ht hO hkS hU => by rw [hk]; exact seg_again rfl (ih (i + 1) n s₀ s ys H (by omega) hn hgh hat ht hO hkS (stop1 ys H hU).2)) m 0 n s₀ s10 ys H10 (by omega) hn hgh ⟨oS, hc, I10'⟩ tO t10 n10 (fun b hb => (f10 b hb).1) hkS10 hU0
    show Seg _ G.A _ _ _ s₀ _ ((compStart (gen2 elt tg iter tg1 iter1 G.scope pos) 1 (.ref it1) .none G.cx.env).onRaise _) _ s10
    unfold compStart
    rw [Sem.onRaise_eq_wrap]
    show Seg _ G.A _ _ _ s₀ _ ((ask >>= _).wrap _ _ _ _) _ s10
    refine seg_bind_wrap (wpAny_askSetting ?_)
    split
    · exact seg_again rfl (loop _ rfl)
    · refine seg_bind_wrap (wpAny_rule ?_)
      show Seg _ G.A _ _ _ s₀ _ ((standAt iter1.pos >>= _).wrap _ _ _ _) _ s10
      exact seg_bind_wrap (wpAny_standAt (seg_bind_wrap (T1.self _ 0 s10 _ _ t10 (seg_again rfl (loop _ rfl)))))
end
end GX

-- text GenZ
set_option maxRecDepth 100000
set_option maxHeartbeats 4000000
/-! GenZ: generator expressions with two clauses, made; the least of what comes out. -/
namespace GX
open PySem PySem.Spec PyProof.Rows L2 LamX GenW
theorem eval_gen2 (elt tg iter tg1 iter1 : Expr) (scope : Scope) (pos : Pos) (env : Env) (hco : scope.isCoroutine = false) :
    eval (gen2 elt tg iter tg1 iter1 scope pos) env = (do
      let x ← eval iter env
      standAt iter.pos
      let x ← genFold iter env x
      let it ← holding [x] (pyIter x)
      enterFrame
      let cl ← closureFor scope env
      let code ← genexprCode env pos (env.qual ++ "<genexpr>") scope
      let bi ← builtinsFor env.globals env.builtins
      let cenv ← newFunctionEnv scope env.globals cl [(".0", it)] (env.qual ++ "<genexpr>.") none code none bi
      newGenerator (.compStart (gen2 elt tg iter tg1 iter1 scope pos) 0 it .none cenv) "<genexpr>" (env.qual ++ "<genexpr>")) := by
  rw [arm_eval_GeneratorExp]
  simp only [hco, Bool.false_eq_true, if_false]
  cases iter <;> rfl
theorem make2_eval {M : Model} {A : Around} {E : Value → Shared → Prop} {s : Shared} {env : Env} {elt tg iter tg1 iter1 : Expr} {scope : Scope} {cl : List (Str × Addr)} {pos : Pos} {Q : Value → Shared → Prop}
    (hco : scope.isCoroutine = false) (hclos : closureFor scope env = pure cl) (hcell : ∀ y ∈ scope.names, y.2 ≠ .cell) (h0 : scope.names.lookup (".0" : Str) = some NameKind.local) (hkind : scope.kind = .function) (hroom : A.depth < recursionLimit)
    (h : wpAny M A (eval iter env) (fun xv z1 => wpAny M A (pyIter xv) (fun it z2 => z2.heap.NoLimit ∧ wpAny M A (genexprCode env pos (env.qual ++ "<genexpr>") scope) (fun code z3 => wpAny M A (builtinsFor env.globals env.builtins) (fun bi z4 =>
        ∀ g, g.Ns z4.heap.objs.size (fun y => if y = ".0" then some it else none) → Heap.SameBut z4.heap.objs.size (z4.heap.push { cls := .type "frame", data := .dict #[] }) g →
          Q (.ref g.objs.size) { z4 with gens := z4.gens.push (.fresh (.compStart (gen2 elt tg iter tg1 iter1 scope pos) 0 it .none (genEnv scope cl z4.heap.objs.size code bi env))), toks := z4.toks + 1 + 1 + 1, heap := g.push { cls := .type "generator", data := .fields #[.int z4.gens.size 0, .str "<genexpr>" (z4.toks + 1), .str (env.qual ++ "<genexpr>") (z4.toks + 1 + 1)] } }) E z3) E z2) E z1) E s)
    (hs : ∀ x, genFold iter env x = pure x) : wpAny M A (eval (gen2 elt tg iter tg1 iter1 scope pos) env) Q E s := by
  rw [eval_gen2 _ _ _ _ _ _ _ _ hco, hclos]
  refine wpAny_bind (wpAny_mono h (fun xv z1 k1 => ?_) fun _ _ y => y)
  refine wpAny_bind (wpAny_standAt (wpAny_bind (wpAny_of_eq (hs xv) ?_)))
  refine wpAny_bind (wpAny_holding (wpAny_mono k1 (fun it z2 k2 => ?_) fun _ _ y => y))
  refine wpAny_bind (wpAny_enterFrame k2.1 hroom (wpAny_bind (wpAny_pure ?_)))
  refine wpAny_bind (wpAny_mono k2.2 (fun code z3 k3 => wpAny_bind (wpAny_mono k3 (fun bi z4 k4 => ?_) fun _ _ y => y)) fun _ _ y => y)
  have hb : ∀ y ∈ ([((".0" : Str), it)] : List (Str × Value)), scope.names.lookup y.1 = some NameKind.local := fun y hy => by rw [List.mem_singleton.mp hy]; exact h0
  refine wpAny_bind (wpAny_newFunctionEnv hcell hb (fun g hn hsb => ?_) hkind)
  have e : (fun y : Str => ([((".0" : Str), it)] : List (Str × Value)).reverse.lookup y) = fun y : Str => if y = (".0" : Str) then some it else none := by
    funext y
    by_cases hy : y = ".0"
    · subst hy; simp
    · have : (y == (".0" : Str)) = false := by simpa using hy
      simp [List.lookup, this, hy]
  rw [e] at hn
  simp only [newGenerator, newFields]
  refine wpAny_bind (wpAny_newGen (wpAny_bind (wpAny_mkText (wpAny_bind (wpAny_mkText (wpAny_newObj_type ?_ (by size_fits)))))))
  exact k4 g hn hsb
section
variable {X : Cx} {pins : List (Addr × Obj)} {σ : L2.St} {H : Hp} {s : Shared}
/-- what stands when a generator expression of two clauses has been made -/
structure Made2 (X : Cx) (pins : List (Addr × Obj)) (σ : L2.St) (tg iter tg1 iter1 elt : Expr) (scope : Scope) (gpos : Pos) (J : It) (H2 : Hp) (it : Addr) (fp : List Addr) (tn : Nat → Heap → Prop) (code : Value) (a : Addr) (go : Obj) (g : Nat) (s4 s5 : Shared) : Prop where
  inv : Inv X pins σ H2 s4
  turn : Turn X.prog X.w X.K tg J fp it tn
  tn0 : tn 0 s5.heap
  fps : ∀ b ∈ fp, FpOk X pins H2 b ∧ b < s4.heap.objs.size
  ns : ∃ m, s5.heap.Ns s4.heap.objs.size m
  keep : ∀ b o, s4.heap.get? b = some o → s5.heap.get? b = some o
  os : s5.os = s4.os
  bare : AllBare s5.gens
  lt : s4.heap.objs.size < a
  ltS : a < s5.heap.objs.size
  ga : s5.heap.get? a = some go
  isG : ∀ h : Heap, h.get? a = some go → h.IsGen a g
  cellG : ∀ v, go.data ≠ .cell v
  gens : s5.gens[g]? = some (.fresh (.compStart (.GeneratorExp elt [⟨tg, iter, [], 0⟩, ⟨tg1, iter1, [], 0⟩] scope gpos) 0 (.ref it) .none (gEnv X scope s4.heap.objs.size code)))

theorem gen_make2 {T : List (Addr × Str)} {c P : Addr} {own : List (Str × Nat)} {tg iter tg1 iter1 elt : Expr} {scope : Scope} {gpos : Pos} {wi : TI} {R : It → Hp → Prop} {Q' : Value → Shared → Prop}
    (I : Inv X pins σ H s) (hi : PI X tg iter wi) (ok : GSc X.N X.env.scope scope own) (TB : TabB X.base X.mg c P) (hcode : X.env.code = .ref c) (hmT : (P, X.env.qual ++ "<genexpr>") ∈ T) (hu : ∀ p ∈ T, p.1 = P → p.2 = X.env.qual ++ "<genexpr>")
    (hroom : X.A.depth < recursionLimit) (hs : ∀ v, genFold iter X.env v = pure v) (h : wi σ H fun J H1 => Tabs T H1 ∧ R J H1)
    (hQ : ∀ J H1 H2 it fp tn code a go g s4 s5, R J H1 → ExtN H1 H2 → Tabs T H2 → (∀ b, H2 b = none → H1 b = none) → Made2 X pins σ tg iter tg1 iter1 elt scope gpos J H2 it fp tn code a go g s4 s5 → Q' (.ref a) s5) :
    wpAny (model X.prog X.w) X.A (eval (.GeneratorExp elt [⟨tg, iter, [], 0⟩, ⟨tg1, iter1, [], 0⟩] scope gpos) X.env) Q' X.xe s := by
  have hfree : ∀ y ∈ scope.names, y.2 = .free → ∃ c, X.env.cells.lookup y.1 = some c := fun y hy e => by
    rcases ok.blk.free y hy e with k | k
    · exact I.ok.has _ (.inl k)
    · exact I.ok.has _ (.inr k)
  refine make2_eval ok.co (closure_ok hfree) ok.cell ok.dot ok.blk.kind hroom ?_ hs
  refine thn (hi.run pins s σ H _ I h) fun xv s1 hx => thn hx fun itv s2 h2 => ?_
  obtain ⟨it, fp, tn, J, H1, e, I2, Tn, st2, f2, hT, hR⟩ := h2
  subst e
  refine ⟨I2.nolimit, ?_⟩
  obtain ⟨ps, hP, ht, hall⟩ := hT _ hmT
  have hPs : s2.heap.get? P = some { cls := .none, data := .fields ps } := I2.hok P _ hP
  have hPlt : P < s2.heap.objs.size := Heap.lt_size hPs
  have cd : PySem.W.CodeHd s2.heap c P := TB.code.keeps I2.bk
  have hbm : s2.heap.BuiltinsAt X.mg P := TB.bm.keeps I2.bk
  -- what follows from the new code object on
  have cont : ∀ (code : Value) (H2 : Hp) (s3 : Shared), Inv X pins σ H2 s3 → ExtN H1 H2 → Tabs T H2 → (∀ b, H2 b = none → H1 b = none) → (∀ b o, b ≠ P → s2.heap.get? b = some o → s3.heap.get? b = some o) → (∀ b ∈ fp, H2 b = none) →
      wpAny (model X.prog X.w) X.A (builtinsFor X.env.globals X.env.builtins) (fun bi s₄ =>
        ∀ h', h'.Ns s₄.heap.objs.size (fun y => if y = ".0" then some (.ref it) else none) → Heap.SameBut s₄.heap.objs.size (s₄.heap.push { cls := .type "frame", data := .dict #[] }) h' →
          Q' (.ref h'.objs.size) { s₄ with
            gens := s₄.gens.push (.fresh (.compStart (.GeneratorExp elt [⟨tg, iter, [], 0⟩, ⟨tg1, iter1, [], 0⟩] scope gpos) 0 (.ref it) .none (genEnv scope (cloFrom X.env.cells scope.names []) s₄.heap.objs.size code bi X.env))),
            toks := s₄.toks + 1 + 1 + 1,
            heap := h'.push { cls := .type "generator", data := .fields #[.int s₄.gens.size 0, .str "<genexpr>" (s₄.toks + 1), .str (X.env.qual ++ "<genexpr>") (s₄.toks + 1 + 1)] } }) X.xe s3 := by
    intro code H2 s3 I3 hE hT3 hno kp3 nfp
    obtain ⟨bm, ob, e1, e2, e3, e4, e5, e6, e7, e8⟩ := TB.bm
    refine wpAny_builtinsFor (m := X.mg) (by rw [I3.ok.glob]; exact I3.mod.glob.keeps I3.bk) e1 e2 (I3.bk _ _ e5) e6 e7 e8 ?_
    intro h' hns hsb
    have sz' : h'.objs.size = s3.heap.objs.size + 1 := by rw [hsb.1, Heap.size_push]
    have kp4 : ∀ b o, s3.heap.get? b = some o → h'.get? b = some o := fun b o e => hsb.extBut b o (Nat.ne_of_lt (Heap.lt_size e)) (Heap.get?_push_of_some _ e)
    have kp5 : ∀ (go : Obj) b o, s3.heap.get? b = some o → (h'.push go).get? b = some o := fun go b o e => Heap.get?_push_of_some _ (kp4 b o e)
    have nP : ∀ b ∈ fp, b ≠ P := fun b hb z => by
      have := (f2 b hb).1
      rw [z, hP] at this
      cases this
    have fpL : ∀ b ∈ fp, b < s2.heap.objs.size := fun b hb => by
      obtain ⟨o, e, _⟩ := Tn.obj _ _ st2 b hb
      exact Heap.lt_size e
    have fpG : ∀ b ∈ fp, ∀ o, s2.heap.get? b = some o → s3.heap.get? b = some o := fun b hb o e => kp3 b o (nP b hb) e
    refine hQ J H1 H2 it fp tn code h'.objs.size _ s3.gens.size s3 _ hR hE hT3 hno
      ⟨I3, Tn, Tn.keep _ _ _ st2 fun b hb o e => kp5 _ b o (fpG b hb o e), fun b hb => ⟨⟨nfp b hb, (f2 b hb).2⟩, ?_⟩, ⟨_, hns.push _⟩, fun b o e => kp5 _ b o e, rfl, I3.bare.push rfl, ?_, ?_, Heap.get?_push_size _ rfl, fun h e => ⟨_, _, _, e, rfl, rfl, rfl⟩, ?_, Array.getElem?_push_size ..⟩
    · obtain ⟨o, e, _⟩ := Tn.obj _ _ st2 b hb
      exact Heap.lt_size (fpG b hb o e)
    · rw [sz']; exact Nat.lt_succ_self _
    · show h'.objs.size < (h'.push _).objs.size
      rw [Heap.size_push]; exact Nat.lt_succ_self _
    · intro v z
      cases z
  cases hf : codeAmong gpos ps.toList with
  | some cv =>
    refine wpAny_genexprCode_hit hcode (cd.code hPs ht) hf ?_
    exact cont cv H1 s2 I2 (ExtN.refl H1) hT (fun _ z => z) (fun _ _ _ e => e) fun b hb => (f2 b hb).1
  | none =>
    refine wpAny_genexprCodeX hcode (cd.code hPs ht) (cd.tab hPs) hf fun c' h' tk hx hge hlt hco' hrec htab' _ => ?_
    obtain ⟨c2, oc, vs, t, e2, hoc, hd, hv⟩ := hrec
    cases e2
    have nC : H1 c' = none := I2.hok.fresh hge
    have I3 := inv_table (t' := tk) (more := #[rawInt gpos.line, rawInt gpos.col, .ref c']) (h' := h') (q := X.env.qual ++ "<genexpr>") I2 hP (fun b o hb e => hx b o hb e) htab'.2 hge ⟨oc, vs, t, hoc, hd, hv⟩
    have hE : ExtN H1 (upd (upd H1 P (.tbl (ps ++ #[rawInt gpos.line, rawInt gpos.col, .ref c']))) c' (CodeO c' (X.env.qual ++ "<genexpr>"))) := fun b o e n => by
      rw [upd_ne (ne_of_none e nC), upd_ne (fun z => n ps (Option.some.inj (e.symm.trans (by rw [z]; exact hP))))]
      exact e
    have eL : (ps ++ #[rawInt gpos.line, rawInt gpos.col, .ref c']).toList = ps.toList ++ [rawInt gpos.line, rawInt gpos.col, .ref c'] := by simp
    refine cont (.ref c') _ _ I3 hE (fun p hp => ?_) (fun b e => upd_none2 (upd_none2 e)) (fun b o hb e => hx b o hb e) fun b hb => ?_
    · by_cases hb : p.1 = P
      · rw [hu p hp hb, hb]
        refine ⟨_, by rw [upd_ne (ne_of_none hP nC), upd_same], by rw [eL]; exact PySem.TriplesOk_snoc _ _ _ _ ht, fun p' cv hcv => ?_⟩
        rw [eL] at hcv
        rcases among_app _ ht hcv with z | z
        · obtain ⟨c0, q1, q2⟩ := hall p' cv z
          exact ⟨c0, q1, hE _ _ q2 codeO_ne⟩
        · exact ⟨c', z, upd_same⟩
      · obtain ⟨ps', a1, a2, a3⟩ := hT p hp
        refine ⟨ps', by rw [upd_ne (ne_of_none a1 nC), upd_ne hb]; exact a1, a2, fun p' cv hcv => ?_⟩
        obtain ⟨c0, q1, q2⟩ := a3 p' cv hcv
        exact ⟨c0, q1, hE _ _ q2 codeO_ne⟩
    · have hl : b < s2.heap.objs.size := by
        obtain ⟨o, e, _⟩ := Tn.obj _ _ st2 b hb
        exact Heap.lt_size e
      have n1 : b ≠ c' := Nat.ne_of_lt (Nat.lt_of_lt_of_le hl hge)
      have n2 : b ≠ P := fun z => by
        have := (f2 b hb).1
        rw [z, hP] at this
        cases this
      rw [upd_ne n1, upd_ne n2]
      exact (f2 b hb).1
end
section
variable {G : GD} {elt tg iter tg1 iter1 : Expr} {pos : Pos} {vs vs1 : List Nat} {J : It} {g g1 : TG} {wi1 : TI} {te : TE} {it : Addr} {tn : Nat → Heap → Prop} {no N : Nat} {Gh : Nat → Shared → List V → Prop} {W : Nat → List V → Hp → Prop} {Wf : List V → Hp → Prop} {Yd : V → Prop}
theorem seg_first2 (T : Turn G.X.prog G.X.w G.X.K tg J G.fp it tn) (hg : PG G.cx tg g) (hi1 : PI G.cx tg1 iter1 wi1) (hg1 : PG G.cx tg1 g1) (he : PE G.cx elt te) (hco : G.scope.isCoroutine = false) (hS : G.s.heap.objs.size ≤ G.S)
    (haS : ∀ b ∈ G.fp, b ≠ G.a ∧ b ≠ G.S) (hsf : ∀ x, foldedSetIterable iter1 G.cx.env x = pure x) (hv : ∀ σ : L2.St, wipe (wipe σ vs1) vs = wipe σ vs) (P : Turns2 G J g wi1 g1 te vs vs1 no N W Wf Yd) {s : Shared} {H : Hp} (hgh : Gh 0 s []) (hat : G.at H s) (ht : tn 0 s.heap) (hn : ∀ b ∈ G.fp, H b = none) (hw : W 0 [] H) :
      Seg (model G.X.prog G.X.w) G.A (fun n s₀ r s₁ => r = .ok .next ∧ G.E N Gh (we2 Wf) n s₀ s₁) (G.Y tn N Gh (yd2 Yd) yesCt) (N + 1) s
        (.compStart (gen2 elt tg iter tg1 iter1 G.scope pos) 0 (.ref it) .none G.cx.env) ((model G.X.prog G.X.w).den (.compStart (gen2 elt tg iter tg1 iter1 G.scope pos) 0 (.ref it) .none G.cx.env)) [] s := by
  have loop := seg_outer (iter := iter) (pos := pos) T hg hi1 hg1 he hco hS haS hsf hv P no 0 (N + 1) s s [] H (Nat.zero_add _) (by simp) hgh hat ht hn (fun _ z => z) hw
  show Seg _ G.A _ _ _ s _ ((compStart (gen2 elt tg iter tg1 iter1 G.scope pos) 0 (.ref it) .none G.cx.env).onRaise (leaving G.cx.env)) [] s
  unfold compStart
  rw [Sem.onRaise_eq_wrap]
  show Seg _ G.A _ _ _ s _ ((ask >>= _).wrap _ _ _ _) [] s
  refine seg_bind_wrap (wpAny_askSetting ?_)
  split
  · exact seg_again rfl loop
  · refine seg_bind_wrap (wpAny_rule ?_)
    show Seg _ G.A _ _ _ s _ ((standAt iter.pos >>= _).wrap _ _ _ _) [] s
    exact seg_bind_wrap (wpAny_standAt (seg_bind_wrap (T.self _ 0 s _ _ ht (seg_again rfl loop))))
end
section
variable {X : Cx}
/-- a made generator of two clauses, asleep ahead of its first turn; S: the consumer's own object -/
theorem made_wait2 {pins : List (Addr × Obj)} {σ : L2.St} {tg iter tg1 iter1 elt : Expr} {scope : Scope} {gpos : Pos} {J : It} {H2 : Hp} {it : Addr} {fp : List Addr} {tn : Nat → Heap → Prop} {code : Value} {a S : Addr} {go oS : Obj} {gi : Nat} {s4 s5 s6 : Shared} {A : Around} {own : List (Str × Nat)} {g g1 : TG} {wi1 : TI} {te : TE} {vs1 : List Nat} {no N : Nat}
    {Gh : Nat → Shared → List V → Prop} {W : Nat → List V → Hp → Prop} {Wf : List V → Hp → Prop} {Yd : V → Prop}
    (M : Made2 X pins σ tg iter tg1 iter1 elt scope gpos J H2 it fp tn code a go gi s4 s5) (ok : GSc X.N X.env.scope scope own) (hN : X.N.Nodup) (hd : A.handled = none) (hfr : A.frames = some X.stack)
    (hg : PG (gcx X A s4 H2 scope code fp) tg g) (he : PE (gcx X A s4 H2 scope code fp) elt te) (hi1 : PI (gcx X A s4 H2 scope code fp) tg1 iter1 wi1) (hg1 : PG (gcx X A s4 H2 scope code fp) tg1 g1)
    (hsf : ∀ x, foldedSetIterable iter1 (gcx X A s4 H2 scope code fp).env x = pure x) (hv : ∀ σ : L2.St, wipe (wipe σ vs1) (own.map (·.2)) = wipe σ (own.map (·.2)))
    (P : Turns2 ⟨X, A, s4, H2, scope, code, fp, a, go, gi, S, wipe σ (own.map (·.2))⟩ J g wi1 g1 te (own.map (·.2)) vs1 no N W Wf Yd)
    (ho : s6.os = s5.os) (hgen : s6.gens = s5.gens) (hk : ∀ b o, s5.heap.get? b = some o → s6.heap.get? b = some o) (hS : s6.heap.get? S = some oS) (hSc : ∀ v, oS.data ≠ .cell v) (hSl : s4.heap.objs.size < S)
    (hgh : Gh 0 (s6.setGen gi .running) []) (w0 : W 0 [] H2) :
    GD.Wait ⟨X, A, s4, H2, scope, code, fp, a, go, gi, S, wipe σ (own.map (·.2))⟩ tn N Gh (we2 Wf) (yd2 Yd) yesCt (N + 1) s6 := by
  have I5 : Inv (gcx X A s4 H2 scope code fp) [] (wipe σ (own.map (·.2))) H2 s6 := by
    obtain ⟨m, hns⟩ := M.ns
    exact gen_start (A := A) M.inv ok hN hd hfr M.fps (hns.keeps hk) (fun b o e => hk _ _ (M.keep b o e)) (ho.trans M.os) (by rw [hgen]; exact M.bare)
  have young : ∀ b, s4.heap.objs.size < b → H2 b = none ∧ b ≠ s4.heap.objs.size ∧ b ∉ frs X.stack := fun b hb => by
    refine ⟨M.inv.hok.fresh (Nat.le_of_lt hb), Nat.ne_of_gt hb, fun z => ?_⟩
    rcases List.mem_cons.mp (M.inv.stkSub b z) with z | z
    · have := M.inv.lt
      rw [← z] at this
      exact absurd (Nat.lt_trans hb this) (Nat.lt_irrefl _)
    · exact M.inv.nofs (Nat.le_of_lt hb) z
  let G : GD := ⟨X, A, s4, H2, scope, code, fp, a, go, gi, S, wipe σ (own.map (·.2))⟩
  have at5 : G.at H2 s6 := by
    refine ⟨oS, hSc, I5.pins_of fun p hp => ?_⟩
    rcases List.mem_cons.mp hp with z | z
    · rw [z]
      obtain ⟨y1, y2, y3⟩ := young a M.lt
      exact ⟨hk _ _ M.ga, y1, y2, y3, M.cellG⟩
    · rw [List.mem_singleton.mp z]
      obtain ⟨y1, y2, y3⟩ := young S hSl
      exact ⟨hS, y1, y2, y3, hSc⟩
  have g6 : s6.gens[gi]? = some (.fresh (.compStart (.GeneratorExp elt [⟨tg, iter, [], 0⟩, ⟨tg1, iter1, [], 0⟩] scope gpos) 0 (.ref it) .none (gEnv X scope s4.heap.objs.size code))) := by
    rw [hgen]
    exact M.gens
  refine ⟨hk _ _ M.ga, M.inv.nolimit.keeps fun b o e => hk _ _ (M.keep b o e), _, g6, rfl, ?_⟩
  exact seg_first2 (G := G) M.turn hg hi1 hg1 he ok.co (Nat.le_of_lt hSl) (fun b hb => ⟨Nat.ne_of_lt (Nat.lt_trans (M.fps b hb).2 M.lt), Nat.ne_of_lt (Nat.lt_trans (M.fps b hb).2 hSl)⟩) hsf hv P hgh
      (at5.woken (Nat.le_of_lt hSl) ⟨rfl, bare_set (by rw [hgen]; exact M.bare) rfl, fun b o _ e => e, hk _ _ M.ga, ⟨oS, hS, hSc⟩⟩) (M.turn.keep _ _ _ M.tn0 fun b _ o e => hk b o e) (fun b hb => (M.fps b hb).1.1) w0
end
end GX

-- text GenM
set_option maxRecDepth 100000
set_option maxHeartbeats 4000000
/-! GenM: min over a generator expression of two clauses. -/
namespace GX
open PySem PySem.Spec PyProof.Rows L2 LamX GenW
abbrev isInt (y : V) : Prop := ∃ n, y = .int n
section
variable {G : GD} {tn : Nat → Heap → Prop} {N : Nat} {Wf : List V → Hp → Prop} {A : Around} {R : Result → Shared → Prop}
/-- what the consumer's own list holds: nothing yet, or the least so far -/
def minGh (S : Addr) : Nat → Shared → List V → Prop := fun i s ys => ys.length = i ∧ ((ys = [] ∧ ∃ c, s.heap.get? S = some (lstObj #[] c)) ∨ ∃ (ns : List Int) (m : Int) (t : Tok) (c : Nat), ys = ns.map V.int ∧ m ∈ ns ∧ (∀ x ∈ ns, m ≤ x) ∧ s.heap.get? S = some (lstObj #[.int m t, .int m t] c))
theorem lst_one {a b : Array Value} {c d : Nat} (h : lstObj a c = lstObj b d) : a = b := by
  injection h with _ _ e _
  injection e
theorem min_loop (hA : G.A = A.in1.in1) (hh : A.handled = none) (hr : A.depth < recursionLimit) (hS : G.s.heap.objs.size ≤ G.S) (haS : G.S ≠ G.a) (hN : 0 < N) (hiG : ∀ h : Heap, h.get? G.a = some G.go → h.IsGen G.a G.g) (hgc : ∀ v, G.go.data ≠ .cell v)
    (hF : ∀ (ns : List Int) (m : Int) (t : Tok) H s3, m ∈ ns → (∀ x ∈ ns, m ≤ x) → ns.length = N → G.at H s3 → Wf (ns.map V.int) H → AllBare s3.gens → R (.ok (.ret (.int m t))) s3) :
    ∀ (n : Nat) (s : Shared) (acc : Array Value) (c0 : Nat), n ≠ 0 → s.heap.get? G.S = some (lstObj acc c0) → G.Wait tn N (minGh G.S) (we2 Wf) (yd2 isInt) yesCt n s → codeAny (model G.X.prog G.X.w) A (.builtin "min.loop" ⟨[.ref G.a, .none, .ref G.S], []⟩) R s := by
  have hname : (toString "min" ++ toString ".loop" : String) = "min.loop" := by decide
  have oth : ∀ (f : Obj → Obj) (h : Heap) b o, b ≠ G.S → h.get? b = some o → (h.update G.S f).get? b = some o := fun f h b o hb e => (Heap.get?_update_other _ _ (fun z => hb z.symm)).trans e
  intro n
  induction n with
  | zero => exact fun _ _ _ h => absurd rfl h
  | succ n ih =>
    intro s acc c0 _ hS0 hw
    refine (codeAny_builtin F.entry_min_loop ?_)
    rw [Around.under_plainId F.plain_min_loop _]
    show wpAny _ A.in1 (seqItems? (.ref G.S) >>= _) _ _ s
    refine wpAny_bind (wpAny_seqItems hS0 rfl ?_)
    show wpAny _ A.in1 (tryCatch (pyNext (.ref G.a)) _ >>= _) _ _ s
    refine wpAny_bind (wpAny_tryCatch (next_gen (A := A.in1) (Nat.succ_ne_zero n) hS hA hh hr hiG hw (fun i ys y v H s1 gs' hi hlt hgh rv hat hb hk hyd hk2 => ?_) (fun ys H s1 s2 hn1 hgh hat hk hw2 ho hb hkp => ?_)))
    · obtain ⟨hyl, hgh⟩ := hgh
      obtain ⟨m1, rfl⟩ := hyd
      obtain ⟨t1, rfl⟩ := rv
      have hn : n ≠ 0 := by omega
      have hS1 := hk _ hS0
      obtain ⟨_, _, _, _, ga1, _⟩ := hat.facts
      have next : ∀ (s' : Shared) (acc' : Array Value) (c' : Nat) (ns : List Int) (m : Int) (t' : Tok), acc' = #[.int m t', .int m t'] → s'.os = s1.os → s'.gens = (s1.setGen G.g gs').gens → (∀ b o, b ≠ G.S → s1.heap.get? b = some o → s'.heap.get? b = some o) →
          s'.heap.get? G.S = some (lstObj acc' c') → ys ++ [V.int m1] = ns.map V.int → m ∈ ns → (∀ x ∈ ns, m ≤ x) → codeAny (model G.X.prog G.X.w) A (.builtin "min.loop" ⟨[.ref G.a, .none, .ref G.S], []⟩) R s' := fun s' acc' c' ns m t' ea ho hg hkk hS' e1 e2 e3 => by
        refine ih s' acc' c' hn hS' (hk2 _ ⟨ho, by rw [hg]; exact hb, hkk, hkk _ _ (Ne.symm haS) ga1, ⟨_, hS', lst_cell⟩⟩ hg trivial ⟨by rw [List.length_append, hyl]; rfl, .inr ⟨ns, m, t', c', e1, e2, e3, ?_⟩⟩)
        rw [← ea]
        exact hS'
      rcases hgh with ⟨rfl, c, hSg⟩ | ⟨ns, m, t, c, rfl, h1, h2, hSg⟩
      · have e0 : acc = #[] := (lst_one (Option.some.inj (hSg.symm.trans hS0))).symm
        subst e0
        show wpAny _ A.in1 (updateSeq G.S (fun _ => #[.int m1 t1, .int m1 t1]) >>= _) _ _ _
        refine wpAny_bind ?_
        refine wpAny_updateSeq hS1 rfl ?_
        rw [hname]
        refine wpAny_pure ⟨plainId_quiet F.plain_min_loop _, ?_⟩
        exact next _ _ _ [m1] m1 t1 rfl rfl rfl (fun b o hb e => oth _ _ b o hb e) (Heap.get?_update_self _ hS1 rfl) rfl (List.mem_singleton.mpr rfl) (fun x hx => by rw [List.mem_singleton.mp hx]; exact Int.le_refl _)
      · have e0 : acc = #[.int m t, .int m t] := (lst_one (Option.some.inj (hSg.symm.trans hS0))).symm
        subst e0
        show wpAny _ A.in1 (tryCatch (holding [Value.int m1 t1, Value.int m1 t1] (richCompare .Lt (.int m1 t1) (.int m t) >>= _)) _ >>= _) _ _ _
        refine wpAny_bind (wpAny_tryCatch (wpAny_holding (wpAny_bind (richCompare_gives (op := .Lt) (typeIs_int _ _ t1) (typeIs_int _ _ t) F.slot_int_lt F.entry_int_lt (F.args_int_lt_2 _ _) (gives_int_lt _ _ t1 t) (fun x => nomatch x) ?_))))
        refine wpAny_bind (wpAny_holding (wpAny_truthy_bool ?_))
        refine wpAny_bind (wpAny_letGo (wpAny_pure ?_))
        cases hlt2 : decide (m1 < m) with
        | true =>
          have hlt3 : m1 < m := of_decide_eq_true hlt2
          simp only [if_true]
          refine wpAny_bind ?_
          refine wpAny_updateSeq hS1 rfl (wpAny_bind (wpAny_letGo ?_))
          rw [hname]
          refine wpAny_pure ⟨plainId_quiet F.plain_min_loop _, ?_⟩
          refine next _ _ _ (ns ++ [m1]) m1 t1 rfl rfl rfl (fun b o hb e => oth _ _ b o hb e) (Heap.get?_update_self _ hS1 rfl) (by rw [List.map_append]; rfl) (List.mem_append_right _ (List.mem_singleton.mpr rfl)) (fun x hx => ?_)
          rcases List.mem_append.mp hx with hx | hx
          · exact Int.le_of_lt (Int.lt_of_lt_of_le hlt3 (h2 x hx))
          · rw [List.mem_singleton.mp hx]; exact Int.le_refl _
        | false =>
          have hlt3 : ¬ m1 < m := of_decide_eq_false hlt2
          simp only [Bool.false_eq_true, if_false]
          refine wpAny_bind (wpAny_letGo ?_)
          rw [hname]
          refine wpAny_pure ⟨plainId_quiet F.plain_min_loop _, ?_⟩
          refine next _ _ _ (ns ++ [m1]) m t rfl rfl rfl (fun b o _ e => e) hS1 (by rw [List.map_append]; rfl) (List.mem_append_left _ h1) (fun x hx => ?_)
          rcases List.mem_append.mp hx with hx | hx
          · exact h2 x hx
          · rw [List.mem_singleton.mp hx]; omega
    · obtain ⟨hyl, hgh⟩ := hgh
      rcases hgh with ⟨rfl, c, hSg⟩ | ⟨ns, m, t, c, rfl, h1, h2, hSg⟩
      · have : (0 : Nat) = N := hyl
        omega
      · have e0 : acc = #[.int m t, .int m t] := (lst_one (Option.some.inj (hSg.symm.trans hS0))).symm
        subst e0
        have hS2 := hkp _ _ (hk _ hS0)
        obtain ⟨_, _, _, _, ga1, _⟩ := hat.facts
        show wpAny _ A.in1 (updateSeq G.S (fun _ => #[]) >>= _) _ _ _
        refine wpAny_bind ?_
        refine wpAny_updateSeq hS2 rfl (wpAny_bind (wpAny_letGo (wpAny_pure ?_)))
        refine hF ns m t H _ h1 h2 (by rw [List.length_map] at hyl; exact hyl) (hat.woken hS ⟨ho, hb, fun b o hb2 e => oth _ _ b o hb2 (hkp b o e), oth _ _ _ _ (Ne.symm haS) (hkp _ _ ga1), ⟨_, Heap.get?_update_self _ hS2 rfl, lst_cell⟩⟩) hw2 hb
end
/-- the reading of min(elt for tg in iter for tg1 in iter1) -/
def tGenMin2 (T : List (Addr × Str)) (wi : TI) (g : TG) (wi1 : TI) (g1 : TG) (te : TE) (vs vs1 : List Nat) : TE := fun σ H Q => wi σ H fun J H1 => Tabs T H1 ∧ ∀ H2, ExtN H1 H2 → Tabs T H2 → (∀ b, H2 b = none → H1 b = none) →
  ∃ (no N : Nat) (W : Nat → List V → Hp → Prop), 0 < N ∧ W 0 [] H2 ∧
    (∀ i ys H, i < no → W i ys H → J.go i H ∧ ∀ x H', J.yld i H x H' → g x (wipe σ vs) H' fun σ2 H2 => wipe σ2 vs = wipe σ vs ∧ wi1 σ2 H2 fun J1 H4 => ∃ (m : Nat) (U : Nat → List V → Hp → Prop), U 0 ys H4 ∧
      (∀ j ys H, j < m → U j ys H → ys.length < N ∧ J1.go j H ∧ ∀ x H', J1.yld j H x H' → g1 x (wipe σ2 vs1) H' fun σ3 H5 => wipe σ3 vs1 = wipe σ2 vs1 ∧ te σ3 H5 fun y H6 => isInt y ∧ U (j + 1) (ys ++ [y]) H6) ∧
      (∀ ys H, U m ys H → J1.stop m H ∧ W (i + 1) ys H)) ∧
    (∀ ys H, W no ys H → J.stop no H ∧ ys.length = N ∧ ∀ (ns : List Int) (m : Int), ys = ns.map V.int → m ∈ ns → (∀ x ∈ ns, m ≤ x) → Q (.int m) H)
section
variable {X : Cx}
theorem boot_min2 : bootBuiltins "min" = some (.builtin "min") := by decide +kernel
theorem pe_genMin2 {T : List (Addr × Str)} {c P : Addr} {own : List (Str × Nat)} {vs1 : List Nat} {tg iter tg1 iter1 elt : Expr} {scope : Scope} {gpos p pos : Pos} {wi wi1 : TI} {g g1 : TG} {te : TE} {k : Nat}
    (hr : Room (k + 1) X.A) (hgl : Gl X "min") (hm : X.mg "min" = none) (hN : X.N.Nodup) (TB : TabB X.base X.mg c P) (hcode : X.env.code = .ref c) (hmT : (P, X.env.qual ++ "<genexpr>") ∈ T) (hu : ∀ p ∈ T, p.1 = P → p.2 = X.env.qual ++ "<genexpr>")
    (hi : PI X tg iter wi) (ok : GSc X.N X.env.scope scope own) (hv : ∀ σ : L2.St, wipe (wipe σ vs1) (own.map (·.2)) = wipe σ (own.map (·.2)))
    (hg : ∀ (A : Around) (s : Shared) (H : Hp) (code : Value) (ex : List Addr), PG (gcx X A s H scope code ex) tg g) (hi1 : ∀ (A : Around) (s : Shared) (H : Hp) (code : Value) (ex : List Addr), PI (gcx X A s H scope code ex) tg1 iter1 wi1)
    (hg1 : ∀ (A : Around) (s : Shared) (H : Hp) (code : Value) (ex : List Addr), PG (gcx X A s H scope code ex) tg1 g1) (he : ∀ (A : Around) (s : Shared) (H : Hp) (code : Value) (ex : List Addr), Room k (gcx X A s H scope code ex).A → PE (gcx X A s H scope code ex) elt te)
    (hs : ∀ v, genFold iter X.env v = pure v := by intro _; rfl) (hsf : ∀ env x, foldedSetIterable iter1 env x = pure x := by intro _ _; rfl)
    (hst : starEach [gen2 elt tg iter tg1 iter1 scope gpos] X.env = (false, eval (gen2 elt tg iter tg1 iter1 scope gpos) X.env) :: starEach [] X.env := by rfl) :
    PE X (.Call (.Name "min" p) [gen2 elt tg iter tg1 iter1 scope gpos] [] pos) (tGenMin2 T wi g wi1 g1 te (own.map (·.2)) vs1) := by
  have hname : (toString "min" ++ toString ".loop" : String) = "min.loop" := by decide
  refine ⟨fun pins s σ H Q I h => ?_⟩
  refine wpAny_Call_Name_kw (ld_blt I hgl hm boot_min2 ?_)
  refine PyProof.Rows.callWith_builtin1 ?_ hst (by rfl)
  rw [hst]
  show wpAny _ _ (spliced ((false, eval (gen2 elt tg iter tg1 iter1 scope gpos) X.env) :: backTo pos (starEach [] X.env))) _ _ s
  refine Calls.spliced_cons (gen_make2 I hi ok TB hcode hmT hu hr.depth hs h fun J H1 H2 it fp tn code a go gi s4 s5 hR hE hT hno M => ?_)
  refine Calls.spliced_nil ?_
  obtain ⟨no, N, W, hNp, w0, step, stop⟩ := hR H2 hE hT hno
  let G : GD := ⟨X, X.A.in1.in1, s4, H2, scope, code, fp, a, go, gi, s5.heap.objs.size, wipe σ (own.map (·.2))⟩
  have P0 : Turns2 G J g wi1 g1 te (own.map (·.2)) vs1 no N W (fun ys H => ∀ (ns : List Int) (m : Int), ys = ns.map V.int → m ∈ ns → (∀ x ∈ ns, m ≤ x) → Q (.int m) H) isInt := ⟨step, stop⟩
  refine call_function_tree F.kind_min F.plain_min F.entry_min (F.args_min1 _) ?_
  show wpAny _ X.A.in1 (Builtin.Builtins.bindParams "min" ["key", "default"] 0 ⟨[], []⟩ >>= _) _ _ _
  refine wpAny_bind (wpAny_of_eq (show Builtin.Builtins.bindParams "min" ["key", "default"] 0 ⟨[], []⟩ = pure [none, none] from rfl) ?_)
  refine wpAny_bind (wpAny_pure ?_)
  refine wpAny_bind (wpAny_pyIter_gen (M.isG _ M.ga) ?_)
  refine wpAny_bind (wpAny_newObj_type ?_)
  rw [hname]
  refine wpAny_pure ⟨plainId_quiet F.plain_min_loop _, min_loop (G := G) (A := X.A) (tn := tn) (N := N) (Wf := fun ys H => ∀ (ns : List Int) (m : Int), ys = ns.map V.int → m ∈ ns → (∀ x ∈ ns, m ≤ x) → Q (.int m) H) rfl hr.hd hr.depth (Nat.le_of_lt (Nat.lt_trans M.lt M.ltS)) (Nat.ne_of_gt M.ltS) hNp M.isG M.cellG
    (fun ns m t H' s3 h1 h2 hl hat hw hb => ?_) (N + 1) _ #[] 0 (Nat.succ_ne_zero _) (Heap.get?_push_size _ rfl) ?_⟩
  · obtain ⟨oS, hc, J'⟩ := hat
    exact ⟨.int m, H', gen_back M.inv J' (fun b hb => (M.fps b hb).1) rfl (fun _ _ e => e) hb, ⟨t, rfl⟩, hw ns m rfl h1 h2⟩
  · exact made_wait2 M ok hN hr.hd M.inv.ok.frames (hg _ _ _ _ _) (he _ _ _ _ _ (room_gen2 hr _)) (hi1 _ _ _ _ _) (hg1 _ _ _ _ _) (hsf _) hv P0 rfl rfl (fun b o e => Heap.get?_push_of_some _ e) (Heap.get?_push_size _ rfl) lst_cell (Nat.lt_trans M.lt M.ltS)
      ⟨rfl, .inl ⟨rfl, 0, Heap.get?_push_size _ rfl⟩⟩ w0
end
end GX

-- text Dat
set_option maxRecDepth 100000
set_option maxHeartbeats 4000000
/-! Dat: data compared, sorted texts. -/
namespace GX
open PySem PySem.Spec PyProof.Rows L2 LamX
theorem eqv_strs : ∀ xs ys : List Str, PyData.eqvAll (xs.map PyData.str) (ys.map PyData.str) = decide (xs = ys)
  | [], [] => rfl
  | [], _ :: _ => rfl
  | _ :: _, [] => rfl
  | x :: xs, y :: ys => by
    show (PyData.eqv (.str x) (.str y) && PyData.eqvAll (xs.map PyData.str) (ys.map PyData.str)) = _
    rw [eqv_strs xs ys]
    show ((x == y) && _) = _
    by_cases h : x = y
    · subst h; simp
    · have : (x == y) = false := by simpa using h
      rw [this]
      simp [h]
theorem eqv_ints : ∀ xs ys : List Int, PyData.eqvAll (xs.map PyData.int) (ys.map PyData.int) = decide (xs = ys)
  | [], [] => rfl
  | [], _ :: _ => rfl
  | _ :: _, [] => rfl
  | x :: xs, y :: ys => by
    show (PyData.eqv (.int x) (.int y) && PyData.eqvAll (xs.map PyData.int) (ys.map PyData.int)) = _
    rw [eqv_ints xs ys]
    show ((x == y) && _) = _
    by_cases h : x = y
    · subst h; simp
    · have : (x == y) = false := by simpa using h
      rw [this]
      simp [h]
/-- data without anything within -/
def scal0 : PyData → Bool
  | .none | .bool _ | .int _ => true
  | .str x => (PyData.str x).canLay0
  | _ => false
theorem scal0_lay : ∀ {d : PyData}, scal0 d = true → d.canLay0 = true ∧ d.depth = 0
  | .none, _ => ⟨rfl, rfl⟩
  | .bool _, _ => ⟨rfl, rfl⟩
  | .int _, _ => ⟨rfl, rfl⟩
  | .str x, h => ⟨h, rfl⟩
  | .list _, h => by cases h
  | .tuple _, h => by cases h
  | .dict _, h => by cases h
theorem all_lay : ∀ {ds : List PyData} {n : Nat}, (∀ d ∈ ds, d.canLay0 = true ∧ d.depth ≤ n) → PyData.canLayAll0 ds = true ∧ PyData.depthAll ds ≤ n
  | [], _, _ => ⟨rfl, Nat.zero_le _⟩
  | d :: r, n, h => by
    obtain ⟨a, b⟩ := h d List.mem_cons_self
    obtain ⟨c, e⟩ := all_lay fun x hx => h x (List.mem_cons_of_mem _ hx)
    refine ⟨?_, ?_⟩
    · show (d.canLay0 && PyData.canLayAll0 r) = true
      rw [a, c]; rfl
    · show max d.depth (PyData.depthAll r) ≤ n
      omega
theorem shaped1 {d : PyData} (h : scal0 d = true) : SeqAt.shaped d = true := by
  obtain ⟨a, b⟩ := scal0_lay h
  unfold SeqAt.shaped
  rw [a, b]; rfl
theorem lay_list {ds : List PyData} {n : Nat} (h : ∀ d ∈ ds, d.canLay0 = true ∧ d.depth ≤ n) : (PyData.list ds).canLay0 = true ∧ (PyData.list ds).depth ≤ n + 1 := by
  obtain ⟨a, b⟩ := all_lay h
  exact ⟨a, by simp only [PyData.depth]; omega⟩
theorem lay_tuple {ds : List PyData} {n : Nat} (h : ∀ d ∈ ds, d.canLay0 = true ∧ d.depth ≤ n) : (PyData.tuple ds).canLay0 = true ∧ (PyData.tuple ds).depth ≤ n + 1 := by
  obtain ⟨a, b⟩ := all_lay h
  exact ⟨a, by simp only [PyData.depth]; omega⟩
theorem shaped_of {d : PyData} {n : Nat} (h : d.canLay0 = true ∧ d.depth ≤ n) (hn : n ≤ 64) : SeqAt.shaped d = true := by
  unfold SeqAt.shaped
  rw [h.1, decide_eq_true (Nat.le_trans h.2 hn)]; rfl
theorem shaped_list {ds : List PyData} (h : ∀ d ∈ ds, scal0 d = true) : SeqAt.shaped (.list ds) = true :=
  shaped_of (n := 1) (lay_list fun d hd => ⟨(scal0_lay (h d hd)).1, Nat.le_of_eq (scal0_lay (h d hd)).2⟩) (by decide)
theorem shaped_tuple {ds : List PyData} (h : ∀ d ∈ ds, scal0 d = true) : SeqAt.shaped (.tuple ds) = true :=
  shaped_of (n := 1) (lay_tuple fun d hd => ⟨(scal0_lay (h d hd)).1, Nat.le_of_eq (scal0_lay (h d hd)).2⟩) (by decide)
theorem shaped_ints (ns : List Int) : SeqAt.shaped (.list (ns.map PyData.int)) = true := shaped_list fun d hd => by
  obtain ⟨n, _, rfl⟩ := List.mem_map.mp hd
  rfl
/-! ### sorted texts -/
theorem rising_pair : ∀ {p : Str} {l : List Str}, risingS p l = true → (p :: l).Pairwise fun a b => ¬ b.cps.toList < a.cps.toList
  | p, [], _ => List.pairwise_singleton _ _
  | p, x :: r, h => by
    have h : (!ltCps x.cps.toList p.cps.toList && risingS x r) = true := h
    rw [Bool.and_eq_true] at h
    have h1 : ¬ x.cps.toList < p.cps.toList := by
      have := h.1
      rw [ltCps_eq] at this
      simpa using this
    have ih := rising_pair h.2
    refine List.pairwise_cons.mpr ⟨fun y hy => ?_, ih⟩
    rcases List.mem_cons.mp hy with rfl | hy
    · exact h1
    · have h2 := (List.pairwise_cons.mp ih).1 y hy
      exact fun z => h1 (List.lt_of_le_of_lt (List.not_lt.mp h2) z)
theorem sortedS_pair {l : List Str} (h : sortedS l = true) : l.Pairwise fun a b => ¬ b.cps.toList < a.cps.toList := by
  cases l with
  | nil => exact List.Pairwise.nil
  | cons x r => exact rising_pair h
theorem str_ext {a b : Str} (h : a.cps.toList = b.cps.toList) : a = b := by
  rw [← S_eq a, ← S_eq b, h]
theorem sorted_uniq {a b : List Str} (ha : sortedS a = true) (hb : sortedS b = true) (p : a.Perm b) : a = b :=
  List.Perm.eq_of_pairwise (fun x y _ _ h1 h2 => str_ext (List.le_antisymm (List.not_lt.mp h1) (List.not_lt.mp h2))) (sortedS_pair ha) (sortedS_pair hb) p
theorem ints_uniq {a b : List Int} (ha : a.Pairwise (· ≤ ·)) (hb : b.Pairwise (· ≤ ·)) (p : a.Perm b) : a = b :=
  List.Perm.eq_of_pairwise (fun x y _ _ h1 h2 => Int.le_antisymm h1 h2) ha hb p
/-! ### cuts of lists -/
theorem cutV_drop (xs : List V) (k : Nat) : cutV xs (some (k : Int)) none = xs.drop k := by
  unfold cutV
  rw [GX.sIx_none, GX.sIx_nat]
  rcases Nat.le_total k xs.length with h | h
  · rw [Nat.min_eq_left h, List.take_of_length_le (by rw [List.length_drop]; exact Nat.le_refl _)]
  · rw [Nat.min_eq_right h, Nat.sub_self, List.take_zero, List.drop_of_length_le h]
theorem cutV_take (xs : List V) (k : Nat) : cutV xs none (some (k : Int)) = xs.take k := by
  unfold cutV
  rw [GX.sIx_none, GX.sIx_nat, List.drop_zero, Nat.sub_zero]
  rcases Nat.le_total k xs.length with h | h
  · rw [Nat.min_eq_left h]
  · rw [Nat.min_eq_right h, List.take_of_length_le (Nat.le_refl _), List.take_of_length_le h]
end GX

-- text K1C
set_option maxRecDepth 100000
set_option maxHeartbeats 4000000
namespace K1
open PySem PySem.Spec PyProof.Rows L2 LamX GX
section
variable {P : Program} {w : World} {K : PySem.W.Frag} {mg : Str → Option Value} {base : Heap}
/-! ### nearest_pair -/
def sV (l : List Nat) : V := .str (S l)
/-- how far apart, all pairs -/
def pds : List (List Nat) → List Int
  | [] => []
  | a :: r => r.map (fun b => (dist a b : Int)) ++ pds r
def allFar (ls : List (List Nat)) : Prop := ∀ a ∈ ls, ∀ b ∈ ls, farOk a b = true
theorem pds_pos : ∀ {ls : List (List Nat)}, 2 ≤ ls.length → 0 < (pds ls).length
  | a :: b :: r, _ => by show 0 < ((b :: r).map _ ++ _).length; rw [List.length_append, List.length_map, List.length_cons]; omega
/-- what is out behind i outer turns -/
def pdsT (ls : List (List Nat)) (i : Nat) : List Int := ((List.range i).map fun k => ((ls.drop (k + 1)).map fun b => (dist (ls.getD k []) b : Int))).flatten
theorem pdsT_succ (ls : List (List Nat)) (i : Nat) : pdsT ls (i + 1) = pdsT ls i ++ (ls.drop (i + 1)).map fun b => (dist (ls.getD i []) b : Int) := by
  unfold pdsT
  rw [List.range_succ, List.map_append, List.flatten_append]
  simp
theorem pdsT_cons (a : List Nat) (r : List (List Nat)) (i : Nat) : pdsT (a :: r) (i + 1) = r.map (fun b => (dist a b : Int)) ++ pdsT r i := by
  unfold pdsT
  rw [List.range_succ_eq_map, List.map_cons, List.flatten_cons, List.map_map]
  rfl
theorem pdsT_all : ∀ ls : List (List Nat), pdsT ls ls.length = pds ls
  | [] => rfl
  | a :: r => by
    rw [List.length_cons, pdsT_cons, pdsT_all r]
    rfl
theorem pdsT_le (ls : List (List Nat)) {i : Nat} (h : i < ls.length) : (pdsT ls (i + 1)).length ≤ (pds ls).length := by
  rw [← pdsT_all]
  have : ∀ k, (pdsT ls (i + 1)).length ≤ (pdsT ls (i + 1 + k)).length := by
    intro k
    induction k with
    | zero => exact Nat.le_refl _
    | succ k ih =>
      have e := congrArg List.length (pdsT_succ ls (i + 1 + k))
      rw [List.length_append] at e
      show _ ≤ (pdsT ls (i + 1 + k + 1)).length
      omega
  have := this (ls.length - (i + 1))
  rw [show i + 1 + (ls.length - (i + 1)) = ls.length by omega] at this
  exact this
def spNear (K : PySem.W.Frag) : Sp := fun vs H Q E => ∃ (a : Addr) (ls : List (List Nat)), vs = [.ref a] ∧ SqL K H a (ls.map sV) ∧ Tabs (T K) H ∧ ls.length ≤ 1000 ∧ (∀ l ∈ ls, l.length ≤ 1000) ∧
  (2 ≤ ls.length → allFar ls ∧ ∀ m, m ∈ pds ls → (∀ x ∈ pds ls, m ≤ x) → ∀ H', Le (T K) H H' → Q (.int m) H') ∧ (ls.length < 2 → ∀ H', Le (T K) H H' → E (.ref (aCE K)) none H')
theorem wipe3 (σ : L2.St) : wipe (wipe σ [3]) ([("place", 1), ("one", 2), ("other", 3)] : List (Str × Nat)).unzip.2 = wipe σ [1, 2, 3] := by
  show (((σ.set 3 none).set 3 none).set 2 none).set 1 none = ((σ.set 3 none).set 2 none).set 1 none
  rw [List.set_set]
theorem ok_near (C : Ctx K mg base) : CalX P w K mg base 5 "nearest_pair" ["signs"] (spNear K) := by
  obtain ⟨fd, F⟩ := C.d.d_nearest_pair
  refine ⟨_, fd, ?_, F.funD.bindsN fun _ _ _ _ _ _ us hl => (match us, hl with | [_], _ => rfl), F.kp, C.t.m_nearest_pair⟩
  refine F.ok sc_nearest_pair (fun vs H Q E h => ?_) (fun A outer s H vs Q E hr h => ?_)
  · obtain ⟨a, ls, rfl, _⟩ := h
    rfl
  · obtain ⟨a, ls, rfl, ha, hT, hl, hll, hok, hno⟩ := h
    obtain ⟨e1, e2, e3, e4⟩ := C.t.e_CodeError
    refine ⟨_, pss_cons (ps_if (pt_cmpR op_lt (pe_callB call_len_seq (by rfl) C.t.b_len PySem.boot_len (pa_cons (pv 0) pa_nil)) pe_int (nomark _))
        (pss_one (ps_raise rfl takesA (pmk_own PySem.F.excBase_ValueError e1 C.t.m_CodeError e2 (raises_own e3 e4) (by rfl)))) pss_nil)
      (pss_one (ps_ret (pe_genMin2 (T := T K) (own := [("place", 1), ("one", 2), ("other", 3)]) (vs1 := [3]) (g := gTup K 2 (gCons (gName 1) (gCons (gName 2) gNil))) (g1 := gName 3) (wi1 := iList K (tSl (rSlL K) (tVar 0) (tPart (tOp (rI0 fun i j => .int (i + j)) (tVar 1) (tC (.int 1)))) tNoPart)) hr rfl C.t.b_min sc_nearest_pair.nd (C.b _ (tf_mem 3)) rfl (T_mem 3) (T_uniq C.u 3) (pi_enum (by rfl) C.t.b_enumerate (pa_cons (pv 0) pa_nil))
        (gsc_by (blkOk_by (N := n_nearest_pair) (sc := defScope s_nearest_pair) (by decide +kernel)) (by decide +kernel)) wipe3
        (fun _ _ _ _ _ => by exact pg_tup rfl (pgs_cons (pg_name (i := 1) sc_nearest_pair.nd rfl (Or.inl rfl)) (pgs_cons (pg_name (i := 2) sc_nearest_pair.nd rfl (Or.inl rfl)) pgs_nil)))
        (fun _ _ _ _ _ => by exact pi_list (pe_slice sl_list (pv 0) (po_some (pe_op op_add (pv 1) pe_int)) po_none)) (fun _ _ _ _ _ => pg_name (i := 3) sc_nearest_pair.nd rfl (Or.inl rfl))
        (fun _ _ _ _ _ hrk => pe_cx (ok_far (P := P) (w := w) C) hrk (by decide) rfl passE0 (pa_cons (pv 2) (pa_cons (pv 3) pa_nil)))))), ?_⟩
    refine ⟨_, rfl, a, _, rfl, .inl ha, _, _, rfl, rfl, _, rfl, ?_⟩
    rw [List.length_map]
    by_cases h2 : 2 ≤ ls.length
    · rw [decide_eq_false (show ¬ ((ls.length : Nat) : Int) < 2 by omega)]
      refine iteF ?_
      obtain ⟨hfar, hq⟩ := hok h2
      refine ⟨_, rfl, a, _, rfl, ha, hT, fun H2 hE hT2 hno2 => ?_⟩
      refine ⟨ls.length, (pds ls).length, fun i ys H' => Le (T K) H H' ∧ ys = (pdsT ls i).map V.int, pds_pos h2, ⟨⟨hE, hT2, hno2⟩, rfl⟩, fun i ys H3 hi ⟨L3, hys⟩ => ⟨⟨_, sV ls[i], L3.seqL ha, by rw [List.getElem?_map, List.getElem?_eq_getElem hi]; rfl⟩, ?_⟩, fun ys H3 ⟨L3, hys⟩ => ⟨⟨_, L3.seqL ha, by rw [List.length_map]; exact Nat.le_refl _⟩, ?_, ?_⟩⟩
      · rintro x H4 ⟨t, y, rfl, ht, rfl, hy⟩
        have hy2 := hy _ (L3.seqL ha)
        obtain ⟨l, hl1, rfl⟩ := get_map hy2
        have L4 : Le (T K) H (upd H3 t (.tup [.int (i : Nat), sV l])) := L3.new ht
        refine ⟨t, _, rfl, SqT.of upd_same, rfl, _, _, rfl, _, _, rfl, rfl, rfl, ?_⟩
        refine ⟨_, rfl, _, rfl, _, _, rfl, rfl, _, rfl, a, _, rfl, L4.seqL ha, fun p hp => ?_⟩
        rw [show ((i : Nat) : Int) + 1 = ((i + 1 : Nat) : Int) by omega, cutV_drop, ← List.map_drop]
        refine ⟨p, rfl, ⟨_, SqL.of upd_same⟩, ?_⟩
        refine ⟨(ls.drop (i + 1)).length, fun j ys H' => Le (T K) H H' ∧ H' p = some (.lst ((ls.drop (i + 1)).map sV)) ∧ ys = (pdsT ls i ++ ((ls.drop (i + 1)).take j).map fun b => (dist l b : Int)).map V.int, ⟨L4.new hp, upd_same, by rw [hys]; simp⟩, fun j ys H5 hj ⟨L5, h5, hys5⟩ => ⟨?_, ⟨_, sV (ls.drop (i + 1))[j], SqL.of h5, by rw [List.getElem?_map, List.getElem?_eq_getElem hj]; rfl⟩, ?_⟩,
          fun ys H5 ⟨L5, h5, hys5⟩ => ⟨⟨_, SqL.of h5, by rw [List.length_map]; exact Nat.le_refl _⟩, L5, ?_⟩⟩
        · have := pdsT_le ls hi
          rw [pdsT_succ, List.length_append, List.length_map] at this
          rw [hys5, List.length_map, List.length_append, List.length_map, List.length_take]
          omega
        · rintro x H6 hyld
          obtain ⟨rfl, hx⟩ := Itl_yld (SqL.of h5) hyld
          obtain ⟨b, hb, rfl⟩ := get_map hx
          refine ⟨rfl, ?_⟩
          refine ⟨_, rfl, _, rfl, l, b, rfl, L5.tab, hll l (List.mem_of_getElem? hl1), hll b (List.mem_of_mem_drop (List.mem_of_getElem? hb)), fun _ H7 L7 => ?_, fun hf => ?_⟩
          · refine ⟨⟨_, rfl⟩, L5.trans L7, L7.at h5, ?_⟩
            rw [hys5, take_snoc hb]
            simp
          · rw [hfar l (List.mem_of_getElem? hl1) b (List.mem_of_mem_drop (List.mem_of_getElem? hb))] at hf
            cases hf
        · rw [hys5, pdsT_succ, List.take_of_length_le (Nat.le_refl _)]
          have : ls.getD i [] = l := by rw [List.getD_eq_getElem?_getD, hl1]; rfl
          rw [this]
      · rw [hys, List.length_map, pdsT_all]
      · intro ns m e hm hmin
        rw [hys, pdsT_all] at e
        have e2 : pds ls = ns := by
          have := congrArg (List.map vint) e
          rw [List.map_map, List.map_map] at this
          simpa [vint, Function.comp_def] using this
        subst e2
        exact hq m hm hmin H3 L3
    · rw [decide_eq_true (show ((ls.length : Nat) : Int) < 2 by omega)]
      refine iteT ?_
      exact hno (by omega) _ (Le.refl hT)
end
end K1

-- text Dct
set_option maxRecDepth 100000
set_option maxHeartbeats 4000000
/-! Dct: dicts with texts for keys. -/
namespace GX
open PySem PySem.Spec PyProof.Rows L2 LamX
abbrev SD (α : Type) := List (Str × α)
/-- the entries of a dict -/
def ents {α : Type} (f : α → V) (cs : SD α) : List (L2.Key × V) := cs.map fun p => (Sum.inr p.1, f p.2)
def look {α : Type} (cs : SD α) (n : Str) : Option α := (cs.find? fun p => decide (p.1 = n)).map (·.2)
theorem valV_ents {α : Type} (f : α → V) (n : Str) : ∀ cs : SD α, valV (ents f cs) (Sum.inr n) = (look cs n).map f
  | [] => rfl
  | p :: r => by
    show valV ((Sum.inr p.1, f p.2) :: ents f r) (Sum.inr n) = _
    by_cases h : p.1 = n
    · rw [valV_pos (by rw [h])]
      unfold look
      rw [List.find?_cons_of_pos (by simpa using h)]
      rfl
    · rw [valV_neg (by simpa using h), valV_ents f n r]
      unfold look
      rw [List.find?_cons_of_neg (by simpa using h)]
theorem ents_keys {α : Type} (f : α → V) (cs : SD α) : (ents f cs).map (·.1) = (cs.map (·.1)).map Sum.inr := by
  unfold ents
  rw [List.map_map, List.map_map]
  rfl
theorem ents_len {α : Type} (f : α → V) (cs : SD α) : (ents f cs).length = cs.length := by unfold ents; rw [List.length_map]
theorem look_mem {α : Type} {cs : SD α} {n : Str} (h : n ∈ cs.map (·.1)) : ∃ v, look cs n = some v ∧ (n, v) ∈ cs := by
  obtain ⟨p, hp, rfl⟩ := List.mem_map.mp h
  cases e : cs.find? fun q => decide (q.1 = p.1) with
  | none =>
    have := List.find?_eq_none.mp e p hp
    simp at this
  | some q =>
    have h1 := List.mem_of_find?_eq_some e
    have h2 := List.find?_some e
    have h2 : q.1 = p.1 := by simpa using h2
    refine ⟨q.2, by unfold look; rw [e]; rfl, ?_⟩
    rw [← h2]
    exact h1
theorem look_of {α : Type} {cs : SD α} (hn : (cs.map (·.1)).Nodup) {p : Str × α} (h : p ∈ cs) : look cs p.1 = some p.2 := by
  obtain ⟨v, h1, h2⟩ := look_mem (List.mem_map.mpr ⟨p, h, rfl⟩)
  rw [h1]
  obtain ⟨i, hi, e1⟩ := List.mem_iff_getElem.mp h
  obtain ⟨j, hj, e2⟩ := List.mem_iff_getElem.mp h2
  have hij : i = j := by
    have a : (cs.map (·.1))[i]'(by rw [List.length_map]; exact hi) = (cs.map (·.1))[j]'(by rw [List.length_map]; exact hj) := by
      rw [List.getElem_map, List.getElem_map, e1, e2]
    exact (List.getElem_inj hn).mp a
  subst hij
  rw [e1] at e2
  rw [e2]
theorem look_none {α : Type} {cs : SD α} {n : Str} (h : ¬ n ∈ cs.map (·.1)) : look cs n = none := by
  unfold look
  have : cs.find? (fun p => decide (p.1 = n)) = none := List.find?_eq_none.mpr fun p hp z => h (List.mem_map.mpr ⟨p, hp, by simpa using z⟩)
  rw [this]
  rfl
/-- read at a name, whether the dict is locked or not -/
theorem dget_rd {α : Type} {f : α → V} {cs : SD α} {H : Hp} {a : Addr} {n : Str} {v : α} (h : Rd H a (.dK (ents f cs))) (e : look cs n = some v) : DGet H a (.str n) (some (f v)) :=
  .inl ⟨_, Sum.inr n, h, rfl, by rw [valV_ents, e]; rfl⟩
theorem dget_of {α : Type} {f : α → V} {cs : SD α} {H : Hp} {a : Addr} {n : Str} {v : α} (h : H a = some (.dK (ents f cs))) (e : look cs n = some v) : DGet H a (.str n) (some (f v)) := dget_rd (.inl h) e
section
variable {T : List (Addr × Str)} {H H' : Hp} {d : Addr} {u : HO} {o : Obj}
theorem tabs_lock (t : Tabs T H) (hd : H d = some u) (hu : PlainO u) : Tabs T (upd H d (.frz o u)) := tabs_upd t fun v e => by rw [hd] at e; cases e; exact hu
theorem Le.unlock (hd : H d = some u) (hu : PlainO u) (x : Le T (L2.upd H d (.frz o u)) H') : Le T H (L2.upd H' d u) := by
  have h1 : H' d = some (.frz o u) := x.at upd_same
  refine ⟨fun b v e n => ?_, tabs_upd x.tab fun v e => by rw [h1] at e; cases e; trivial, fun b e => ?_⟩
  · by_cases hb : b = d
    · subst hb
      rw [hd] at e
      cases e
      exact upd_same
    · rw [upd_ne hb]
      exact x.ext b v (by rw [upd_ne hb]; exact e) n
  · have nb : b ≠ d := fun z => by rw [z, upd_same] at e; cases e
    have e1 : L2.upd H d (.frz o u) b = none := x.no b (upd_none2 e)
    rw [upd_ne nb] at e1
    exact e1
/-- what stands beside stands within the lock -/
theorem at_lock {a : Addr} {v : HO} (h : H a = some v) (n : a ≠ d) : upd H d (.frz o u) a = some v := (upd_ne n).trans h
end
/-- b begins a -/
def begins (a b : List Nat) : Bool := decide (a.take b.length = b)
theorem starts_eq (a b : List Nat) : Txt.startswith (S a) (S b) = begins a b := by
  have e : Txt.startswith (S a) (S b) = (decide (0 + (S b).length ≤ (S a).length) && ((S a).cps.extract 0 (0 + (S b).length) == (S b).cps)) := rfl
  rw [e, S_len, S_len, Nat.zero_add]
  unfold begins
  have h : ((S a).cps.extract 0 b.length == (S b).cps) = decide (a.take b.length = b) := by
    have : (S a).cps.extract 0 b.length = (a.take b.length).toArray := by simp [S]
    rw [this]
    by_cases q : a.take b.length = b
    · rw [q, decide_eq_true rfl]
      exact beq_self_eq_true _
    · rw [decide_eq_false q]
      apply beq_false_of_ne
      intro z
      exact q (by simpa [S] using congrArg Array.toList z)
  rw [h]
  by_cases q : a.take b.length = b
  · have : b.length ≤ a.length := by
      have := congrArg List.length q
      rw [List.length_take] at this
      omega
    rw [decide_eq_true this]
    rfl
  · rw [decide_eq_false q, Bool.and_false]
end GX

-- text KeyS
set_option maxRecDepth 100000
set_option maxHeartbeats 4000000
/-! KeyS: sorted(xs, key=f), f a def of the text that gives the first two of a tuple. -/
namespace GX
open PySem PySem.Spec PyProof.Rows L2 LamX
section
variable {P : Program} {w : World} {A : Around} {E : Value → Shared → Prop} {s : Shared}
theorem item_exact {env : Env} {x : Str} {m : Str → Option Value} {t : Addr} {items : Array Value} {i j : Nat} {y : Value} {p1 p2 p3 : Pos} {Q : Value → Shared → Prop} (hk : env.scope.kind = .function) (hl : env.kindOf x = some .local) (hn : s.heap.Ns env.locals m) (hm : m x = some (.ref t))
    (ht : IsTup s.heap t items) (hy : items[i]? = some y) (hi : i < 100) (hd : (x == ("__debug__" : Str)) = false) (hq : Q y { s with toks := s.toks + 1 }) : wpAny (model P w) A (eval (.Subscript (.Name x p1) (.Constant (.int (i : Int)) j p2) p3) env) Q E s := by
  refine Subscript_ (wpAny_Name (wpAny_loadName_local hk hl hn hm ?_) hd)
  refine wpAny_Constant_int ?_
  have hlt : i < items.size := (Array.getElem?_eq_some_iff.mp hy).1
  refine subscriptTail_builtinR (x := y) (IsTup.typeIs ht) slot_tuple_getitem.lookup (getItem_tuple (j := i) (Q := fun r s' => r = y ∧ Q r s') ht (by omega) (by omega) ?_ hy ⟨rfl, hq⟩) rfl
  rw [seqIndex_of (by omega) (by omega)]
  rfl
/-- f is a def whose key of a tuple is a tuple of its first two -/
structure Key2 (K : PySem.W.Frag) (f : Addr) (q x : Str) (sc : Scope) (bd : List Stmt) : Prop where
  ex : ∃ (pa : Arguments) (oc : Value) (od : Option Addr) (dV kV doc pm cdv ct : Value) (an : Option Addr) (osl : Array (Option Value)),
    K.lookup f = some ⟨oc, od, .func (PySem.W.fnOf q q pa bd sc dV kV doc pm an cdv ct), osl⟩ ∧ PySem.W.codeIn K cdv q = true ∧ L2.Binds K (PySem.W.fnOf q q pa bd sc dV kV doc pm an cdv ct) [x] []
  s : FnScope [x] [x] sc
  l : sc.names.lookup x = some .local
  d : (x == ("__debug__" : Str)) = false
  b : ∃ p1 p2 p3 p4 p5 p6 p7 p8 j1 j2 k, bd = [.Return (some (.Tuple [.Subscript (.Name x p1) (.Constant (.int 0) j1 p2) p3, .Subscript (.Name x p4) (.Constant (.int 1) j2 p5) p6] k p7)) p8]
theorem key_call {K : PySem.W.Frag} {f : Addr} {q x : Str} {sc : Scope} {bd : List Stmt} {t : Addr} {items : Array Value} {a b : Int} {ta tb : Tok} (G : Key2 K f q x sc bd) (hr : Room 1 A) (hK : K.In s.heap) (lim : s.heap.NoLimit) (ht : IsTup s.heap t items) (h0 : items[0]? = some (.int a ta)) (h1 : items[1]? = some (.int b tb)) :
    wpAny (model P w) A (call (.ref f) [.ref t]) (PySem.W.KeyPure (.tuple [.int a, .int b]) s) E s := by
  obtain ⟨pa, oc, od, dV, kV, doc, pm, cdv, ct, an, osl, lk, hcd, hb⟩ := G.ex
  obtain ⟨p1, p2, p3, p4, p5, p6, p7, p8, j1, j2, k, rfl⟩ := G.b
  have hkind : ∀ y ∈ [x].zip [Value.ref t], sc.names.lookup y.1 = some .local ∨ (sc.names.lookup y.1 = some .cell ∧ ((cellsFrom (s.heap.objs.size + 1) sc.names []).lookup y.1).isSome = true) := fun y hy => by
    rw [List.mem_singleton.mp (show y ∈ [(x, Value.ref t)] from hy)]
    exact .inl G.l
  have rc : codeAny (model P w) A (.call (.ref f) ⟨[.ref t], []⟩) (fun r s' => ∃ v, r = .ok (.ret v) ∧ PySem.W.KeyPure (.tuple [.int a, .int b]) s v s') s := by
    refine codeAny_call_function hr.depth (hK _ _ lk) rfl G.s.co G.s.gen rfl (PySem.W.codeRec_of hK hcd) (hb s [.ref t] hK rfl _ _ _ _ ?_)
    refine wpAny_newFunctionEnv_cells G.s.kind hkind fun env he s1 z => ?_
    subst he
    refine ⟨lim.keeps z.toInCall.keep, codeAny_func ?_⟩
    obtain ⟨h', tk, rfl, kp⟩ := z.done
    have hn := z.toInCall.ns
    have hmx : bindL (envOfC q sc s.heap.objs.size f cdv).kindOf ([x].zip [Value.ref t]) (fun _ => none) x = some (Value.ref t) := by
      have hk : (envOfC q sc s.heap.objs.size f cdv).kindOf x = some .local := G.l
      show bindL _ [(x, Value.ref t)] _ x = _
      simp [bindL, hk]
    refine wpAny_execs_cons ?_
    refine wpAny_Return_some (wpAny_Tuple_spliced ?_)
    show wpAny _ _ (spliced ((false, eval _ _) :: backTo p7 [(false, eval _ _)])) _ _ _
    refine Calls.spliced_cons (item_exact (i := 0) (m := _) G.s.kind G.l hn hmx (ht.keeps kp) h0 (by decide) G.d ?_)
    refine Calls.spliced_cons (item_exact (i := 1) (m := _) G.s.kind G.l hn hmx (ht.keeps kp) h1 (by decide) G.d ?_)
    refine Calls.spliced_nil ⟨by show 2 ≤ sizeLine; decide, ?_⟩
    refine ⟨_, rfl, _, _, rfl, fun b o e => Heap.get?_push_of_some _ (kp b o e), ?_⟩
    exact .tuple (Heap.get?_push_size _ rfl) rfl rfl (.cons (.int _ _) (.cons (.int _ _) .nil))
  refine wpAny_call (codeAny_mono rc fun r s' hq => ?_)
  obtain ⟨v, rfl, hq⟩ := hq
  exact hq
end
/-- by the first, then by the second -/
abbrev le2 (p q : Addr × Int × Int) : Bool := decide (p.2.1 < q.2.1 ∨ (p.2.1 = q.2.1 ∧ p.2.2 ≤ q.2.2))
def rSort2 (K : PySem.W.Frag) (f : Addr) : List V → List V → Hp → VK → Prop := fun vs zs H Q => ∃ (a : Addr) (xs : List (Addr × Int × Int)), vs = [V.ref a] ∧ zs = [.ref f] ∧ SqL K H a (xs.map fun x => V.ref x.1) ∧ (∀ x ∈ xs, ∃ rest, H x.1 = some (.tup (V.int x.2.1 :: V.int x.2.2 :: rest))) ∧
  ∀ p, H p = none → Q (.ref p) (upd H p (.lst ((xs.mergeSort le2).map fun x => V.ref x.1)))
theorem vals_refs : ∀ {xs : List (Addr × Int × Int)} {us : List Value}, Vals (xs.map fun x => V.ref x.1) us → PySem.W.EachIs (fun (v : Value) (x : Addr × Int × Int) => v = .ref x.1) us xs
  | [], _, .nil => .nil
  | x :: r, _, .cons h t => .cons h (vals_refs t)
theorem refs_vals : ∀ {xs : List (Addr × Int × Int)} {us : List Value}, PySem.W.EachIs (fun (v : Value) (x : Addr × Int × Int) => v = .ref x.1) us xs → Vals (xs.map fun x => V.ref x.1) us
  | [], _, .nil => .nil
  | x :: r, _, .cons h t => .cons h (refs_vals t)
theorem dataLe_fn {out : List Value} {xs : List (Addr × Int × Int)} (e : PySem.W.EachIs (fun (v : Value) (x : Addr × Int × Int) => v = .ref x.1) out (xs.mergeSort (PySem.W.dataLe false fun x : Addr × Int × Int => PyData.tuple [.int x.2.1, .int x.2.2]))) :
    PySem.W.EachIs (fun (v : Value) (x : Addr × Int × Int) => v = .ref x.1) out (xs.mergeSort le2) := by
  rw [PySem.W.dataLe_ii (β := Addr × Int × Int) (fun p => p.2.1) (fun p => p.2.2)] at e
  exact e
theorem cr_sort2 {X : Cx} {f : Addr} {q x : Str} {sc : Scope} {bd : List Stmt} (G : Key2 X.K f q x sc bd) (hr : Room 3 X.A) : CallRK X (.builtin "sorted") [Str.ofString "key"] (rSort2 X.K f) := by
  intro pins s σ H vs zs us ws Q I r rz h
  obtain ⟨a, xs, rfl, rfl, hs, ht, hq⟩ := h
  obtain rfl := Vals.ref1 r
  obtain rfl := Vals.ref1 rz
  obtain ⟨its, rv, hl, hz⟩ := I.list hs
  rw [List.length_map] at hz
  have hu := hr.units
  have e := vals_refs rv
  refine PySem.W.sorted_key_data (b := false) (fun x : Addr × Int × Int => PyData.tuple [.int x.2.1, .int x.2.2]) hl.isList e (PySem.W.AllAlike.of fun _ _ => by simp [PySem.W.alike, PySem.W.alikeAll]) (PySem.W.Sortable.tuples fun _ => ⟨_, _, rfl⟩) hz (fun x _ => ?_) (PyProof.Rows.ksk_s1 _ _) (fun _ => PyProof.Rows.ksk_l1 _ _) (fun _ => PyProof.Rows.ksk_t1 _ _)
    (fun v x hv hx h tk kp => ?_) fun out c h' tk kp _ hD _ eo => ?_
  · have hd : (PyData.tuple [.int x.2.1, .int x.2.2]).depth = 1 := by simp [PyData.depth, PyData.depthAll]
    rw [hd]
    omega
  · have hv : v = .ref x.1 := hv
    subst hv
    obtain ⟨rest, hx1⟩ := ht x hx
    obtain ⟨_, vs, rvs, it⟩ := I.hok x.1 _ hx1
    cases rvs with
    | cons r1 rvs =>
      cases rvs with
      | cons r2 rvs =>
        obtain ⟨t1, rfl⟩ := r1
        obtain ⟨t2, rfl⟩ := r2
        exact key_call (s := { s with heap := h, toks := tk }) G hr.in1.in1 (I.kIn.keeps kp) (I.nolimit.keeps kp) (it.keeps kp) rfl rfl
  · have e2 := dataLe_fn eo
    have hlen : ((xs.mergeSort le2).map fun x => V.ref x.1).length ≤ sizeLine := by rw [List.length_map, List.length_mergeSort]; exact hz
    exact ⟨.ref _, upd H (s.heap.objs.size + 1) (.lst ((xs.mergeSort le2).map fun x => V.ref x.1)), I.laid (t' := tk) kp (Nat.le_succ _) ⟨hlen, _, c, refs_vals e2, hD⟩, rfl, hq _ (I.hok.fresh (Nat.le_succ _))⟩
end GX

-- text K1D
set_option maxRecDepth 100000
set_option maxHeartbeats 4000000
namespace K1
open PySem PySem.Spec PyProof.Rows L2 LamX GX
section
variable {P : Program} {w : World} {K : PySem.W.Frag} {mg : Str → Option Value} {base : Heap}
/-! ### heap_key -/
def spKey (K : PySem.W.Frag) : Sp := fun vs H Q E => ∃ (t : Addr) (a b : Int) (rest : List V), vs = [.ref t] ∧ SqT K H t (.int a :: .int b :: rest) ∧ Tabs (T K) H ∧ ∀ p, H p = none → Q (.ref p) (upd H p (.tup [.int a, .int b]))
theorem ok_key (C : Ctx K mg base) : CalX P w K mg base 1 "heap_key" ["heap"] (spKey K) := by
  obtain ⟨fd, F⟩ := C.d.d_heap_key
  refine ⟨_, fd, ?_, F.funD.bindsN fun _ _ _ _ _ _ us hl => (match us, hl with | [_], _ => rfl), F.kp, C.t.m_heap_key⟩
  refine F.ok sc_heap_key (fun vs H Q E h => ?_) (fun A outer s H vs Q E hr h => ?_)
  · obtain ⟨t, a, b, rest, rfl, _⟩ := h
    rfl
  · obtain ⟨t, a, b, rest, rfl, ht, hT, hq⟩ := h
    refine ⟨_, pss_one (ps_ret (pe_tup (pa_cons (pe_ix ix_tup (pv 0) pe_int (fun _ _ => rfl)) (pa_cons (pe_ix ix_tup (pv 0) pe_int (fun _ _ => rfl)) pa_nil)))), ?_⟩
    exact ⟨_, rfl, t, _, _, _, rfl, rfl, ht, atI_nat (j := 0) rfl, _, rfl, t, _, _, _, rfl, rfl, ht, atI_nat (j := 1) rfl, by show 2 ≤ sizeLine; decide, hq⟩
theorem key2 (C : Ctx K mg base) : Key2 K (He.ga K "heap_key") "heap_key" "heap" (defScope s_heap_key) (defBody s_heap_key) := by
  obtain ⟨fd, F⟩ := C.d.d_heap_key
  have b := F.funD.bindsN (ps := ["heap"]) fun _ _ _ _ _ _ us hl => (match us, hl with | [_], _ => rfl)
  obtain ⟨oc, od, dV, kV, doc, pm, an, ct, osl, e, lk, hcd, hd, hk⟩ := F.ex
  subst e
  exact ⟨⟨_, _, _, _, _, _, _, _, _, _, _, lk, hcd, b⟩, sc_heap_key, rfl, by decide, ⟨_, _, _, _, _, _, _, _, _, _, _, rfl⟩⟩
/-! ### whole_length -/
abbrev dI (cs : SD Int) : HO := .dK (ents V.int cs)
abbrev dS (ss : SD (List Nat)) : HO := .dK (ents sV ss)
def okT (x : Str) : Prop := (PyData.str x).canLay0 = true
def wlen (cs : SD Int) (ss : SD (List Nat)) : Int := (cs.map fun p => p.2 * ((((look ss p.1).getD []).length : Nat) : Int)).sum
theorem shaped_names {xs : List Str} (h : ∀ x ∈ xs, okT x) : SeqAt.shaped (.list (xs.map PyData.str)) = true := shaped_list fun d hd => by
  obtain ⟨x, hx, rfl⟩ := List.mem_map.mp hd
  exact h x hx
def spLen (K : PySem.W.Frag) : Sp := fun vs H Q E => ∃ (c d : Addr) (cs : SD Int) (ss : SD (List Nat)), vs = [.ref c, .ref d] ∧ c ≠ d ∧ H c = some (dI cs) ∧ H d = some (dS ss) ∧ Tabs (T K) H ∧ cs.length < 64 ∧ ss.length < 64 ∧ (cs.map (·.1)).Nodup ∧
  (∀ p ∈ cs, okT p.1 ∧ 0 ≤ p.2 ∧ p.2 < 2 ^ 32) ∧ (∀ p ∈ ss, okT p.1 ∧ p.2.length ≤ 1000) ∧
  ((cs.map (·.1)).Perm (ss.map (·.1)) → ∀ H', Le (T K) H H' → Q (.int (wlen cs ss)) H') ∧ (¬ (cs.map (·.1)).Perm (ss.map (·.1)) → ∀ H', Le (T K) H H' → E (.ref (aCE K)) none H')
theorem sum_snoc2 (ns : List Int) (n : Int) : (ns ++ [n]).sum = ns.sum + n := by rw [List.sum_append, List.sum_singleton]
theorem ok_len (C : Ctx K mg base) : CalX P w K mg base 4 "whole_length" ["counts", "signs"] (spLen K) := by
  obtain ⟨fd, F⟩ := C.d.d_whole_length
  refine ⟨_, fd, ?_, F.funD.bindsN fun _ _ _ _ _ _ us hl => (match us, hl with | [_, _], _ => rfl), F.kp, C.t.m_whole_length⟩
  refine F.ok sc_whole_length (fun vs H Q E h => ?_) (fun A outer s H vs Q E hr h => ?_)
  · obtain ⟨c, d, cs, ss, rfl, _⟩ := h
    rfl
  · obtain ⟨c, d, cs, ss, rfl, hcd, hc, hd, hT, lc, ls, nd, oc, os, hok, hno⟩ := h
    obtain ⟨e1, e2, e3, e4⟩ := C.t.e_CodeError
    refine ⟨_, pss_cons (ps_if (pt_cmpR (op_neD hr.units) (pe_callB (call_sortedD rfl) (by rfl) C.t.b_sorted (by decide +kernel) (pa_cons (pv 0) pa_nil)) (pe_callB (call_sortedD rfl) (by rfl) C.t.b_sorted (by decide +kernel) (pa_cons (pv 1) pa_nil)) (nomark _))
        (pss_one (ps_raise rfl takesA (pmk_own PySem.F.excBase_ValueError e1 C.t.m_CodeError e2 (raises_own e3 e4) (by rfl)))) pss_nil)
      (pss_one (ps_ret (pe_lock (pe_genSum (T := T K) (own := [("name", 2)]) (g := gName 2) hr rfl C.t.b_sum sc_whole_length.nd (C.b _ (tf_mem 5)) rfl (T_mem 5) (T_uniq C.u 5) (pi_keys (pv 0))
        (gsc_by (blkOk_by (N := n_whole_length) (sc := defScope s_whole_length) (by decide +kernel)) (by decide +kernel)) (fun _ _ _ _ _ => pg_name (i := 2) sc_whole_length.nd rfl (Or.inl rfl))
        (fun _ _ _ _ _ hrk => pe_op op_mul (pe_dget (hu_of hrk) (pv 0) (pv 2) (fun _ _ => rfl)) (pe_callB call_len_str (by rfl) C.t.b_len PySem.boot_len (pa_cons (pe_dget (hu_of hrk) (pv 1) (pv 2) (fun _ _ => rfl)) pa_nil))))))), ?_⟩
    refine ⟨_, rfl, c, _, cs.map (·.1), rfl, .inl hc, ents_keys _ _, by rw [List.length_map]; exact lc, fun ys p hp hs hpn => ?_⟩
    have hd1 : upd H p (.lst (ys.map V.str)) d = some (dS ss) := (upd_ne (ne_of_none hd hpn)).trans hd
    refine ⟨_, rfl, d, _, ss.map (·.1), rfl, .inl hd1, ents_keys _ _, by rw [List.length_map]; exact ls, fun zs q hzp hzs hqn => ?_⟩
    have hpq : p ≠ q := ne_of_none upd_same hqn
    have oy : ∀ x ∈ ys, okT x := fun x hx => by
      obtain ⟨p, hp2, rfl⟩ := List.mem_map.mp (hp.mem_iff.mp hx)
      exact (oc p hp2).1
    have oz : ∀ x ∈ zs, okT x := fun x hx => by
      obtain ⟨p, hp2, rfl⟩ := List.mem_map.mp (hzp.mem_iff.mp hx)
      exact (os p hp2).1
    refine ⟨.list (ys.map PyData.str), .list (zs.map PyData.str), .lst (SqL.of ((upd_ne hpq).trans upd_same)) (DpAll.strs ys), .lst (SqL.of upd_same) (DpAll.strs zs), shaped_names oy, shaped_names oz, _, rfl, ?_⟩
    have LL : Le (T K) H (upd (upd H p (.lst (ys.map V.str))) q (.lst (zs.map V.str))) := ((Le.refl hT).new hpn).new hqn
    have ev : PyData.eqv (.list (ys.map PyData.str)) (.list (zs.map PyData.str)) = decide (ys = zs) := eqv_strs ys zs
    rw [ev]
    by_cases hyz : ys = zs
    · rw [decide_eq_true hyz]
      refine iteF ?_
      have perm : (cs.map (·.1)).Perm (ss.map (·.1)) := hp.symm.trans (by rw [hyz]; exact hzp)
      have hc2 := LL.at hc
      have hd2 := LL.at hd
      refine ⟨c, _, hc2, trivial, fun od => ?_⟩
      have TL := tabs_lock (o := od) LL.tab hc2 trivial
      refine ⟨_, rfl, c, od, rfl, .inl ⟨_, upd_same, ?_⟩⟩
      refine ⟨TL, fun H2 hE hT2 hno2 => ?_⟩
      refine ⟨cs.length, fun i a H' => Le (T K) (upd (upd (upd H p (.lst (ys.map V.str))) q (.lst (zs.map V.str))) c (.frz od (dI cs))) H' ∧ a = wlen (cs.take i) ss, ⟨⟨hE, hT2, hno2⟩, rfl⟩, fun i a H3 hi ⟨L3, ha⟩ => ⟨⟨L3.at upd_same, by rw [ents_len]; exact hi⟩, ?_⟩, fun a H3 ⟨L3, ha⟩ => ⟨⟨L3.at upd_same, by rw [ents_len]; exact Nat.le_refl _⟩, L3.at upd_same, ?_⟩⟩
      · rintro x H4 ⟨rfl, k, v, hk, rfl⟩
        unfold ents at hk
        rw [List.getElem?_map] at hk
        obtain ⟨p1, hp1, e⟩ := Option.map_eq_some_iff.mp hk
        cases e
        have hm := List.mem_of_getElem? hp1
        obtain ⟨o1, o2, o3⟩ := oc p1 hm
        obtain ⟨l, hl, hlm⟩ := look_mem (perm.mem_iff.mp (List.mem_map.mpr ⟨p1, hm, rfl⟩))
        refine ⟨rfl, ?_⟩
        refine ⟨_, rfl, _, rfl, c, _, rfl, dget_rd (.inr ⟨od, L3.at upd_same⟩) (look_of nd hm), ?_⟩
        refine ⟨_, rfl, _, rfl, d, _, rfl, dget_of (L3.at (at_lock hd2 (Ne.symm hcd))) hl, ?_⟩
        refine ⟨_, rfl, lenS_le (os _ hlm).2 (by decide), _, _, rfl, rfl, .inl ⟨by omega, by omega⟩, _, rfl, L3, ?_⟩
        rw [ha, take_snoc hp1]
        unfold wlen
        rw [List.map_append, List.sum_append]
        simp [hl, S_len]
      · rw [ha, List.take_of_length_le (Nat.le_refl _)]
        exact hok perm _ (LL.trans (Le.unlock hc2 trivial L3))
    · rw [decide_eq_false hyz]
      refine iteT ?_
      exact hno (fun z => hyz (sorted_uniq hs hzs (hp.trans (z.trans hzp.symm)))) _ LL
end
end K1

-- text Any1
set_option maxRecDepth 100000
set_option maxHeartbeats 4000000
/-! Any1: the reading of any(.. for x in xs), xs a list that stands. -/
namespace GX
open PySem PySem.Spec PyProof.Rows L2 LamX
section
variable {T : List (Addr × Str)} {K : PySem.W.Frag} {g : TG} {te : TE} {vs : List Nat} {σ : L2.St} {H : Hp} {Qt Qf : Hp → Prop}
/-- what a turn leaves -/
theorem any_close {pb : Nat → Bool} {i : Nat} {c : Bool} {H4 : Hp} {A : Prop} (hc : c = pb i) (h0 : ∀ j, j < i → pb j = false) (L : Le T H H4) (ht : pb i = true → A) :
    if c = true then A else Le T H H4 ∧ ∀ j, j < i + 1 → pb j = false := by
  subst hc
  cases e : pb i with
  | true => exact iteT (ht e)
  | false =>
    refine iteF ⟨L, fun j hj => ?_⟩
    by_cases hji : j = i
    · rw [hji, e]
    · exact h0 j (by omega)
theorem genAny_list {a : Addr} {xs : List V} (pb : Nat → Bool) (hs : SqL K H a xs)
    (step : ∀ i x H', xs[i]? = some x → (∀ j, j < i → pb j = false) → Le T H H' → g x (wipe σ vs) H' fun σ2 H3 => wipe σ2 vs = wipe σ vs ∧ te σ2 H3 fun y H4 => ∃ c, y = .bl c ∧ if c = true then Qt H4 else Le T H H4 ∧ ∀ j, j < i + 1 → pb j = false)
    (fin : ∀ H', Le T H H' → (∀ j, j < xs.length → pb j = false) → Qf H') :
    ∀ H2, ExtN H H2 → Tabs T H2 → (∀ b, H2 b = none → H b = none) → ∃ (n₀ : Nat) (W : Nat → Hp → Prop), W 0 H2 ∧
      (∀ i H, i < n₀ → W i H → (Itl K a).go i H ∧ ∀ x H', (Itl K a).yld i H x H' → g x (wipe σ vs) H' fun σ2 H3 => wipe σ2 vs = wipe σ vs ∧ te σ2 H3 fun y H4 => ∃ c, y = .bl c ∧ if c = true then Qt H4 else W (i + 1) H4) ∧
      (∀ H, W n₀ H → (Itl K a).stop n₀ H ∧ Qf H) := by
  intro H2 hE hT2 hno2
  refine ⟨xs.length, fun i H' => Le T H H' ∧ ∀ j, j < i → pb j = false, ⟨⟨hE, hT2, hno2⟩, fun j h => absurd h (Nat.not_lt_zero j)⟩, fun i H3 hi ⟨L3, h3⟩ => ⟨Itl_go (L3.seqL hs) hi, fun x H4 y => ?_⟩, fun H3 ⟨L3, h3⟩ => ⟨Itl_stop (L3.seqL hs) (Nat.le_refl _), fin H3 L3 h3⟩⟩
  obtain ⟨rfl, hx⟩ := Itl_yld (L3.seqL hs) y
  exact step i x _ hx h3 L3
end
theorem getD_of {α : Type} {l : List α} {i : Nat} {x d : α} (h : l[i]? = some x) : l.getD i d = x := by rw [List.getD_eq_getElem?_getD, h]; rfl
end GX

-- text K1E
set_option maxRecDepth 100000
set_option maxHeartbeats 4000000
namespace K1
open PySem PySem.Spec PyProof.Rows L2 LamX GX
section
variable {P : Program} {w : World} {K : PySem.W.Frag} {mg : Str → Option Value} {base : Heap}
/-! ### cut_up -/
def sg (ss : SD (List Nat)) (n : Str) : List Nat := (look ss n).getD []
/-- one is empty, or begins another -/
def cutBad (ss : SD (List Nat)) (ns : List Str) : Prop := (∃ n ∈ ns, sg ss n = []) ∨ ∃ a ∈ ns, ∃ b ∈ ns, a ≠ b ∧ begins (sg ss b) (sg ss a) = true
def cutUp (ss : SD (List Nat)) (ns : List Str) : Nat → List Nat → Option (List Str)
  | 0, _ => none
  | k + 1, l => if l = [] then some [] else match ns.find? fun n => begins l (sg ss n) with
    | none => none
    | some n => (cutUp ss ns k (l.drop (sg ss n).length)).map (n :: ·)
/-- how long the text in that slot is -/
def lenAt (σ : L2.St) (i : Nat) : Nat := match σ[i]? with
  | some (some (V.str z)) => z.length
  | _ => 0
def spCut (K : PySem.W.Frag) : Sp := fun vs H Q E => ∃ (d : Addr) (l : List Nat) (ss : SD (List Nat)), vs = [.str (S l), .ref d] ∧ H d = some (dS ss) ∧ Tabs (T K) H ∧ ss.length < 64 ∧ l.length ≤ 10000 ∧ (ss.map (·.1)).Nodup ∧ (∀ p ∈ ss, okT p.1 ∧ p.2.length ≤ 1000) ∧
  ∀ ns : List Str, ns.Perm (ss.map (·.1)) → sortedS ns = true → (cutBad ss ns → ∀ H', Le (T K) H H' → E (.ref (aCE K)) none H') ∧
    (¬ cutBad ss ns → ∀ H', Le (T K) H H' → (cutUp ss ns (l.length + 1) l = none → Q .non H') ∧ ∀ out, cutUp ss ns (l.length + 1) l = some out → ∀ p, H' p = none → Q (.ref p) (upd H' p (.tup (out.map V.str))))
theorem ok_cut (C : Ctx K mg base) : CalX P w K mg base 4 "cut_up" ["text", "signs"] (spCut K) := by
  obtain ⟨fd, F⟩ := C.d.d_cut_up
  refine ⟨_, fd, ?_, F.funD.bindsN fun _ _ _ _ _ _ us hl => (match us, hl with | [_, _], _ => rfl), F.kp, C.t.m_cut_up⟩
  refine F.ok sc_cut_up (fun vs H Q E h => ?_) (fun A outer s H vs Q E hr h => ?_)
  · obtain ⟨d, l, ss, rfl, _⟩ := h
    rfl
  · obtain ⟨d, l, ss, rfl, hd, hT, ls, ll, nd, os, hall⟩ := h
    obtain ⟨e1, e2, e3, e4⟩ := C.t.e_CodeError
    have nn := sc_cut_up.nd
    refine ⟨_, pss_cons (ps_set (i := 2) nn rfl (Or.inl rfl) (pe_callB (call_sortedD rfl) (by rfl) C.t.b_sorted (by decide +kernel) (pa_cons (pv 1) pa_nil)))
      (pss_cons (ps_if (pt_val (pe_genAny (T := T K) (own := [("name", 7)]) (g := gName 7) hr rfl C.t.b_any nn (C.b _ (tf_mem 6)) rfl (T_mem 6) (T_uniq C.u 6) (pi_list (pv 2)) (gsc_by (blkOk_by (N := n_cut_up) (sc := defScope s_cut_up) (by decide +kernel)) (by decide +kernel))
          (fun _ _ _ _ _ => pg_name (i := 7) nn rfl (Or.inl rfl)) (fun _ _ _ _ _ hrk => pe_cmpR op_eq (pe_dget (hu_of hrk) (pv 1) (pv 7) (fun _ _ => rfl)) pe_str (nomark _))))
        (pss_one (ps_raise rfl takesA (pmk_own PySem.F.excBase_ValueError e1 C.t.m_CodeError e2 (raises_own e3 e4) (by rfl)))) pss_nil)
      (pss_cons (ps_for ownsA rfl (pi_list (pv 2)) (pg_name (i := 3) nn rfl (Or.inr rfl))
        (pss_one (ps_if (pt_val (pe_genAny (T := T K) (own := [("other", 8)]) (g := gName 8) hr rfl C.t.b_any nn (C.b _ (tf_mem 6)) rfl (T_mem 6) (T_uniq C.u 6) (pi_list (pv 2)) (gsc_by (blkOk_by (N := n_cut_up) (sc := defScope s_cut_up) (by decide +kernel)) (by decide +kernel))
            (fun _ _ _ _ _ => pg_name (i := 8) nn rfl (Or.inl rfl))
            (fun _ _ _ _ _ hrk => pe_and (pe_cmpR op_ne (pv 3) (pv 8) (nomark _)) (pe_one (pe_m1 PySem.F.slot_str_startswith PySem.F.type_str_startswith mt_startswith (pe_dget (hu_of hrk) (pv 1) (pv 8) (fun _ _ => rfl)) (pe_dget (hu_of hrk) (pv 1) (pv 3) (fun _ _ => rfl)))))))
          (pss_one (ps_raise rfl takesA (pmk_own PySem.F.excBase_ValueError e1 C.t.m_CodeError e2 (raises_own e3 e4) (by rfl)))) pss_nil)))
      (pss_cons (ps_asg (pe_tup (pa_cons (pe_lst pa_nil) (pa_cons (pv 0) pa_nil))) (pg_tup rfl (pgs_cons (pg_name (i := 4) nn rfl (Or.inl rfl)) (pgs_cons (pg_name (i := 5) nn rfl (Or.inr rfl)) pgs_nil))))
      (pss_cons (ps_while ownsA (pt_cmpR op_ne (pv 5) pe_str (nomark _))
        (pss_cons (ps_setLc (i := 6) (own := [("name", 7)]) (g := gName 7) rfl nn rfl rfl (sw_true rfl rfl rfl (by decide +kernel)) (pi_list (pv 2)) (blkOk_by (N := n_cut_up) (sc := defScope s_cut_up) (by decide +kernel))
            (fun _ _ _ _ _ => pg_name (i := 7) nn rfl (Or.inl rfl)) (fun _ _ _ _ _ => pts_one (pt_val (pe_m1 PySem.F.slot_str_startswith PySem.F.type_str_startswith mt_startswith (pv 5) (pe_dget (hu_of hr) (pv 1) (pv 7) (fun _ _ => rfl))))) (fun _ _ _ _ _ => pv 7))
        (pss_cons (ps_if (pt_cmpR (op_eqD hr.units) (pv 6) (pe_lst pa_nil) (nomark _)) (pss_one (ps_ret pe_non)) pss_nil)
        (pss_cons (ps_expr (pe_bm PySem.F.plainAttrs_list PySem.F.slot_list_append PySem.F.type_list_append mt_append (pv 4) (pa_cons (pe_ix ix_list (pv 6) pe_int (fun _ _ => rfl)) pa_nil)))
        (pss_one (ps_set (i := 5) nn rfl (Or.inr rfl) (pe_slice sl_str (pv 5) (po_some (pe_callB call_len_str (by rfl) C.t.b_len PySem.boot_len (pa_cons (pe_dget (hu_of hr) (pv 1) (pe_ix ix_list (pv 6) pe_int (fun _ _ => rfl)) (fun _ _ => rfl)) pa_nil))) po_none)))))))
      (pss_one (ps_ret (pe_callTy call_tuple_of (by rfl) C.t.b_tuple (by decide +kernel) (pa_cons (pv 4) pa_nil)))))))), ?_⟩
    refine ⟨_, rfl, d, _, ss.map (·.1), rfl, .inl hd, ents_keys _ _, by rw [List.length_map]; exact ls, fun ns p hp hs hpn => ?_⟩
    obtain ⟨hbad, hgood⟩ := hall ns hp hs
    have L1 : Le (T K) H (upd H p (.lst (ns.map V.str))) := (Le.refl hT).new hpn
    have hp1 : upd H p (.lst (ns.map V.str)) p = some (.lst (ns.map V.str)) := upd_same
    generalize upd H p (.lst (ns.map V.str)) = H1 at L1 hp1
    have hd1 := L1.at hd
    have lk : ∀ n ∈ ns, look ss n = some (sg ss n) ∧ (sg ss n).length ≤ 1000 ∧ okT n := fun n hn => by
      obtain ⟨v, h1, h2⟩ := look_mem (hp.mem_iff.mp hn)
      have e : sg ss n = v := by unfold sg; rw [h1]; rfl
      rw [e]
      exact ⟨h1, (os _ h2).2, (os _ h2).1⟩
    have nth : ∀ {i : Nat} {x : V}, (ns.map V.str)[i]? = some x → ∃ n, ns[i]? = some n ∧ n ∈ ns ∧ x = .str n := fun {i x} hx => by
      obtain ⟨n, h1, h2⟩ := get_map hx
      exact ⟨n, h1, List.mem_of_getElem? h1, h2⟩
    refine ⟨_, rfl, p, rfl, ⟨_, SqL.of hp1⟩, L1.tab, ?_⟩
    refine genAny_list (pb := fun i => decide (sg ss (ns.getD i (S [])) = [])) (xs := ns.map V.str) (SqL.of hp1) (fun i x H2 hx h0 L2 => ?_) (fun H2 L2 hnone => ?_)
    · obtain ⟨n, hn, hm, rfl⟩ := nth hx
      obtain ⟨l1, l2, l3⟩ := lk n hm
      refine ⟨rfl, ?_⟩
      refine ⟨_, rfl, _, rfl, d, _, rfl, dget_of (L2.at hd1) l1, rfl, _, rfl, any_close ?_ h0 L2 fun ht => ?_⟩
      · show decide (V.str (S (sg ss n)) = V.str (S [])) = decide (sg ss (ns.getD i (S [])) = [])
        rw [getD_of hn]
        exact decide_eq_decide.mpr ⟨fun z => S_inj (V.str.inj z), fun z => by rw [z]⟩
      · refine ⟨_, rfl, iteT ?_⟩
        have ht : decide (sg ss (ns.getD i (S [])) = []) = true := ht
        rw [getD_of hn] at ht
        exact hbad (.inl ⟨n, hm, of_decide_eq_true ht⟩) _ (L1.trans L2)
    refine ⟨_, rfl, iteF ?_⟩
    have full : ∀ n ∈ ns, sg ss n ≠ [] := fun n hn => by
      obtain ⟨j, hj, e⟩ := List.mem_iff_getElem.mp hn
      have h1 : decide (sg ss (ns.getD j (S [])) = []) = false := hnone j (by rw [List.length_map]; exact hj)
      rw [getD_of (by rw [List.getElem?_eq_getElem hj, e])] at h1
      exact of_decide_eq_false h1
    have LA := L1.trans L2
    have hp2 := L2.at hp1
    have hd2 := L2.at hd1
    clear hnone
    refine ⟨_, rfl, p, rfl, ⟨_, SqL.of hp2⟩, ?_⟩
    refine for_list (xs := ns.map V.str) (fun i σ H' => Le (T K) H2 H' ∧ (∃ a, σ = [some (.str (S l)), some (.ref d), some (.ref p), a, none, none, none, none, none]) ∧ ∀ j a, j < i → ns[j]? = some a → ∀ b ∈ ns, a ≠ b → begins (sg ss b) (sg ss a) = false)
      ⟨Le.refl L2.tab, ⟨_, rfl⟩, fun j a h => absurd h (Nat.not_lt_zero j)⟩ (fun i σ H' _ hP => SqL.of (hP.1.at hp2)) (fun i x σ H3 hx ⟨L3, ⟨a, hσ⟩, hpre⟩ => ?_) (fun σ H3 ⟨L3, ⟨a, hσ⟩, hpre⟩ => ?_)
    · subst hσ
      obtain ⟨n, hn, hm, rfl⟩ := nth hx
      obtain ⟨l1, l2, l3⟩ := lk n hm
      have hd3 := L3.at hd2
      have hp3 := L3.at hp2
      refine ⟨_, rfl, p, rfl, ⟨_, SqL.of hp3⟩, L3.tab, ?_⟩
      refine genAny_list (pb := fun i => decide (n ≠ ns.getD i (S [])) && begins (sg ss (ns.getD i (S []))) (sg ss n)) (xs := ns.map V.str) (SqL.of hp3) (fun j x H4 hx4 h0 L4 => ?_) (fun H4 L4 hnone => ?_)
      · obtain ⟨m, hm4, hmm, rfl⟩ := nth hx4
        obtain ⟨m1, m2, m3⟩ := lk m hmm
        refine ⟨rfl, ?_⟩
        refine ⟨_, rfl, _, rfl, rfl, _, rfl, ?_⟩
        by_cases hnm : n = m
        · rw [decide_eq_true (show V.str n = V.str m by rw [hnm])]
          refine iteF ⟨_, rfl, any_close ?_ h0 L4 fun ht => ?_⟩
          · show false = (decide (n ≠ ns.getD j (S [])) && begins (sg ss (ns.getD j (S []))) (sg ss n))
            rw [getD_of hm4, hnm]
            simp
          · have ht : (decide (n ≠ ns.getD j (S [])) && begins (sg ss (ns.getD j (S []))) (sg ss n)) = true := ht
            rw [getD_of hm4, hnm] at ht
            simp at ht
        · rw [decide_eq_false (show ¬ V.str n = V.str m from fun z => hnm (V.str.inj z))]
          refine iteT ?_
          refine ⟨_, rfl, _, rfl, d, _, rfl, dget_of (L4.at hd3) m1, ⟨_, rfl⟩, _, rfl, _, rfl, d, _, rfl, dget_of (L4.at hd3) l1, _, _, rfl, rfl, _, rfl, any_close ?_ h0 L4 fun ht => ?_⟩
          · show Txt.startswith (S (sg ss m)) (S (sg ss n)) = (decide (n ≠ ns.getD j (S [])) && begins (sg ss (ns.getD j (S []))) (sg ss n))
            rw [getD_of hm4, starts_eq, decide_eq_true hnm, Bool.true_and]
          · have ht : (decide (n ≠ ns.getD j (S [])) && begins (sg ss (ns.getD j (S []))) (sg ss n)) = true := ht
            rw [getD_of hm4, decide_eq_true hnm, Bool.true_and] at ht
            refine ⟨_, rfl, iteT ?_⟩
            exact hbad (.inr ⟨n, hm, m, hmm, hnm, ht⟩) _ ((LA.trans L3).trans L4)
      · refine ⟨_, rfl, iteF ?_⟩
        refine ⟨L3.trans L4, ⟨_, rfl⟩, fun j a hj ha b hb hab => ?_⟩
        by_cases hji : j = i
        · subst hji
          rw [hn] at ha
          cases ha
          obtain ⟨k, hk, e⟩ := List.mem_iff_getElem.mp hb
          have h1 : (decide (n ≠ ns.getD k (S [])) && begins (sg ss (ns.getD k (S []))) (sg ss n)) = false := hnone k (by rw [List.length_map]; exact hk)
          rw [getD_of (by rw [List.getElem?_eq_getElem hk, e]), decide_eq_true hab, Bool.true_and] at h1
          exact h1
        · exact hpre j a (by omega) ha b hb hab
    · subst hσ
      have good : ¬ cutBad ss ns := by
        rintro (⟨n, hn, e⟩ | ⟨a, ha, b, hb, hab, hbe⟩)
        · exact full n hn e
        · obtain ⟨j, hj, e⟩ := List.mem_iff_getElem.mp ha
          have := hpre j a (by rw [List.length_map]; exact hj) (by rw [List.getElem?_eq_getElem hj, e]) b hb hab
          rw [this] at hbe
          cases hbe
      have hq := hgood good
      clear hpre
      have hd3 := L3.at hd2
      have hp3 := L3.at hp2
      have LB := LA.trans L3
      refine ⟨by show 0 ≤ sizeLine; decide, fun f hf => ?_⟩
      refine ⟨_, rfl, by show 2 ≤ sizeLine; decide, fun t ht => ?_⟩
      have ht0 : H3 t = none := upd_none2 ht
      have hft : f ≠ t := fun z => by rw [z, upd_same] at ht; cases ht
      refine ⟨t, _, rfl, SqT.of upd_same, rfl, _, _, rfl, _, _, rfl, rfl, ?_⟩
      refine while_by (fun σ H' => ∃ (done : List Str) (left : List Nat) (k : Nat) (a3 a6 : Option V), σ = [some (.str (S l)), some (.ref d), some (.ref p), a3, some (.ref f), some (.str (S left)), a6, none, none] ∧ Le (T K) H3 H' ∧ H' f = some (.lst (done.map V.str)) ∧
          cutUp ss ns (l.length + 1) l = (cutUp ss ns k left).map (done ++ ·) ∧ left.length < k ∧ done.length + left.length ≤ l.length)
        (fun σ _ => lenAt σ 5) ?_ (fun σ H4 hP => ?_) (fun σ H Q Q' m ⟨v, q1, q2, k, q3, q4⟩ => ⟨v, q1, q2, k, q3, m _ _ q4⟩)
      · refine ⟨[], l, l.length + 1, a, none, rfl, ((Le.refl L3.tab).new hf).new ht, (upd_ne hft).trans upd_same, ?_, Nat.lt_succ_self _, by simp⟩
        cases cutUp ss ns (l.length + 1) l <;> rfl
      · obtain ⟨done, left, k, a3, a6, rfl, L4, h4, hcut, hk, hln⟩ := hP
        have hl0 : left.length ≤ 10000 := by omega
        refine ⟨_, rfl, rfl, _, rfl, ?_⟩
        by_cases hemp : left = []
        · subst hemp
          refine iteF ?_
          obtain ⟨k', rfl⟩ : ∃ k', k = k' + 1 := ⟨k - 1, by omega⟩
          have hc2 : cutUp ss ns (l.length + 1) l = some done := by rw [hcut]; simp [cutUp]
          exact ⟨_, rfl, f, _, rfl, .inl ⟨SqL.of h4, (hq _ (LB.trans L4)).2 done hc2⟩⟩
        · rw [decide_eq_false (show ¬ V.str (S left) = V.str "" from fun z => hemp (S_inj (V.str.inj z)))]
          refine iteT ?_
          have hp4 := L4.at hp3
          have hd4 := L4.at hd3
          refine ⟨_, rfl, p, rfl, ⟨_, SqL.of hp4⟩, fun D hD => ?_⟩
          have hDf : f ≠ D := ne_of_none h4 hD
          refine lc_list (K := K) (a := p) (xs := ns.map V.str) (fun i H' => Le (T K) H4 H' ∧ H' D = some (.lst (((ns.take i).filter fun n => begins left (sg ss n)).map V.str))) ⟨(Le.refl L4.tab).new hD, upd_same⟩ (fun i H' _ hP => SqL.of (hP.1.at hp4)) (fun i x H5 hx ⟨L5, h5⟩ => ?_) (fun H5 ⟨L5, h5⟩ => ?_)
          · obtain ⟨n, hn, hm, rfl⟩ := nth hx
            obtain ⟨l1, l2, l3⟩ := lk n hm
            refine ⟨rfl, ?_⟩
            refine ⟨_, rfl, ⟨_, rfl⟩, _, rfl, _, rfl, d, _, rfl, dget_of (L5.at hd4) l1, _, _, rfl, rfl, _, rfl, ?_⟩
            rw [starts_eq, take_snoc hn, List.filter_append, List.map_append]
            cases hb : begins left (sg ss n) with
            | false =>
              refine iteF ⟨L5, ?_⟩
              rw [h5]
              simp [hb]
            | true =>
              refine iteT ⟨_, rfl, _, h5, ?_, L5.set hD h5, ?_⟩
              · rw [List.length_map]
                exact Nat.lt_of_le_of_lt (Nat.le_trans (List.length_filter_le _ _) (by rw [List.length_take]; exact Nat.min_le_right _ _)) (Nat.lt_of_lt_of_le (show ns.length < 64 by rw [hp.length_eq, List.length_map]; exact ls) (by decide))
              · rw [upd_same]
                simp [hb]
          · rw [List.take_of_length_le (by rw [List.length_map]; exact Nat.le_refl _)] at h5
            have L45 := L4.trans L5
            have h5f := L5.at h4
            have ok4 : ∀ x ∈ ns.filter (fun n => begins left (sg ss n)), okT x := fun x hx => (lk x (List.mem_filter.mp hx).1).2.2
            have hdf : (ns.filter fun n => begins left (sg ss n)).head? = ns.find? fun n => begins left (sg ss n) := List.head?_filter
            obtain ⟨k', rfl⟩ : ∃ k', k = k' + 1 := ⟨k - 1, by omega⟩
            generalize hR : (ns.filter fun n => begins left (sg ss n)) = R at h5 ok4 hdf
            refine ⟨_, rfl, by show 0 ≤ sizeLine; decide, fun q hq0 => ?_⟩
            have hDq : D ≠ q := ne_of_none h5 hq0
            refine ⟨.list (R.map PyData.str), .list ([].map PyData.str), .lst (SqL.of ((upd_ne hDq).trans h5)) (DpAll.strs R), .lst (SqL.of upd_same) .nil, shaped_names ok4, shaped_names (fun x hx => by cases hx), _, rfl, ?_⟩
            have ev : PyData.eqv (.list (R.map PyData.str)) (.list ([].map PyData.str)) = decide (R = []) := eqv_strs R []
            rw [ev]
            have h6f : upd H5 q (.lst []) f = some (.lst (done.map V.str)) := (upd_ne (ne_of_none h5f hq0)).trans h5f
            have L6 : Le (T K) H3 (upd H5 q (.lst [])) := L45.new hq0
            cases R with
            | nil =>
              refine iteT ?_
              have hfn : ns.find? (fun n => begins left (sg ss n)) = none := by rw [← hdf]; rfl
              refine (hq _ (LB.trans L6)).1 ?_
              rw [hcut]
              simp [cutUp, hemp, hfn]
            | cons n r =>
              refine iteF ?_
              have hfn : ns.find? (fun n => begins left (sg ss n)) = some n := by rw [← hdf]; rfl
              have hm := List.mem_of_find?_eq_some hfn
              have hbn := List.find?_some hfn
              obtain ⟨l1, l2, l3⟩ := lk n hm
              have h6D : upd H5 q (.lst []) D = some (.lst ((n :: r).map V.str)) := (upd_ne hDq).trans h5
              refine ⟨_, rfl, .inl ⟨rfl, _, SqL.of h6f⟩, _, rfl, D, _, _, _, rfl, rfl, SqL.of h6D, atI_nat (j := 0) rfl, f, _, _, rfl, rfl, h6f, ?_, ?_⟩
              · rw [List.length_map]
                exact Nat.lt_of_le_of_lt (show done.length ≤ 10000 by omega) (by decide)
              have h7D : upd (upd H5 q (.lst [])) f (.lst (done.map V.str ++ [V.str n])) D = some (.lst ((n :: r).map V.str)) := (upd_ne (Ne.symm hDf)).trans h6D
              have L7 : Le (T K) H3 (upd (upd H5 q (.lst [])) f (.lst (done.map V.str ++ [V.str n]))) := L6.set hf h6f
              have bl : begins left (sg ss n) = true := hbn
              have htk : left.take (sg ss n).length = sg ss n := of_decide_eq_true bl
              have hpos : 0 < (sg ss n).length := List.length_pos_iff.mpr (full n hm)
              have hle : (sg ss n).length ≤ left.length := by
                have := congrArg List.length htk
                rw [List.length_take] at this
                omega
              refine ⟨_, rfl, _, rfl, _, rfl, D, _, _, _, rfl, rfl, SqL.of h7D, atI_nat (j := 0) rfl, d, _, rfl, dget_of (L7.at hd3) l1, _, rfl, lenS_le l2 (by decide), _, rfl, _, rfl, lenS_le hl0 (by decide), ?_⟩
              rw [S_len, cut_hi]
              refine ⟨⟨done ++ [n], left.drop (sg ss n).length, k', a3, _, rfl, L7, ?_, ?_, ?_, ?_⟩, ?_⟩
              · rw [upd_same, List.map_append]
                rfl
              · rw [hcut]
                have e : cutUp ss ns (k' + 1) left = (cutUp ss ns k' (left.drop (sg ss n).length)).map (n :: ·) := by simp [cutUp, hemp, hfn]
                rw [e]
                cases cutUp ss ns k' (left.drop (sg ss n).length) <;> simp
              · rw [List.length_drop]; omega
              · rw [List.length_append, List.length_singleton, List.length_drop]; omega
              · show (S (left.drop (sg ss n).length)).length < (S left).length
                rw [S_len, S_len, List.length_drop]; omega
end
end K1

-- text Hps
set_option maxRecDepth 100000
set_option maxHeartbeats 4000000
namespace K1
open PySem PySem.Spec PyProof.Rows L2 LamX GX
/-! heaps of codes, put together -/
abbrev Codes := SD (List Nat)
abbrev Hh := Int × Int × Codes
abbrev leH (p q : Hh) : Bool := decide (p.1 < q.1 ∨ (p.1 = q.1 ∧ p.2.1 ≤ q.2.1))
def pre (c : Nat) (cs : Codes) : Codes := cs.map fun x => (x.1, c :: x.2)
def join : Nat → Int → List Hh → List Hh
  | 0, _, hs => hs
  | k + 1, t, hs => match hs.mergeSort leH with
    | a :: b :: r => join k (t - 1) (r ++ [(a.1 + b.1, t - 1, pre 48 a.2.2 ++ pre 49 b.2.2)])
    | _ => hs
def start (cs : SD Int) (ns : List Str) : List Hh := ns.zipIdx.map fun x => ((look cs x.1).getD 0, (cs.length : Int) + (x.2 : Nat), [(x.1, [])])
def tree (cs : SD Int) (ns : List Str) : List Hh := join (ns.length - 1) cs.length (start cs ns)
def leaves (cs : SD Int) (ns : List Str) : Codes := match tree cs ns with
  | h :: _ => h.2.2
  | [] => []
def short (cs : SD Int) (ns : List Str) : Codes := if ns.length = 1 then ns.map fun n => (n, [48]) else ns.map fun n => (n, (look (leaves cs ns) n).getD [])
/-- all the codes in the heaps -/
def allC (hs : List Hh) : Codes := (hs.map fun h => h.2.2).flatten
theorem names_pre (c : Nat) (cs : Codes) : (pre c cs).map (·.1) = cs.map (·.1) := by unfold pre; rw [List.map_map]; rfl
theorem names_sort (hs : List Hh) : ((allC (hs.mergeSort leH)).map (·.1)).Perm ((allC hs).map (·.1)) := by
  unfold allC
  exact ((((List.mergeSort_perm hs leH).map fun h => h.2.2).flatten).map _)
theorem names_join {a b : Hh} {r : List Hh} {n : Int × Int} : ((allC (r ++ [(n.1, n.2, pre 48 a.2.2 ++ pre 49 b.2.2)])).map (·.1)).Perm ((allC (a :: b :: r)).map (·.1)) := by
  unfold allC
  simp only [List.map_append, List.map_cons, List.map_nil, List.flatten_append, List.flatten_cons, List.flatten_nil, List.append_nil, names_pre]
  refine List.perm_append_comm.trans ?_
  rw [List.append_assoc]
theorem start_len (cs : SD Int) (ns : List Str) : (start cs ns).length = ns.length := by unfold start; rw [List.length_map, List.length_zipIdx]
theorem start_names (cs : SD Int) (ns : List Str) : (allC (start cs ns)).map (·.1) = ns := by
  unfold start allC
  rw [List.map_map]
  have : ∀ (l : List Str) (k : Nat), ((l.zipIdx k).map ((fun h : Hh => h.2.2) ∘ fun x : Str × Nat => ((look cs x.1).getD 0, (cs.length : Int) + (x.2 : Nat), [(x.1, ([] : List Nat))]))).flatten.map (·.1) = l := by
    intro l
    induction l with
    | nil => intro k; rfl
    | cons x r ih =>
      intro k
      rw [List.zipIdx_cons, List.map_cons, List.flatten_cons, List.map_append, ih]
      rfl
  exact this ns 0
/-- no sign is longer than the joinings so far -/
def lensLe (m : Nat) (hs : List Hh) : Prop := ∀ h ∈ hs, ∀ x ∈ h.2.2, x.2.length ≤ m
/-- one step leaves the names -/
theorem join_inv : ∀ (k : Nat) (t : Int) (hs : List Hh), hs.length = k + 1 → (join k t hs).length = 1 ∧ ((allC (join k t hs)).map (·.1)).Perm ((allC hs).map (·.1)) := by
  intro k
  induction k with
  | zero => intro t hs h; exact ⟨h, List.Perm.refl _⟩
  | succ k ih =>
    intro t hs h
    have hl : (hs.mergeSort leH).length = k + 2 := by rw [List.length_mergeSort]; exact h
    have hp := names_sort hs
    unfold join
    match hm : hs.mergeSort leH, hl, hp with
    | a :: b :: r, hl, hp =>
      obtain ⟨i1, i2⟩ := ih (t - 1) (r ++ [(a.1 + b.1, t - 1, pre 48 a.2.2 ++ pre 49 b.2.2)]) (by rw [List.length_append, List.length_singleton]; simpa using hl)
      exact ⟨i1, i2.trans ((names_join (n := (a.1 + b.1, t - 1))).trans hp)⟩
/-! what stands in the store -/
section
variable {H H' : Hp} {T : List (Addr × Str)} {K : PySem.W.Frag}
def isCodes (H : Hp) (a : Addr) (cs : Codes) : Prop := ∃ L : List (Addr × Str × List Nat), H a = some (.lst (L.map fun x => V.ref x.1)) ∧ (∀ x ∈ L, H x.1 = some (.tup [.str x.2.1, sV x.2.2])) ∧ L.map (·.2) = cs
def isHeap (H : Hp) (t : Addr) (h : Hh) : Prop := ∃ a, H t = some (.tup [.int h.1, .int h.2.1, .ref a]) ∧ isCodes H a h.2.2
def isHeaps (H : Hp) (p : Addr) (hs : List Hh) : Prop := ∃ L : List (Addr × Hh), H p = some (.lst (L.map fun x => V.ref x.1)) ∧ (∀ x ∈ L, isHeap H x.1 x.2) ∧ L.map (·.2) = hs
theorem Le.codes {a : Addr} {cs : Codes} (x : Le T H H') (h : isCodes H a cs) : isCodes H' a cs := by
  obtain ⟨L, h1, h2, h3⟩ := h
  exact ⟨L, x.at h1, fun y hy => x.at (h2 y hy), h3⟩
theorem Le.heap {t : Addr} {h : Hh} (x : Le T H H') (g : isHeap H t h) : isHeap H' t h := by
  obtain ⟨a, h1, h2⟩ := g
  exact ⟨a, x.at h1, Le.codes x h2⟩
theorem Le.heaps {p : Addr} {hs : List Hh} (x : Le T H H') (g : isHeaps H p hs) : isHeaps H' p hs := by
  obtain ⟨L, h1, h2, h3⟩ := g
  exact ⟨L, x.at h1, fun y hy => Le.heap x (h2 y hy), h3⟩
/-- the store without D -/
def hide (H : Hp) (D : Addr) : Hp := fun b => if b = D then none else H b
theorem hide_at {a D : Addr} {v : HO} (h : H a = some v) (n : a ≠ D) : hide H D a = some v := by unfold hide; rw [if_neg n]; exact h
theorem hide_sub {D : Addr} : ∀ b v, hide H D b = some v → H b = some v := fun b v h => by
  unfold hide at h
  by_cases hb : b = D
  · rw [if_pos hb] at h; cases h
  · rw [if_neg hb] at h; exact h
theorem hide_set {D : Addr} {o : HO} : hide (upd H D o) D = hide H D := by
  funext b
  unfold hide
  by_cases hb : b = D
  · rw [if_pos hb, if_pos hb]
  · rw [if_neg hb, if_neg hb, upd_ne hb]
theorem hide_new {D t : Addr} {o : HO} (h : H t = none) : ∀ b v, hide H D b = some v → hide (upd H t o) D b = some v := fun b v e => by
  have e1 := hide_sub b v e
  have nb : b ≠ D := fun z => by unfold hide at e; rw [if_pos z] at e; cases e
  exact hide_at ((upd_ne (ne_of_none e1 h)).trans e1) nb
theorem codes_sub {a : Addr} {cs : Codes} (x : ∀ b v, H b = some v → H' b = some v) (h : isCodes H a cs) : isCodes H' a cs := by
  obtain ⟨L, h1, h2, h3⟩ := h
  exact ⟨L, x _ _ h1, fun y hy => x _ _ (h2 y hy), h3⟩
theorem heap_sub {t : Addr} {h : Hh} (x : ∀ b v, H b = some v → H' b = some v) (g : isHeap H t h) : isHeap H' t h := by
  obtain ⟨a, h1, h2⟩ := g
  exact ⟨a, x _ _ h1, codes_sub x h2⟩
end
/-! dicts of codes -/
theorem put_ents {α : Type} (f : α → V) {cs : SD α} {n : Str} (h : ¬ n ∈ cs.map (·.1)) (v : α) : putK (ents f cs) (Sum.inr n) (f v) = ents f (cs ++ [(n, v)]) := by
  rw [putK_new _ (by rw [valV_ents, look_none h]; rfl)]
  unfold ents
  rw [List.map_append]
  rfl
theorem merge_ents {α : Type} (f : α → V) : ∀ (more cs : SD α), ((cs ++ more).map (·.1)).Nodup → mergeK (ents f cs) (ents f more) = ents f (cs ++ more)
  | [], cs, _ => by rw [List.append_nil]; rfl
  | p :: r, cs, h => by
    show mergeK (putK (ents f cs) (Sum.inr p.1) (f p.2)) (ents f r) = _
    have hn : ¬ p.1 ∈ cs.map (·.1) := by
      rw [List.map_append, List.map_cons] at h
      exact fun z => (List.nodup_append.mp h).2.2 _ z _ List.mem_cons_self rfl
    rw [put_ents f hn p.2, merge_ents f r _ (by rw [List.append_assoc]; exact h), List.append_assoc]
    rfl
theorem yes_ {σ : L2.St} {H : Hp} {Q : Bool → Hp → Prop} (h : Q true H) : tYes σ H Q := h
/-- {..}: n turns -/
theorem dc_n {J : It} {g : TG} {tt : TT} {tk tv : TE} {vs : List Nat} {σ : L2.St} {H1 : Hp} {D : Addr} {Qd : Hp → Prop} (n : Nat) (Pv : Nat → Hp → Prop) (h0 : Pv 0 (upd H1 D (.dK [])))
    (hs : ∀ i H, i < n → Pv i H → J.go i H ∧ ∀ x H', J.yld i H x H' → g x (wipe σ vs) H' fun σ2 H2 => wipe σ2 vs = wipe σ vs ∧ tt σ2 H2 fun b H3 =>
      if b = true then tk σ2 H3 fun y H4 => tv σ2 H4 fun z H5 => ∃ kvs k, y = kV k ∧ H5 D = some (.dK kvs) ∧ kvs.length < sizeLine ∧ Pv (i + 1) (upd H5 D (.dK (putK kvs k z))) else Pv (i + 1) H3)
    (hd : ∀ H, Pv n H → J.stop n H ∧ Qd H) :
    ∃ W : Nat → Nat → Hp → Prop, (∃ m, W 0 m (upd H1 D (.dK []))) ∧ ∀ i m H, W i m H →
      (J.stop i H ∧ Qd H) ∨ (J.go i H ∧ ∃ Nx : Hp → Prop, (∀ H', Nx H' → ∃ m', m' < m ∧ W (i + 1) m' H') ∧ ∀ x H', J.yld i H x H' → g x (wipe σ vs) H' fun σ2 H2 => wipe σ2 vs = wipe σ vs ∧ tt σ2 H2 fun b H3 =>
        if b = true then tk σ2 H3 fun y H4 => tv σ2 H4 fun z H5 => ∃ kvs k, y = kV k ∧ H5 D = some (.dK kvs) ∧ kvs.length < sizeLine ∧ Nx (upd H5 D (.dK (putK kvs k z))) else Nx H3) := by
  refine ⟨fun i m H => m = n - i ∧ i ≤ n ∧ Pv i H, ⟨n, by simp, Nat.zero_le _, h0⟩, ?_⟩
  rintro i m H ⟨rfl, hi, p⟩
  by_cases hlt : i < n
  · obtain ⟨q1, q2⟩ := hs i H hlt p
    exact .inr ⟨q1, Pv (i + 1), fun H' p' => ⟨n - (i + 1), by omega, rfl, hlt, p'⟩, q2⟩
  · have e : i = n := by omega
    rw [e] at p ⊢
    exact .inl (hd H p)
theorem paired_map {α β γ : Type} {F : β → γ → Prop} {f : α → β} {g : α → γ} : ∀ {L : List α}, (∀ x ∈ L, F (f x) (g x)) → Paired F (L.map f) (L.map g)
  | [], _ => .nil
  | x :: r, h => .cons (h x List.mem_cons_self) (paired_map fun y hy => h y (List.mem_cons_of_mem _ hy))
abbrev rAddS : R2 := fun x y H Q => ∃ i j, x = .str i ∧ y = .str j ∧ i.length + j.length ≤ sizeLine ∧ Q (.str (i ++ j)) H
/-- [(name, c + sign) for name, sign in codes] -/
theorem lc_pre {T : List (Addr × Str)} {K : PySem.W.Frag} {s0 s1 s2 s3 s4 s5 s6 s7 s8 s9 : Option V} {H1 : Hp} {a D : Addr} {c : Nat} {z : Str} {cs : Codes} {Qd : Hp → Prop} (hz : z = S [c]) (hT : Tabs T H1) (ha : isCodes H1 a cs) (hl : cs.length < 64) (hs : ∀ x ∈ cs, x.2.length ≤ 1000) (hD : H1 D = none)
    (hq : ∀ H', Le T H1 H' → isCodes H' D (pre c cs) → Qd H') :
    ∃ W : Nat → Nat → Hp → Prop, (∃ m, W 0 m (upd H1 D (.lst []))) ∧ ∀ i m H, W i m H →
      ((Itl K a).stop i H ∧ Qd H) ∨ ((Itl K a).go i H ∧ ∃ Nx : Hp → Prop, (∀ H', Nx H' → ∃ m', m' < m ∧ W (i + 1) m' H') ∧ ∀ x H', (Itl K a).yld i H x H' → gTup K 2 (gCons (gName 7) (gCons (gName 9) gNil)) x (wipe [s0, s1, s2, s3, s4, s5, s6, s7, s8, s9] [7, 9]) H' fun σ2 H2 => wipe σ2 [7, 9] = wipe [s0, s1, s2, s3, s4, s5, s6, s7, s8, s9] [7, 9] ∧ tYes σ2 H2 fun b H3 =>
        if b = true then tTup (tCons (tVar 7) (tCons (tOp rAddS (tC (.str z)) (tVar 9)) tNil)) σ2 H3 fun y H4 => ∃ acc, H4 D = some (.lst acc) ∧ acc.length < sizeLine ∧ Nx (upd H4 D (.lst (acc ++ [y]))) else Nx H3) := by
  obtain ⟨L, h1, h2, h3⟩ := ha
  have lL : L.length = cs.length := by rw [← h3, List.length_map]
  refine lc_list (K := K) (a := a) (xs := L.map fun x => V.ref x.1) (fun i H' => Le T H1 H' ∧ ∃ R : List (Addr × Str × List Nat), H' D = some (.lst (R.map fun x => V.ref x.1)) ∧ (∀ x ∈ R, H' x.1 = some (.tup [.str x.2.1, sV x.2.2])) ∧ R.map (·.2) = (pre c cs).take i)
    ⟨(Le.refl hT).new hD, [], upd_same, (fun x hx => by cases hx), rfl⟩ (fun i H' _ hP => SqL.of (hP.1.at h1)) (fun i x H2 hx ⟨L2, R, hDR, hR, eR⟩ => ?_) (fun H2 ⟨L2, R, hDR, hR, eR⟩ => ?_)
  · obtain ⟨y, hy, rfl⟩ := get_map hx
    have hm := List.mem_of_getElem? hy
    have hcy : cs[i]? = some y.2 := by rw [← h3, List.getElem?_map, hy]; rfl
    have hym := List.mem_of_getElem? hcy
    refine ⟨y.1, _, rfl, SqT.of (L2.at (h2 y hm)), rfl, _, _, rfl, _, _, rfl, rfl, rfl, ?_⟩
    refine yes_ ?_
    refine iteT ?_
    have ly : y.2.2.length ≤ 1000 := hs _ hym
    subst hz
    refine ⟨_, rfl, _, rfl, _, _, rfl, rfl, ?_, by show 2 ≤ sizeLine; decide, fun t ht => ?_⟩
    · rw [S_len, S_len]
      exact Nat.le_trans (show 1 + y.2.2.length ≤ 1001 by omega) (by decide)
    · have hDt : D ≠ t := ne_of_none hDR ht
      have hD3 : upd H2 t (.tup [.str y.2.1, .str (S [c] ++ S y.2.2)]) D = some (.lst (R.map fun x => V.ref x.1)) := (upd_ne hDt).trans hDR
      have lR : R.length ≤ i := by
        have := congrArg List.length eR
        rw [List.length_map, List.length_take] at this
        omega
      have ic : i < cs.length := (List.getElem?_eq_some_iff.mp hcy).1
      refine ⟨_, hD3, by rw [List.length_map]; exact Nat.lt_of_lt_of_le (show R.length < 64 by omega) (by decide), (L2.new ht).set hD hD3, R ++ [(t, y.2.1, c :: y.2.2)], ?_, ?_, ?_⟩
      · rw [upd_same, List.map_append]; rfl
      · intro x hx
        rcases List.mem_append.mp hx with hx | hx
        · have hx2 := hR x hx
          have nD : x.1 ≠ D := fun z => by rw [z, hDR] at hx2; cases hx2
          exact (upd_ne nD).trans ((upd_ne (ne_of_none hx2 ht)).trans hx2)
        · rw [List.mem_singleton.mp hx]
          refine (upd_ne (Ne.symm hDt)).trans (upd_same.trans ?_)
          rw [S_app]
          rfl
      · rw [List.map_append, eR, take_snoc (l := pre c cs) (by unfold pre; rw [List.getElem?_map, hcy]; rfl)]
        rfl
  · rw [List.length_map, lL, List.take_of_length_le (by unfold pre; rw [List.length_map]; exact Nat.le_refl _)] at eR
    exact hq H2 L2 ⟨R, hDR, hR, eR⟩
end K1

-- text K1F
set_option maxRecDepth 100000
set_option maxHeartbeats 4000000
namespace K1
open PySem PySem.Spec PyProof.Rows L2 LamX GX
section
variable {P : Program} {w : World} {K : PySem.W.Frag} {mg : Str → Option Value} {base : Heap}
/-! ### short_signs -/
def shortBad (cs : SD Int) : Prop := cs.length = 0 ∨ 60 < cs.length ∨ ∃ p ∈ cs, p.2 < 1
def spShort (K : PySem.W.Frag) : Sp := fun vs H Q E => ∃ (c : Addr) (cs : SD Int), vs = [.ref c] ∧ H c = some (dI cs) ∧ Tabs (T K) H ∧ cs.length < 64 ∧ (cs.map (·.1)).Nodup ∧
  (shortBad cs → ∀ H', Le (T K) H H' → E (.ref (aCE K)) none H') ∧
  (¬ shortBad cs → ∀ ns : List Str, ns.Perm (cs.map (·.1)) → sortedS ns = true → ∀ H' p, Le (T K) H H' → H p = none → H' p = some (dS (short cs ns)) → Q (.ref p) H')
def intAt (σ : L2.St) (i : Nat) : Nat := match σ[i]? with
  | some (some (V.int z)) => z.toNat
  | _ => 0
theorem ok_short (C : Ctx K mg base) : CalX P w K mg base 4 "short_signs" ["counts"] (spShort K) := by
  obtain ⟨fd, F⟩ := C.d.d_short_signs
  refine ⟨_, fd, ?_, F.funD.bindsN fun _ _ _ _ _ _ us hl => (match us, hl with | [_], _ => rfl), F.kp, C.t.m_short_signs⟩
  refine F.ok sc_short_signs (fun vs H Q E h => ?_) (fun A outer s H vs Q E hr h => ?_)
  · obtain ⟨c, cs, rfl, _⟩ := h
    rfl
  · obtain ⟨c, cs, rfl, hc, hT, lc, nd, hbad, hgood⟩ := h
    obtain ⟨e1, e2, e3, e4⟩ := C.t.e_CodeError
    have nn := sc_short_signs.nd
    refine ⟨_, pss_cons (ps_if (PW.pt (pw_or (pt_not (pt_chain op_lt op_le pe_int (pe_callB call_lenD (by rfl) C.t.b_len PySem.boot_len (pa_cons (pv 0) pa_nil)) pe_int)) (pw_or1 (pt_val
          (pe_lock (pe_genAny (T := T K) (own := [("name", 7)]) (g := gName 7) hr rfl C.t.b_any nn (C.b _ (tf_mem 4)) rfl (T_mem 4) (T_uniq C.u 4) (pi_keys (pv 0)) (gsc_by (blkOk_by (N := n_short_signs) (sc := defScope s_short_signs) (by decide +kernel)) (by decide +kernel))
            (fun _ _ _ _ _ => pg_name (i := 7) nn rfl (Or.inl rfl)) (fun _ _ _ _ _ hrk => pe_cmpR op_lt (pe_dget (hu_of hrk) (pv 0) (pv 7) (fun _ _ => rfl)) pe_int (nomark _))))))))
        (pss_one (ps_raise rfl takesA (pmk_own PySem.F.excBase_ValueError e1 C.t.m_CodeError e2 (raises_own e3 e4) (by rfl)))) pss_nil)
      (pss_cons (ps_setLc (i := 1) (own := [("place", 8), ("name", 7)]) (g := gTup K 2 (gCons (gName 8) (gCons (gName 7) gNil))) rfl nn rfl rfl (sw_true rfl rfl rfl (by decide +kernel))
          (pi_enum (by rfl) C.t.b_enumerate (pa_cons (pe_callB (call_sortedD rfl) (by rfl) C.t.b_sorted (by decide +kernel) (pa_cons (pv 0) pa_nil)) pa_nil)) (blkOk_by (N := n_short_signs) (sc := defScope s_short_signs) (by decide +kernel))
          (fun _ _ _ _ _ => by exact pg_tup rfl (pgs_cons (pg_name (i := 8) nn rfl (Or.inl rfl)) (pgs_cons (pg_name (i := 7) nn rfl (Or.inl rfl)) pgs_nil))) (fun _ _ _ _ _ => pts_nil)
          (fun _ _ _ _ _ => by exact pe_tup (pa_cons (pe_dget (hu_of hr) (pv 0) (pv 7) (fun _ _ => rfl)) (pa_cons (pe_op op_add (pe_callB call_lenD (by rfl) C.t.b_len PySem.boot_len (pa_cons (pv 0) pa_nil)) (pv 8))
            (pa_cons (by exact pe_lst (pa_cons (by exact pe_tup (pa_cons (pv 7) (pa_cons pe_str pa_nil))) pa_nil)) pa_nil)))))
      (pss_cons (ps_set (i := 2) nn rfl (Or.inl rfl) (pe_callB call_lenD (by rfl) C.t.b_len PySem.boot_len (pa_cons (pv 0) pa_nil)))
      (pss_cons (ps_while ownsA (pt_cmpR op_gt (pe_callB call_len_seq (by rfl) C.t.b_len PySem.boot_len (pa_cons (pv 1) pa_nil)) pe_int (nomark _))
          (pss_cons (ps_set (i := 1) nn rfl (Or.inl rfl) (pe_callBK (cr_sort2 (key2 C) hr) (by rfl) C.t.b_sorted (by decide +kernel) (pa_cons (pv 1) pa_nil) (pk_cons (pe_glob (by rfl) C.t.m_heap_key (v := .ref (He.ga K "heap_key")) rfl) pk_nil)))
          (pss_cons (ps_par (i := 3) (j := 4) (by rfl) nn rfl rfl (by decide) rfl rfl (pa_cons (pe_ix ix_list (pv 1) pe_int (fun _ _ => rfl)) (pa_cons (pe_ix ix_list (pv 1) pe_int (fun _ _ => rfl)) pa_nil)) (by rfl))
          (pss_cons (ps_aug (i := 2) nn rfl (Or.inl rfl) pe_int ip_sub)
          (pss_cons (ps_set (i := 5) nn rfl (Or.inl rfl) (pe_op op_cat
              (pe_lc (own := [("name", 7), ("sign", 9)]) (g := gTup K 2 (gCons (gName 7) (gCons (gName 9) gNil))) rfl nn (pi_list (pe_ix ix_tup (pv 3) pe_int (fun _ _ => rfl))) (blkOk_by (N := n_short_signs) (sc := defScope s_short_signs) (by decide +kernel))
                (fun _ _ _ _ _ => by exact pg_tup rfl (pgs_cons (pg_name (i := 7) nn rfl (Or.inl rfl)) (pgs_cons (pg_name (i := 9) nn rfl (Or.inl rfl)) pgs_nil))) (fun _ _ _ _ _ => pts_nil)
                (fun _ _ _ _ _ => by exact pe_tup (pa_cons (pv 7) (pa_cons (pe_op op_add_str pe_str (pv 9)) pa_nil))))
              (pe_lc (own := [("name", 7), ("sign", 9)]) (g := gTup K 2 (gCons (gName 7) (gCons (gName 9) gNil))) rfl nn (pi_list (pe_ix ix_tup (pv 4) pe_int (fun _ _ => rfl))) (blkOk_by (N := n_short_signs) (sc := defScope s_short_signs) (by decide +kernel))
                (fun _ _ _ _ _ => by exact pg_tup rfl (pgs_cons (pg_name (i := 7) nn rfl (Or.inl rfl)) (pgs_cons (pg_name (i := 9) nn rfl (Or.inl rfl)) pgs_nil))) (fun _ _ _ _ _ => pts_nil)
                (fun _ _ _ _ _ => by exact pe_tup (pa_cons (pv 7) (pa_cons (pe_op op_add_str pe_str (pv 9)) pa_nil))))))
          (pss_one (ps_set (i := 1) nn rfl (Or.inl rfl) (pe_op op_cat (pe_slice sl_list (pv 1) (po_some pe_int) po_none)
            (pe_lst (pa_cons (pe_tup (pa_cons (pe_op op_add (pe_ix ix_tup (pv 3) pe_int (fun _ _ => rfl)) (pe_ix ix_tup (pv 4) pe_int (fun _ _ => rfl))) (pa_cons (pv 2) (pa_cons (pv 5) pa_nil)))) pa_nil))))))))))
      (pss_cons (ps_if (pt_cmpR op_eq (pe_callB call_lenD (by rfl) C.t.b_len PySem.boot_len (pa_cons (pv 0) pa_nil)) pe_int (nomark _))
        (pss_one (ps_ret (pe_lock (pe_dc (own := [("name", 7)]) (g := gName 7) rfl nn (pi_keys (pv 0)) (blkOk_by (N := n_short_signs) (sc := defScope s_short_signs) (by decide +kernel))
          (fun _ _ _ _ _ => pg_name (i := 7) nn rfl (Or.inl rfl)) (fun _ _ _ _ _ => pts_nil) (fun _ _ _ _ _ => pv 7) (fun _ _ _ _ _ => pe_str))))) pss_nil)
      (pss_cons (ps_set (i := 6) nn rfl (Or.inr rfl) (pe_callTy (call_dictP rfl) (by rfl) C.t.b_dict (by decide +kernel) (pa_cons (pe_ix ix_tup (pe_ix ix_list (pv 1) pe_int (fun _ _ => rfl)) pe_int (fun _ _ => rfl)) pa_nil)))
      (pss_one (ps_ret (pe_dc (own := [("name", 7)]) (g := gName 7) rfl nn (pi_list (pe_callB (call_sortedD rfl) (by rfl) C.t.b_sorted (by decide +kernel) (pa_cons (pv 6) pa_nil))) (blkOk_by (N := n_short_signs) (sc := defScope s_short_signs) (by decide +kernel))
          (fun _ _ _ _ _ => pg_name (i := 7) nn rfl (Or.inl rfl)) (fun _ _ _ _ _ => pts_nil) (fun _ _ _ _ _ => pv 7) (fun _ _ _ _ _ => pe_dget (hu_of hr) (pv 6) (pv 7) (fun _ _ => rfl)))))))))), ?_⟩
    have ts : ∀ {p : Prop}, ¬ shortBad cs → p → p := fun _ h => h
    refine ⟨_, rfl, c, _, rfl, hc, _, _, rfl, rfl, _, rfl, ?_⟩
    rw [ents_len]
    by_cases h0 : cs.length = 0
    · rw [decide_eq_false (show ¬ (0 : Int) < (cs.length : Nat) by omega)]
      exact iteF ⟨_, rfl, iteT (iteT (hbad (.inl h0) _ (Le.refl hT)))⟩
    rw [decide_eq_true (show (0 : Int) < (cs.length : Nat) by omega)]
    refine iteT ⟨_, _, rfl, rfl, _, rfl, ?_⟩
    by_cases h60 : 60 < cs.length
    · rw [decide_eq_false (show ¬ ((cs.length : Nat) : Int) ≤ 60 by omega)]
      exact iteT (iteT (hbad (.inr (.inl h60)) _ (Le.refl hT)))
    rw [decide_eq_true (show ((cs.length : Nat) : Int) ≤ 60 by omega)]
    refine iteF ⟨c, _, hc, trivial, fun od => ?_⟩
    have TL := tabs_lock (o := od) hT hc trivial
    refine ⟨_, rfl, c, od, rfl, .inl ⟨_, upd_same, ?_⟩⟩
    refine ⟨TL, fun H2 hE hT2 hno2 => ?_⟩
    have un : ∀ {H3 : Hp}, Le (T K) (upd H c (.frz od (dI cs))) H3 → Le (T K) H (upd H3 c (dI cs)) := fun L3 => Le.unlock hc trivial L3
    refine ⟨cs.length, fun i H' => Le (T K) (upd H c (.frz od (dI cs))) H' ∧ ∀ p ∈ cs.take i, ¬ p.2 < 1, ⟨⟨hE, hT2, hno2⟩, fun p hp => by cases hp⟩, fun i H3 hi ⟨L3, h3⟩ => ⟨⟨L3.at upd_same, by rw [ents_len]; exact hi⟩, ?_⟩, fun H3 ⟨L3, h3⟩ => ⟨⟨L3.at upd_same, by rw [ents_len]; exact Nat.le_refl _⟩, L3.at upd_same, ?_⟩⟩
    · rintro x H4 ⟨rfl, k, v, hk, rfl⟩
      unfold ents at hk
      rw [List.getElem?_map] at hk
      obtain ⟨p1, hp1, e⟩ := Option.map_eq_some_iff.mp hk
      cases e
      have hm := List.mem_of_getElem? hp1
      refine ⟨rfl, ?_⟩
      refine ⟨_, rfl, _, rfl, c, _, rfl, dget_rd (.inr ⟨od, L3.at upd_same⟩) (look_of nd hm), _, _, rfl, rfl, _, rfl, ?_⟩
      by_cases h1 : p1.2 < 1
      · rw [decide_eq_true h1]
        exact iteT ⟨L3.at upd_same, _, rfl, iteT (hbad (.inr (.inr ⟨p1, hm, h1⟩)) _ (un L3))⟩
      · rw [decide_eq_false h1]
        refine iteF ⟨L3, fun p hp => ?_⟩
        rw [take_snoc hp1] at hp
        rcases List.mem_append.mp hp with hp | hp
        · exact h3 p hp
        · rw [List.mem_singleton.mp hp]; exact h1
    refine ⟨_, rfl, iteF ?_⟩
    rw [List.take_of_length_le (Nat.le_refl _)] at h3
    have good : ¬ shortBad cs := by
      rintro (z | z | ⟨p, hp, z⟩)
      · exact h0 z
      · exact h60 z
      · exact h3 p hp z
    have hq := hgood good
    have L4 := un L3
    have hc4 : upd H3 c (dI cs) c = some (dI cs) := upd_same
    generalize upd H3 c (dI cs) = H4 at L4 hc4
    clear hbad hgood h3 L3
    refine ⟨_, rfl, c, _, cs.map (·.1), rfl, .inl hc4, ents_keys _ _, by rw [List.length_map]; exact lc, fun ns p hp hsn hpn => ?_⟩
    have hqn := hq ns hp hsn
    have hnl : ns.length = cs.length := by rw [hp.length_eq, List.length_map]
    have ndn : ns.Nodup := (hp.nodup_iff).mpr nd
    have hL5 := L4.new (o := .lst (ns.map V.str)) hpn
    have hc5 : upd H4 p (.lst (ns.map V.str)) c = some (dI cs) := (upd_ne (ne_of_none hc4 hpn)).trans hc4
    have hp5 : upd H4 p (.lst (ns.map V.str)) p = some (.lst (ns.map V.str)) := upd_same
    generalize upd H4 p (.lst (ns.map V.str)) = H5 at hL5 hc5 hp5
    have lk : ∀ n ∈ ns, ∃ v, look cs n = some v := fun n hn => by
      obtain ⟨v, h1, _⟩ := look_mem (hp.mem_iff.mp hn)
      exact ⟨v, h1⟩
    refine ⟨p, _, rfl, SqL.of hp5, fun D hD => ?_⟩
    have hDc : c ≠ D := ne_of_none hc5 hD
    refine lc_n ns.length (fun i H' => Le (T K) H5 H' ∧ ∃ L : List (Addr × Hh), H' D = some (.lst (L.map fun x => V.ref x.1)) ∧ (∀ x ∈ L, isHeap (hide H' D) x.1 x.2) ∧ L.map (·.2) = (start cs ns).take i) ⟨(Le.refl hL5.tab).new hD, [], upd_same, (fun x hx => by cases hx), rfl⟩
      (fun i H6 hi ⟨L6, L, hD6, hL, eL⟩ => ⟨⟨_, V.str ns[i], SqL.of (L6.at hp5), by rw [List.getElem?_map, List.getElem?_eq_getElem hi]; rfl⟩, ?_⟩) (fun H6 ⟨L6, L, hD6, hL, eL⟩ => ⟨⟨_, SqL.of (L6.at hp5), by rw [List.length_map]; exact Nat.le_refl _⟩, ?_⟩)
    · rintro x H7 ⟨t, y, rfl, ht, rfl, hy⟩
      obtain ⟨n, hn, rfl⟩ := get_map (hy _ (SqL.of (L6.at hp5)))
      obtain ⟨v, hv⟩ := lk n (List.mem_of_getElem? hn)
      have hc6 := L6.at hc5
      refine ⟨t, _, rfl, SqT.of upd_same, rfl, _, _, rfl, _, _, rfl, rfl, rfl, ?_⟩
      refine yes_ ?_
      refine iteT ?_
      have hc7 : upd H6 t (.tup [.int (i : Nat), .str n]) c = some (dI cs) := (upd_ne (ne_of_none hc6 ht)).trans hc6
      have L7 := L6.new (o := .tup [.int (i : Nat), .str n]) ht
      have hD7 : upd H6 t (.tup [.int (i : Nat), .str n]) D = some (.lst (L.map fun x => V.ref x.1)) := (upd_ne (ne_of_none hD6 ht)).trans hD6
      have hL7 : ∀ x ∈ L, isHeap (hide (upd H6 t (.tup [.int (i : Nat), .str n])) D) x.1 x.2 := fun x hx => heap_sub (hide_new ht) (hL x hx)
      generalize upd H6 t (.tup [.int (i : Nat), .str n]) = H7 at hc7 L7 hD7 hL7
      refine ⟨_, rfl, _, rfl, c, _, rfl, dget_of hc7 hv, _, rfl, c, _, rfl, hc7, _, rfl, _, _, rfl, rfl, _, rfl, by show 2 ≤ sizeLine; decide, fun q hqn => ?_⟩
      refine ⟨by show 1 ≤ sizeLine; decide, fun l hln => ?_⟩
      refine ⟨by show 3 ≤ sizeLine; decide, fun u hun => ?_⟩
      have hlq : q ≠ l := ne_of_none upd_same hln
      have huq : q ≠ u := fun z => by rw [← z, upd_ne hlq, upd_same] at hun; cases hun
      have hul : l ≠ u := ne_of_none upd_same hun
      have qD : q ≠ D := fun z => by rw [z, hD7] at hqn; cases hqn
      have lD : l ≠ D := fun z => by rw [z, upd_ne (Ne.symm qD), hD7] at hln; cases hln
      have uD : u ≠ D := fun z => by rw [z, upd_ne (Ne.symm lD), upd_ne (Ne.symm qD), hD7] at hun; cases hun
      have lL : L.length = i := by
        have := congrArg List.length eL
        rw [List.length_map, List.length_take, start_len] at this
        omega
      have hD8 := (upd_ne (o := HO.tup [.int v, .int ((cs.length : Nat) + (i : Nat) : Int), .ref l]) (Ne.symm uD)).trans ((upd_ne (o := HO.lst [.ref q]) (Ne.symm lD)).trans ((upd_ne (o := HO.tup [.str n, .str ""]) (Ne.symm qD)).trans hD7))
      rw [ents_len]
      refine ⟨L.map fun x => V.ref x.1, hD8, by rw [List.length_map, lL]; exact Nat.lt_of_lt_of_le (show i < 64 by omega) (by decide), ?_, L ++ [(u, (v, (cs.length : Int) + (i : Nat), [(n, [])]))], ?_, ?_, ?_⟩
      · exact (((L7.new hqn).new hln).new hun).set hD hD8
      · rw [upd_same, List.map_append]; rfl
      · rw [hide_set]
        intro x hx
        rcases List.mem_append.mp hx with hx | hx
        · exact heap_sub (hide_new hun) (heap_sub (hide_new hln) (heap_sub (hide_new hqn) (hL7 x hx)))
        · rw [List.mem_singleton.mp hx]
          exact ⟨l, hide_at upd_same uD, [(q, n, [])], hide_at ((upd_ne hul).trans upd_same) lD, (fun y hy => by rw [List.mem_singleton.mp hy]; exact hide_at ((upd_ne huq).trans ((upd_ne hlq).trans upd_same)) qD), rfl⟩
      · rw [List.map_append, eL]
        unfold start
        rw [← List.map_take, ← List.map_take, take_snoc (l := ns.zipIdx) (by rw [List.getElem?_zipIdx, hn]; rfl), List.map_append]
        simp [hv]
    have hps : isHeaps H6 D (start cs ns) := ⟨L, hD6, fun x hx => heap_sub hide_sub (hL x hx), by rw [eL, List.take_of_length_le (by rw [start_len]; exact Nat.le_refl _)]⟩
    have LA := hL5.trans L6
    have hc6 := L6.at hc5
    clear hL eL hD6 L6 hp5 hD
    refine ⟨_, rfl, c, _, rfl, hc6, ?_⟩
    rw [ents_len]
    refine while_by (fun σ H' => ∃ (k : Nat) (q : Addr) (hs : List Hh) (turn : Int) (a3 a4 a5 : Option V), σ = [some (.ref c), some (.ref q), some (.int turn), a3, a4, a5, none, none, none, none] ∧ Le (T K) H6 H' ∧ isHeaps H' q hs ∧ turn = (k + 1 : Nat) ∧
        hs.length = k + 1 ∧ tree cs ns = join k turn hs ∧ k + 1 ≤ ns.length ∧ ((allC hs).map (·.1)).Perm ns ∧ lensLe (ns.length - 1 - k) hs)
      (fun σ _ => intAt σ 2) ?_ (fun σ H7 hP => ?_) (fun σ H Q Q' m ⟨v, q1, p, ys, e, o, i, j, e1, e2, k, ek, q⟩ => ⟨v, q1, p, ys, e, o, i, j, e1, e2, k, ek, m _ _ q⟩)
    · refine ⟨ns.length - 1, D, start cs ns, (cs.length : Nat), none, none, none, rfl, Le.refl LA.tab, hps, by omega, by rw [start_len]; omega, rfl, by omega, by rw [start_names], ?_⟩
      intro h hh x hx
      unfold start at hh
      obtain ⟨y, _, rfl⟩ := List.mem_map.mp hh
      rw [List.mem_singleton.mp hx]
      exact Nat.zero_le _
    · obtain ⟨k, q, hs, turn, a3, a4, a5, rfl, L7, ⟨L, hq7, hL, eL⟩, htn, hlen, htree, hkn, hjn, hll⟩ := hP
      have lL : L.length = k + 1 := by rw [← hlen, ← eL, List.length_map]
      refine ⟨_, rfl, q, _, rfl, .inl (SqL.of hq7), _, _, rfl, rfl, _, rfl, ?_⟩
      rw [List.length_map, lL]
      cases k with
      | zero =>
        rw [decide_eq_false (show ¬ (1 : Int) < ((0 + 1 : Nat) : Int) by omega)]
        refine iteF ?_
        have LB := LA.trans L7
        have hc7 := L7.at hc6
        refine ⟨_, rfl, c, _, rfl, hc7, rfl, _, rfl, ?_⟩
        rw [ents_len]
        by_cases hone : cs.length = 1
        · rw [decide_eq_true (show V.int ((cs.length : Nat) : Int) = V.int 1 by rw [hone]; rfl)]
          refine iteT ⟨c, _, hc7, trivial, fun od2 => ?_⟩
          have TL2 := tabs_lock (o := od2) L7.tab hc7 trivial
          refine ⟨_, rfl, c, od2, rfl, .inl ⟨_, upd_same, fun E1 hE1 => ?_⟩⟩
          have hEc : c ≠ E1 := fun z => by rw [← z, upd_same] at hE1; cases hE1
          have hE7 : H7 E1 = none := by rw [upd_ne (Ne.symm hEc)] at hE1; exact hE1
          refine dc_n cs.length (fun i H' => Le (T K) (upd H7 c (.frz od2 (dI cs))) H' ∧ H' E1 = some (dS ((cs.take i).map fun p => (p.1, [48])))) ⟨(Le.refl TL2).new hE1, upd_same⟩ (fun i H8 hi ⟨L8, h8⟩ => ⟨⟨L8.at upd_same, by rw [ents_len]; exact hi⟩, ?_⟩) (fun H8 ⟨L8, h8⟩ => ⟨⟨L8.at upd_same, by rw [ents_len]; exact Nat.le_refl _⟩, L8.at upd_same, ?_⟩)
          · rintro x H9 ⟨rfl, kk, v, hk, rfl⟩
            unfold ents at hk
            rw [List.getElem?_map] at hk
            obtain ⟨p1, hp1, e⟩ := Option.map_eq_some_iff.mp hk
            cases e
            refine ⟨rfl, ?_⟩
            refine yes_ ?_
            refine iteT ?_
            refine ⟨_, rfl, _, Sum.inr p1.1, rfl, h8, ?_, L8.set hE1 h8, ?_⟩
            · rw [ents_len, List.length_map, List.length_take]
              exact Nat.lt_of_lt_of_le (show min i cs.length < 64 by omega) (by decide)
            · rw [upd_same, take_snoc hp1, List.map_append]
              have hnot : ¬ p1.1 ∈ (((cs.take i).map fun p => (p.1, [48])) : Codes).map (·.1) := by
                rw [List.map_map]
                intro z
                have nd2 := nd
                rw [← List.take_append_drop (i + 1) cs, take_snoc hp1, List.map_append, List.map_append] at nd2
                exact (List.nodup_append.mp (List.nodup_append.mp nd2).1).2.2 _ z _ (by simp) rfl
              exact congrArg some (congrArg HO.dK (put_ents sV hnot [48]))
          · rw [List.take_of_length_le (Nat.le_refl _)] at h8
            have L9 := Le.unlock hc7 trivial L8
            have e : (cs.map fun p => (p.1, [48])) = short cs ns := by
              unfold short
              rw [if_pos (by rw [hnl, hone])]
              have : ns = cs.map (·.1) := by
                match cs, hone, hp with
                | [p], _, hp => exact List.perm_singleton.mp hp
              rw [this, List.map_map]
              rfl
            rw [e] at h8
            exact hqn _ E1 (LB.trans L9) (LB.no _ hE7) ((upd_ne (Ne.symm hEc)).trans h8)
        · rw [decide_eq_false (show ¬ V.int ((cs.length : Nat) : Int) = V.int 1 from fun z => hone (by injection z with z; omega))]
          refine iteF ?_
          match L, lL with
          | [m], _ =>
            obtain ⟨am, hm1, hm2⟩ := hL m List.mem_cons_self
            have hm2' := hm2
            obtain ⟨R, r1, r2, r3⟩ := hm2
            have eT : leaves cs ns = m.2.2.2 := by unfold leaves; rw [htree]; rw [← eL]; rfl
            have pn : ((leaves cs ns).map (·.1)).Perm ns := by
              have h1 := hjn
              rw [← eL] at h1
              rw [eT]
              simpa [allC] using h1
            have ndl : ((leaves cs ns).map (·.1)).Nodup := pn.nodup_iff.mpr ndn
            have lnl : (leaves cs ns).length < 64 := by
              have := pn.length_eq
              rw [List.length_map] at this
              omega
            refine ⟨_, rfl, q, _, _, _, rfl, rfl, SqL.of hq7, atI_nat (j := 0) rfl, m.1, _, _, _, rfl, rfl, SqT.of hm1, atI_nat (j := 2) rfl, am, R.map (·.1), R.map (fun x => (Sum.inr x.2.1, sV x.2.2)), rfl, SqL.of (r1.trans (by rw [List.map_map]; rfl)), paired_map fun x hx => SqT.of (r2 x hx), fun tb htb => ?_⟩
            have ek : mergeK [] (R.map fun x => ((Sum.inr x.2.1 : L2.Key), sV x.2.2)) = ents sV (leaves cs ns) := by
              have : (R.map fun x => ((Sum.inr x.2.1 : L2.Key), sV x.2.2)) = ents sV (leaves cs ns) := by
                rw [eT, ← r3]
                unfold ents
                rw [List.map_map]
                rfl
              rw [this]
              exact merge_ents sV (leaves cs ns) [] ndl
            rw [ek]
            have L8 := L7.new (o := dS (leaves cs ns)) htb
            have hb8 : upd H7 tb (dS (leaves cs ns)) tb = some (dS (leaves cs ns)) := upd_same
            generalize upd H7 tb (dS (leaves cs ns)) = H8 at L8 hb8
            refine ⟨_, rfl, tb, _, (leaves cs ns).map (·.1), rfl, .inl hb8, ents_keys _ _, by rw [List.length_map]; exact lnl, fun zs pz hz hzs hpz => ?_⟩
            have ez : zs = ns := sorted_uniq hzs hsn (hz.trans pn)
            subst ez
            have L9 := L8.new (o := .lst (zs.map V.str)) hpz
            have hb9 : upd H8 pz (.lst (zs.map V.str)) tb = some (dS (leaves cs zs)) := (upd_ne (ne_of_none hb8 hpz)).trans hb8
            have hz9 : upd H8 pz (.lst (zs.map V.str)) pz = some (.lst (zs.map V.str)) := upd_same
            generalize upd H8 pz (.lst (zs.map V.str)) = H9 at L9 hb9 hz9
            refine ⟨pz, rfl, ⟨_, SqL.of hz9⟩, fun E1 hE1 => ?_⟩
            have hEb : tb ≠ E1 := ne_of_none hb9 hE1
            refine dc_n zs.length (fun i H' => Le (T K) H9 H' ∧ H' E1 = some (dS ((zs.take i).map fun n => (n, (look (leaves cs zs) n).getD [])))) ⟨(Le.refl L9.tab).new hE1, upd_same⟩ (fun i H10 hi ⟨L10, h10⟩ => ⟨Itl_go (SqL.of (L10.at hz9)) (by rw [List.length_map]; exact hi), ?_⟩) (fun H10 ⟨L10, h10⟩ => ⟨Itl_stop (SqL.of (L10.at hz9)) (by rw [List.length_map]; exact Nat.le_refl _), ?_⟩)
            · intro x H11 hy
              obtain ⟨rfl, hx⟩ := Itl_yld (SqL.of (L10.at hz9)) hy
              obtain ⟨n, hn, rfl⟩ := get_map hx
              obtain ⟨v, hv, _⟩ := look_mem (pn.mem_iff.mpr (List.mem_of_getElem? hn))
              refine ⟨rfl, ?_⟩
              refine yes_ ?_
              refine iteT ?_
              refine ⟨_, rfl, _, rfl, _, rfl, tb, _, rfl, dget_of (L10.at hb9) hv, _, Sum.inr n, rfl, h10, ?_, L10.set hE1 h10, ?_⟩
              · rw [ents_len, List.length_map, List.length_take]
                exact Nat.lt_of_lt_of_le (show min i zs.length < 64 by omega) (by decide)
              · rw [upd_same, take_snoc hn, List.map_append]
                have hnot : ¬ n ∈ (((zs.take i).map fun n => (n, (look (leaves cs zs) n).getD [])) : Codes).map (·.1) := by
                  rw [List.map_map]
                  intro z
                  have z : n ∈ zs.take i := by
                    obtain ⟨y, hy, e⟩ := List.mem_map.mp z
                    have e : y = n := e
                    rw [← e]; exact hy
                  have nd2 := ndn
                  rw [← List.take_append_drop (i + 1) zs, take_snoc hn] at nd2
                  exact (List.nodup_append.mp (List.nodup_append.mp nd2).1).2.2 _ z _ (by simp) rfl
                have e2 : v = (look (leaves cs zs) n).getD [] := by rw [hv]; rfl
                rw [e2]
                exact congrArg some (congrArg HO.dK (put_ents sV hnot _))
            · rw [List.take_of_length_le (Nat.le_refl _)] at h10
              have e : (zs.map fun n => (n, (look (leaves cs zs) n).getD [])) = short cs zs := by
                unfold short
                rw [if_neg (by rw [hnl]; exact hone)]
              rw [e] at h10
              exact hqn _ E1 ((LA.trans L9).trans L10) ((LA.trans L9).no _ hE1) h10
      | succ k =>
        rw [decide_eq_true (show (1 : Int) < ((k + 1 + 1 : Nat) : Int) by omega)]
        refine iteT ?_
        have hq7' : H7 q = some (.lst ((L.map fun x => (x.1, x.2.1, x.2.2.1)).map fun x => V.ref x.1)) := by rw [hq7, List.map_map]; rfl
        refine ⟨_, rfl, q, L.map (fun x => (x.1, x.2.1, x.2.2.1)), rfl, rfl, SqL.of hq7', fun x hx => ?_, fun p2 hp2 => ?_⟩
        · obtain ⟨y, hy, rfl⟩ := List.mem_map.mp hx
          obtain ⟨a, h1, _⟩ := hL y hy
          exact ⟨_, h1⟩
        have em : (L.map fun x => (x.1, x.2.1, x.2.2.1)).mergeSort le2 = (L.mergeSort fun x y => leH x.2 y.2).map fun x => (x.1, x.2.1, x.2.2.1) := (List.map_mergeSort (f := fun x : Addr × Hh => (x.1, x.2.1, x.2.2.1)) (r := fun x y => leH x.2 y.2) (s := le2) (l := L) fun a _ b _ => rfl).symm
        have eh : (L.mergeSort fun x y => leH x.2 y.2).map (·.2) = hs.mergeSort leH := by rw [← eL]; exact List.map_mergeSort (f := fun x : Addr × Hh => x.2) (r := fun x y => leH x.2 y.2) (s := leH) (l := L) fun a _ b _ => rfl
        have hm : ∀ x ∈ L.mergeSort fun x y => leH x.2 y.2, x ∈ L := fun x hx => (List.mergeSort_perm L _).mem_iff.mp hx
        have lm : (L.mergeSort fun x y => leH x.2 y.2).length = k + 2 := by rw [List.length_mergeSort]; omega
        rw [em, List.map_map]
        generalize (L.mergeSort fun x y => leH x.2 y.2) = M at eh hm lm
        match M, lm, eh, hm with
        | ma :: mb :: mr, lm, eh, hm =>
          have L8 := L7.new (o := .lst ((ma :: mb :: mr).map fun x => V.ref x.1)) hp2
          obtain ⟨aa, ha1, ha2⟩ := Le.heap ((Le.refl L7.tab).new (o := .lst ((ma :: mb :: mr).map fun x => V.ref x.1)) hp2) (hL ma (hm ma List.mem_cons_self))
          obtain ⟨ab, hb1, hb2⟩ := Le.heap ((Le.refl L7.tab).new (o := .lst ((ma :: mb :: mr).map fun x => V.ref x.1)) hp2) (hL mb (hm mb (List.mem_cons_of_mem _ List.mem_cons_self)))
          have hr8 : ∀ x ∈ mr, isHeap (upd H7 p2 (.lst ((ma :: mb :: mr).map fun x => V.ref x.1))) x.1 x.2 := fun x hx => Le.heap ((Le.refl L7.tab).new hp2) (hL x (hm x (List.mem_cons_of_mem _ (List.mem_cons_of_mem _ hx))))
          have hp8 : upd H7 p2 (.lst ((ma :: mb :: mr).map fun x => V.ref x.1)) p2 = some (.lst ((ma :: mb :: mr).map fun x => V.ref x.1)) := upd_same
          show tSeq _ _ _ _ (upd H7 p2 (.lst ((ma :: mb :: mr).map fun x => V.ref x.1)))
          generalize upd H7 p2 (.lst ((ma :: mb :: mr).map fun x => V.ref x.1)) = H8 at L8 ha1 ha2 hb1 hb2 hr8 hp8
          refine ⟨_, rfl, p2, _, _, _, rfl, rfl, SqL.of hp8, atI_nat (j := 0) rfl, _, rfl, p2, _, _, _, rfl, rfl, SqL.of hp8, atI_nat (j := 1) rfl, _, _, rfl, ?_⟩
          refine ⟨_, rfl, _, _, rfl, rfl, ?_⟩
          have eH : hs.mergeSort leH = ma.2 :: mb.2 :: mr.map (·.2) := by rw [← eh]; rfl
          have hmemM : ∀ h, h ∈ ma.2 :: mb.2 :: mr.map (·.2) → h ∈ hs := fun h hh => (List.mergeSort_perm hs leH).mem_iff.mp (by rw [eH]; exact hh)
          have small : ∀ h ∈ hs, ∀ x ∈ h.2.2, x.2.length ≤ 1000 := fun h hh x hx => Nat.le_trans (hll h hh x hx) (by omega)
          have perm : ((allC hs).map (·.1)).Perm ns := hjn
          have lenc : ∀ h ∈ hs, h.2.2.length < 64 := fun h hh => by
            have h1 := perm.length_eq
            rw [List.length_map] at h1
            have h2 : h.2.2.length ≤ (allC hs).length := (List.sublist_flatten_of_mem ((List.mem_map (f := fun h : Hh => h.2.2)).mpr ⟨h, hh, rfl⟩)).length_le
            omega
          have mA := hmemM _ List.mem_cons_self
          have mB := hmemM _ (List.mem_cons_of_mem _ List.mem_cons_self)
          refine ⟨_, rfl, ma.1, _, _, _, rfl, rfl, SqT.of ha1, atI_nat (j := 2) rfl, aa, rfl, ⟨_, SqL.of ha2.choose_spec.1⟩, fun D1 hD1 => ?_⟩
          refine lc_pre (K := K) (c := 48) (z := "0") rfl L8.tab ha2 (lenc _ mA) (small _ mA) hD1 fun H9 L9 hc9 => ?_
          refine ⟨_, rfl, mb.1, _, _, _, rfl, rfl, SqT.of (L9.at hb1), atI_nat (j := 2) rfl, ab, rfl, ⟨_, SqL.of (Le.codes L9 hb2).choose_spec.1⟩, fun D2 hD2 => ?_⟩
          refine lc_pre (K := K) (c := 49) (z := "1") rfl L9.tab (Le.codes L9 hb2) (lenc _ mB) (small _ mB) hD2 fun H10 L10 hc10 => ?_
          obtain ⟨R1, r1, r2, r3⟩ := Le.codes L10 hc9
          obtain ⟨R2, t1, t2, t3⟩ := hc10
          have lR : R1.length + R2.length < 128 := by
            have h1 := congrArg List.length r3
            have h2 := congrArg List.length t3
            have h3 := lenc _ mA
            have h4 := lenc _ mB
            unfold pre at h1 h2
            rw [List.length_map, List.length_map] at h1 h2
            omega
          refine ⟨D1, D2, _, _, rfl, rfl, r1, t1, by rw [List.length_map, List.length_map]; exact Nat.le_trans (Nat.le_of_lt lR) (by decide), fun p3 hp3 => ?_⟩
          have L11 := L10.new (o := .lst (R1.map (fun x => V.ref x.1) ++ R2.map (fun x => V.ref x.1))) hp3
          have c11 : isCodes (upd H10 p3 (.lst (R1.map (fun x => V.ref x.1) ++ R2.map (fun x => V.ref x.1)))) p3 (pre 48 ma.2.2.2 ++ pre 49 mb.2.2.2) := by
            refine ⟨R1 ++ R2, by rw [upd_same, List.map_append], fun x hx => ?_, by rw [List.map_append, r3, t3]⟩
            rcases List.mem_append.mp hx with hx | hx
            · exact (upd_ne (ne_of_none (r2 x hx) hp3)).trans (r2 x hx)
            · exact (upd_ne (ne_of_none (t2 x hx) hp3)).trans (t2 x hx)
          have LC := L9.trans L11
          show tSeq _ _ _ _ (upd H10 p3 (.lst (R1.map (fun x => V.ref x.1) ++ R2.map (fun x => V.ref x.1))))
          generalize upd H10 p3 (.lst (R1.map (fun x => V.ref x.1) ++ R2.map (fun x => V.ref x.1))) = H11 at L11 c11 LC
          refine ⟨_, rfl, _, rfl, p2, _, rfl, SqL.of (LC.at hp8), fun p4 hp4 => ?_⟩
          have hcut : cutV ((ma :: mb :: mr).map fun x => V.ref x.1) (some 2) none = mr.map fun x => V.ref x.1 := cutV_drop _ 2
          rw [hcut]
          have L12 := LC.new (o := .lst (mr.map fun x => V.ref x.1)) hp4
          have L12' := L11.tab
          have c12 := Le.codes ((Le.refl L11.tab).new (o := .lst (mr.map fun x => V.ref x.1)) hp4) c11
          have hp12 : upd H11 p4 (.lst (mr.map fun x => V.ref x.1)) p4 = some (.lst (mr.map fun x => V.ref x.1)) := upd_same
          generalize upd H11 p4 (.lst (mr.map fun x => V.ref x.1)) = H12 at L12 c12 hp12
          refine ⟨_, rfl, ma.1, _, _, _, rfl, rfl, SqT.of (L12.at ha1), atI_nat (j := 0) rfl, _, rfl, mb.1, _, _, _, rfl, rfl, SqT.of (L12.at hb1), atI_nat (j := 0) rfl, _, _, rfl, rfl, _, rfl, _, rfl, by show 3 ≤ sizeLine; decide, fun t ht => ?_⟩
          have L13 := L12.new (o := .tup [.int (ma.2.1 + mb.2.1), .int (turn - 1), .ref p3]) ht
          have h13 : isHeap (upd H12 t (.tup [.int (ma.2.1 + mb.2.1), .int (turn - 1), .ref p3])) t (ma.2.1 + mb.2.1, turn - 1, pre 48 ma.2.2.2 ++ pre 49 mb.2.2.2) := ⟨p3, upd_same, Le.codes ((Le.refl L12.tab).new ht) c12⟩
          have hp13 : upd H12 t (.tup [.int (ma.2.1 + mb.2.1), .int (turn - 1), .ref p3]) p4 = some (.lst (mr.map fun x => V.ref x.1)) := (upd_ne (ne_of_none hp12 ht)).trans hp12
          refine ⟨by show 1 ≤ sizeLine; decide, fun l hln => ?_⟩
          generalize upd H12 t (.tup [.int (ma.2.1 + mb.2.1), .int (turn - 1), .ref p3]) = H13 at L13 h13 hp13 hln
          have hnl2 : mr.length < 64 := by rw [List.length_cons, List.length_cons] at lm; omega
          refine ⟨p4, l, _, _, rfl, rfl, (upd_ne (ne_of_none hp13 hln)).trans hp13, upd_same, by rw [List.length_map]; exact Nat.le_trans (show mr.length + 1 ≤ 64 by omega) (by decide), fun p5 hp5 => ?_⟩
          have L14 := (L13.new (o := .lst [.ref t]) hln).new (o := .lst (mr.map (fun x => V.ref x.1) ++ [.ref t])) hp5
          have L14' := ((Le.refl L13.tab).new (o := .lst [.ref t]) hln).new (o := .lst (mr.map (fun x => V.ref x.1) ++ [.ref t])) hp5
          refine ⟨⟨k, p5, mr.map (·.2) ++ [(ma.2.1 + mb.2.1, turn - 1, pre 48 ma.2.2.2 ++ pre 49 mb.2.2.2)], turn - 1, some (.ref ma.1), some (.ref mb.1), some (.ref p3), rfl, L8.trans L14, ?_, by omega, ?_, ?_, by omega, ?_, ?_⟩, ?_⟩
          · refine ⟨mr ++ [(t, (ma.2.1 + mb.2.1, turn - 1, pre 48 ma.2.2.2 ++ pre 49 mb.2.2.2))], by rw [upd_same, List.map_append]; rfl, fun x hx => ?_, by rw [List.map_append]; rfl⟩
            rcases List.mem_append.mp hx with hx | hx
            · exact Le.heap L14 (hr8 x hx)
            · rw [List.mem_singleton.mp hx]; exact Le.heap L14' h13
          · rw [List.length_append, List.length_map, List.length_singleton]
            rw [List.length_cons, List.length_cons] at lm
            omega
          · rw [htree]
            simp only [join, eH]
          · refine (names_join (n := (ma.2.1 + mb.2.1, turn - 1))).trans ?_
            rw [← eH]
            exact (names_sort hs).trans perm
          · intro h hh x hx
            rcases List.mem_append.mp hh with hh | hh
            · have := hll h (hmemM h (List.mem_cons_of_mem _ (List.mem_cons_of_mem _ hh))) x hx
              omega
            · rw [List.mem_singleton.mp hh] at hx
              have hx : x ∈ pre 48 ma.2.2.2 ++ pre 49 mb.2.2.2 := hx
              rcases List.mem_append.mp hx with hx | hx
              · obtain ⟨y, hy, rfl⟩ := List.mem_map.mp hx
                have := hll _ mA y hy
                show y.2.length + 1 ≤ _
                omega
              · obtain ⟨y, hy, rfl⟩ := List.mem_map.mp hx
                have := hll _ mB y hy
                show y.2.length + 1 ≤ _
                omega
          · show (turn - 1).toNat < turn.toNat
            omega
end
end K1

-- text SmX
set_option maxRecDepth 100000
set_option maxHeartbeats 4000000
/-! SmX: list(text), a sign times a number, sorted(d.values()). -/
namespace GX
open PySem PySem.Spec PyProof.Rows L2 LamX
section
variable {X : Cx}
theorem signs_vals {l : List Nat} : ∀ {us : List Value}, us.length = l.length → (∀ (j : Nat) (v : Value), us[j]? = some v → ∃ c t, l[j]? = some c ∧ v = .str (S [c]) t) → Vals (l.map fun c => V.str (S [c])) us := by
  induction l with
  | nil =>
    intro us h _
    match us, h with
    | [], _ => exact .nil
  | cons c r ih =>
    intro us h hv
    match us, h with
    | u :: us, h =>
      obtain ⟨c2, t, e1, e2⟩ := hv 0 u rfl
      have e1 : c = c2 := by simpa using e1
      subst e1
      exact .cons ⟨t, e2⟩ (ih (by simpa using h) fun j v e => by
        obtain ⟨c3, t3, a, b⟩ := hv (j + 1) v (by simpa using e)
        exact ⟨c3, t3, by simpa using a, b⟩)
/-- list(s) -/
theorem cr_listS (hc : X.calm = true) : CallR X (.type "list") (fun xs H Q => ∃ l : List Nat, xs = [.str (S l)] ∧ l.length ≤ 1000 ∧ ∀ p, H p = none → Q (.ref p) (upd H p (.lst (l.map fun c => V.str (S [c]))))) := by
  intro pins s σ H xs us Q I r h
  obtain ⟨l, rfl, hl, hq⟩ := h
  obtain ⟨u, rfl, t, rfl⟩ := vals1 r
  have hsz : (S l).cps.size ≤ sizeLine := by
    have e : (S l).cps.size = l.length := S_len l
    rw [e]
    exact Nat.le_trans hl (by decide)
  refine call_list_str (I.ok.hd hc) (S l) t (hn := hsz) fun h' tk acc c kp hS hacc => ?_
  have hlen : acc.toList.length = l.length := by rw [Array.length_toList, hacc.1]; exact S_len l
  refine ⟨.ref s.heap.objs.size, upd H s.heap.objs.size (.lst (l.map fun c => V.str (S [c]))), I.laid (t' := tk) kp (Nat.le_refl _) ⟨by rw [List.length_map]; exact Nat.le_trans hl (by decide), acc.toList, c, signs_vals hlen fun j v e => ?_, hS⟩, rfl, hq _ (I.hok.fresh (Nat.le_refl _))⟩
  obtain ⟨c2, t2, e1, e2⟩ := hacc.2 j v (by rw [← Array.getElem?_toList]; exact e)
  exact ⟨c2, t2, by have : (S l).cps.toList[j]? = some c2 := by rw [Array.getElem?_toList]; exact e1
                    rw [S_cps] at this; exact this, e2⟩
theorem rep_sign (c n : Nat) : (List.replicate n (S [c]).cps).foldl (· ++ ·) #[] = (List.replicate n c).toArray := by
  have key : ∀ (m : Nat) (a : Array Nat), (List.replicate m (S [c]).cps).foldl (· ++ ·) a = a ++ (List.replicate m c).toArray := by
    intro m
    induction m with
    | zero => intro a; simp
    | succ m ih =>
      intro a
      rw [List.replicate_succ, List.foldl_cons, ih, List.replicate_succ]
      apply Array.ext'
      simp [S]
  rw [key]
  simp
/-- a sign times a number -/
theorem op_mulSign : OpR X (binaryOp .Mult) (fun x y H Q => ∃ c n : Nat, x = .str (S [c]) ∧ y = .int (n : Int) ∧ n ≤ 1000 ∧ Q (.str (S (List.replicate n c))) H) := by
  intro pins s σ H x y v u Q I rx ry h
  obtain ⟨c, n, rfl, rfl, hn, hq⟩ := h
  obtain ⟨t, rfl⟩ := rx
  obtain ⟨t2, rfl⟩ := ry
  have hl : (S [c]).length = 1 := S_len _
  refine P.mul_str (by simp; omega) (fun _ _ => ?_) (fun _ _ => ?_) ?_
  · rw [hl]
    have h1 : ((n : Int)) ≤ 1000 := by omega
    intro z
    have h0 : (1 : Int) ≤ (n : Int) := by omega
    have : (2 : Int) ≤ (2 ^ 63 - 1) / (n : Int) := (Int.le_ediv_iff_mul_le (by omega)).mpr (by omega)
    omega
  · rw [hl]
    unfold PySem.Builtin.Str.tooLong
    have : n ≤ sizeLine := Nat.le_trans hn (by decide)
    simp
    omega
  · have I2 := I.tok (s.toks + 1)
    by_cases h0 : n = 0
    · subst h0
      rw [if_pos (by decide)]
      exact ⟨by decide, .str (S (List.replicate 0 c)), H, I2, ⟨_, rfl⟩, hq⟩
    · rw [if_neg (by omega)]
      by_cases h1 : n = 1
      · subst h1
        rw [if_pos (by simp)]
        exact ⟨.str (S [c]), H, I, ⟨_, rfl⟩, hq⟩
      · rw [if_neg (by rw [hl]; simp; omega), show ((n : Int)).toNat = n by omega, rep_sign]
        exact ⟨by show (S (List.replicate n c)).length ≤ sizeLine; rw [S_len, List.length_replicate]; exact Nat.le_trans hn (by decide), .str (S (List.replicate n c)), H, I2, ⟨_, rfl⟩, hq⟩
theorem int_vals : ∀ {kvs : List (Key × V)} {vs : List (Key × Value)} {is : List Int}, KV kvs vs → kvs.map (·.2) = is.map V.int → IntsAre (vs.map (·.2)) is := by
  intro kvs
  induction kvs with
  | nil =>
    intro vs is rel e
    cases rel
    cases is with
    | nil => exact .nil
    | cons a r => cases e
  | cons p r ih =>
    intro vs is rel e
    cases is with
    | nil => cases e
    | cons a r2 =>
      cases rel with
      | cons h t =>
        have e1 : p.2 = V.int a := by injection e
        have e2 : r.map (·.2) = r2.map V.int := by injection e
        obtain ⟨h1, h2⟩ := h
        rw [e1] at h2
        obtain ⟨tk, h3⟩ := h2
        rw [List.map_cons, h3]
        exact .cons _ _ (ih t e2)
/-- the reading of sorted(d.values()), d's values whole numbers -/
def tSortVals (td : TE) : TE := fun σ H Q => td σ H fun x H1 => ∃ a kvs is, x = V.ref a ∧ H1 a = some (.dK kvs) ∧ kvs.map (·.2) = is.map V.int ∧ is.length < 64 ∧
  ∀ (ns : List Int) p, ns.Perm is → ns.Pairwise (· ≤ ·) → H1 p = none → Q (.ref p) (upd H1 p (.lst (ns.map V.int)))
variable {o : Expr} {td : TE} {p pos apos mpos : Pos}
theorem pe_sortVals (hc : X.calm = true) (hg : Gl X "sorted") (hm : X.mg "sorted" = none) (hd : PE X o td) (hbase : attributeBase o "values" X.env (eval o X.env) = eval o X.env := by rfl) (hline : (apos.endLine == mpos.line) = true := by rfl)
    (hse : starEach [Expr.Call (.Attribute o "values" apos) [] [] mpos] X.env = [(false, eval (Expr.Call (.Attribute o "values" apos) [] [] mpos) X.env)] := by rfl) :
    PE X (.Call (.Name "sorted" p) [.Call (.Attribute o "values" apos) [] [] mpos] [] pos) (tSortVals td) := by
  refine ⟨fun pins s σ H Q I h => ?_⟩
  refine wpAny_Call_Name_kw (ld_blt I hg hm (u := .builtin "sorted") (by first | rfl | decide +kernel) ?_ (by first | decide +kernel | decide) (by first | decide +kernel | decide))
  rw [hse]
  refine PySem.callWith_builtin1 (wpAny_Call_method0_late hbase hline (thn (hd.run pins s σ H _ I h) fun v s1 ⟨x, H1, I1, r1, a, kvs, is, ex, ha, hv, h64, q⟩ => ?_))
  subst ex
  obtain rfl : v = Value.ref a := r1
  obtain ⟨_, hsys, vs, rel, dof⟩ := dk_of I1.hok ha
  obtain ⟨ep, dat⟩ := dof.dictAt
  obtain ⟨ob, es, ho, ex, hdat, hko, hpr, hnd⟩ := id dat
  refine ⟨"dict", "dict.values", F.plainAttrs_dict, F.slot_dict_values, F.type_dict_values, ⟨ob, ho, ex.1⟩, fun b e => by cases e; exact ⟨ob, ho, ex.2.1⟩, Calls.callWith_builtin rfl (PySem.evalArgs_none ?_)⟩
  refine call_meetsIn F.slot_dict_values ⟨ob, ho, ex.1⟩ F.entry_dict_values (F.args_dict_values_1 _) (meets_dict_values (mixKind X.prog X.w) a hsys) ⟨⟨vs, dof⟩, ?_⟩
  have k1 : ∀ b u, s1.heap.get? b = some u → (s1.heap.push { cls := .type "dict_values", data := .fields #[.ref a] }).get? b = some u := fun b u e => Heap.get?_push_of_some _ e
  have hiv := int_vals rel hv
  have hln : vs.length = is.length := by have := hiv.length; rw [List.length_map] at this; exact this
  refine Calls.call_function_entry PyProof.Rows.kind_sorted PyProof.Rows.plain_sorted PyProof.Rows.entry_sorted (PyProof.Rows.args_sorted1 _) ?_
  unfold Builtin.«sorted»
  refine wpAny_bind (m := checkCount "sorted" 1 1 _) (wpAny_pure ?_)
  refine wpAny_bind (PySem.W.kdu_collect (A := X.A.in1) (PySem.W.kdl_values (knd := mixKind X.prog X.w) (r := s1.heap.objs.size) (d := a) (kvs := vs) (ep := ep)) (I1.ok.hd hc) ⟨⟨_, Heap.get?_push_size _ rfl, rfl, rfl⟩, dat.keep k1⟩ (by rw [hln]; exact small64 h64) fun h' tk acc hk hacc => ?_)
  have eacc : acc.toList = vs.map (·.2) := PySem.W.kdl_vals_eq _ (by rw [Array.length_toList]; exact hacc.1) fun j v e => hacc.2 j v (by rw [← Array.getElem?_toList]; exact e)
  have hI : IntsAre acc.toList is := by rw [eacc]; exact hiv
  have hl64 : acc.toList.length < 64 := by rw [eacc, List.length_map, hln]; exact h64
  refine wpAny_bind (wpAny_newList ?_ (Nat.le_trans (Nat.le_of_lt hl64) (by decide)))
  have hoL : (h'.push (seqObj "list" acc.toList.toArray 0)).get? h'.objs.size = some (seqObj "list" acc.toList.toArray 0) := Heap.get?_push_size _ rfl
  show wpAny _ _ _ _ _ { s1 with heap := h'.push (seqObj "list" acc.toList.toArray 0), toks := tk }
  refine wpAny_bind (wpAny_holding (wpAny_call_entry slot_list_sort ⟨_, hoL, rfl⟩ entry_list_sort (list_sort_tree hoL hI hl64 fun out ns' a1 a2 a3 => ⟨_, rfl, ?_⟩) (args_list_sort _)))
  have I2 : Inv X pins σ H1 { s1 with heap := h', toks := tk } := I1.kept fun b u e => hk b u (k1 b u e)
  obtain ⟨e', he'⟩ := PyProof.Rows.sortedHeap_at (vs := acc.toList) (out := out) hoL
  have hlen : (ns'.map V.int).length ≤ sizeLine := by rw [List.length_map, a2.length_eq]; exact small64 h64
  refine wpAny_pure ⟨_, rfl, .ref h'.objs.size, upd H1 h'.objs.size (.lst (ns'.map V.int)), I2.laid (t' := tk) (fun b u e => ?_) (Nat.le_refl _) ⟨hlen, out.toList, e', vals_of_ints a1, by rw [Array.toArray_toList]; exact he'⟩, rfl, q ns' _ a2 a3 (I2.hok.fresh (Nat.le_refl _))⟩
  have hb : b < h'.objs.size := Heap.lt_size e
  rw [PyProof.Rows.sortedHeap_old (Nat.ne_of_lt hb) (by rw [size_push']; exact Nat.lt_succ_of_lt hb)]
  exact Heap.get?_push_of_some _ e
end
end GX

-- text Tix
set_option maxRecDepth 100000
set_option maxHeartbeats 4000000
/-! Tix: a tuple made from a list, and its index(..). -/
namespace GX
open PySem PySem.Spec PyProof.Rows L2 LamX
section
variable {X : Cx}
/-- tuple(xs), xs a list: the new tuple's object is known -/
def rTupF (K : PySem.W.Frag) : List V → Hp → VK → Prop := fun vs H Q => ∃ p ys, vs = [.ref p] ∧ SqL K H p ys ∧ ∀ t ob, ob.dict = none → H t = none → Q (.ref t) (upd H t (.frz ob (.tup ys)))
theorem cr_tupF : CallR X (.type "tuple") (rTupF X.K) := by
  intro pins s σ H xs us Q I r h
  obtain ⟨p, ys, rfl, hq, q⟩ := h
  obtain ⟨u, rfl, rx⟩ := vals1 r
  cases rx
  obtain ⟨its, rv, isl, hz⟩ := I.list hq
  have hlen := rv.length
  refine call_tuple_list isl.isList (fun hh keep => ?_) (by simp only [List.size_toArray] <;> omega)
  have J := I.kept (t' := s.toks) keep
  exact ⟨.ref hh.objs.size, _, J.laid (t' := s.toks) (o := .frz { cls := .type "tuple", data := .seq its.toArray } (.tup ys)) (fun b o e => Heap.get?_push_of_some _ e) (Nat.le_refl _) ⟨Heap.get?_push_size _ rfl, hz, its, rv, IsTup.new _ _⟩, rfl, q _ _ rfl (J.hok.fresh (Nat.le_refl _))⟩
variable {o e : Expr} {es : List Expr} {to : TE} {t : TA} {apos cpos : Pos} {r : V → List V → Hp → VK → Prop}
def tTix (r : V → List V → Hp → VK → Prop) (to : TE) (t : TA) : TE := fun σ H Q => to σ H fun x H1 => (∃ p ob xs, x = .ref p ∧ H1 p = some (.frz ob (.tup xs)) ∧ ob.dict = none) ∧ t σ H1 fun xs H2 => r x xs H2 Q
/-- t.index(x) of such a tuple -/
theorem pe_tix (hm : MtR X "tuple.index" r) (ho : PE X o to) (ha : PA X (e :: es) t) (hbase : attributeBase o "index" X.env (eval o X.env) = eval o X.env := by rfl)
    (hfew : ((backTo cpos (starEach (e :: es) X.env)).all (fun x => !x.1) && (backToKw cpos (keywordEach [] X.env)).all (fun x => x.1.isSome)
      && decide ((e :: es).length + ([] : List Keyword).length + (if ([] : List Keyword).isEmpty then 0 else 1) < 30)) = true := by rfl)
    (hline : (apos.endLine == cpos.line) = true := by rfl) (hs : starEach (e :: es) X.env = (false, eval e X.env) :: starEach es X.env := by rfl) (hplain : (backTo cpos (starEach es X.env)).any (·.1) = false := by rfl) :
    PE X (.Call (.Attribute o "index" apos) (e :: es) [] cpos) (tTix r to t) := by
  refine ⟨fun pins s σ H Q I h => wpAny_Call_method_late hbase hfew hline rfl (thn (ho.run pins s σ H _ I h) fun v s1 ⟨x, H1, I1, r1, ⟨p, ob, xs, ex, hp, hob⟩, q1⟩ => ?_)⟩
  subst ex
  obtain rfl : v = Value.ref p := r1
  obtain ⟨hg, _, its, _, tp⟩ := (show ObjOk X.prog X.w H1 s1.heap p (.frz ob (.tup xs)) from I1.hok p _ hp)
  obtain ⟨o2, g2, c2, _⟩ := tp
  have go := ha.run cpos pins s1 σ H1 _ I1 q1
  rw [hs] at go ⊢
  refine ⟨"tuple", "tuple.index", PySem.F.plainAttrs_tuple, PySem.F.slot_tuple_index, PySem.F.type_tuple_index, ⟨o2, g2, c2⟩, fun a ea => ?_, ?_⟩
  · cases ea
    exact ⟨ob, hg, hob⟩
  · refine Calls.callWith_builtin (by show (false || (backTo cpos (starEach es X.env)).any (·.1)) = false; rw [hplain] <;> rfl) (Calls.evalArgs_plain ?_)
    exact thn go fun us s2 ⟨ws, H2, I2, r2, q2⟩ => hm pins s2 σ H2 (.ref p) ws _ us Q I2 rfl r2 q2
end
end GX

-- text K1G
set_option maxRecDepth 100000
set_option maxHeartbeats 4000000
namespace K1
open PySem PySem.Spec PyProof.Rows L2 LamX GX
section
variable {P : Program} {w : World} {K : PySem.W.Frag} {mg : Str → Option Value} {base : Heap}
/-! ### Book -/
abbrev aBk (K : PySem.W.Frag) : Addr := He.ga K "Book"
abbrev bkF (n : Nat) (t : Addr) : List (Str × V) := [("shutters", .int (n : Int)), ("words", .ref t)]
def isBook (K : PySem.W.Frag) (H : Hp) (b : Addr) (n : Nat) (ws : List (List Nat)) : Prop := ∃ dx t ob, H b = some (.ins (aBk K) dx (bkF n t)) ∧ H t = some (.frz ob (.tup (ws.map sV))) ∧ ob.dict = none
theorem Le.book {T : List (Addr × Str)} {H H' : Hp} {b : Addr} {n : Nat} {ws : List (List Nat)} (x : Le T H H') (h : isBook K H b n ws) : isBook K H' b n ws := by
  obtain ⟨dx, t, ob, h1, h2, h3⟩ := h
  exact ⟨dx, t, ob, x.at h1, x.at h2, h3⟩
theorem inV_words (x : List Nat) : ∀ ws : List (List Nat), inV (sV x) (ws.map sV) = decide (x ∈ ws)
  | [] => by simp [inV]
  | y :: r => by
    have ih := inV_words x r
    unfold inV at ih ⊢
    rw [List.map_cons, List.any_cons, ih]
    have e : eqV (sV y) (sV x) = decide (x = y) := by
      show ((S y : Str) == S x) = _
      by_cases h : x = y
      · rw [h, decide_eq_true rfl]; exact beq_self_eq_true _
      · rw [decide_eq_false h]
        exact beq_false_of_ne fun z => h (S_inj z).symm
    rw [e]
    by_cases h : x = y <;> simp [h]
theorem flat_words (ws : List (List Nat)) : (ws.map sV).all flatV = true := by
  rw [List.all_map]
  exact List.all_eq_true.mpr fun _ _ => rfl
/-- p by twos, k signs -/
def bits (p : Nat) : Nat → List Nat
  | 0 => []
  | k + 1 => (48 + p / 2 ^ k % 2) :: bits p k
theorem bits_len (p : Nat) : ∀ k, (bits p k).length = k
  | 0 => rfl
  | k + 1 => by show (bits p k).length + 1 = _; rw [bits_len p k]
def spSign (K : PySem.W.Frag) : Sp := fun vs H Q E => ∃ (b : Addr) (n : Nat) (ws : List (List Nat)) (x : List Nat), vs = [.ref b, .str (S x)] ∧ isBook K H b n ws ∧ Tabs (T K) H ∧ n ≤ 10 ∧
  (x ∉ ws → ∀ H', Le (T K) H H' → E (.ref (aCE K)) none H') ∧ (∀ p : Nat, ws[p]? = some x → (∀ m : Nat, m < p → ws[m]? ≠ some x) → ∀ H', Le (T K) H H' → Q (.str (S (bits p n))) H')
theorem first_at {α : Type} [DecidableEq α] {x : α} : ∀ {l : List α}, x ∈ l → ∃ p : Nat, l[p]? = some x ∧ ∀ m : Nat, m < p → l[m]? ≠ some x
  | y :: r, h => by
    by_cases e : y = x
    · exact ⟨0, by rw [e]; rfl, fun m hm => absurd hm (Nat.not_lt_zero m)⟩
    · obtain ⟨p, h1, h2⟩ := first_at (List.mem_of_ne_of_mem (fun z => e z.symm) h)
      refine ⟨p + 1, h1, fun m hm => ?_⟩
      cases m with
      | zero => intro z; exact e (Option.some.inj z)
      | succ m => exact h2 m (by omega)
theorem ok_sign (C : Ctx K mg base) : MetX P w K mg base 2 (aBk K) "sign" ["self", "word"] (spSign K) := by
  obtain ⟨fd, F⟩ := C.d.d_Book_sign
  refine ⟨_, fd, ?_, F.funD.bindsN fun _ _ _ _ _ _ us hl => (match us, hl with | [_, _], _ => rfl), C.t.t_Book_sign, C.t.c_Book⟩
  refine F.ok sc_Book_sign (fun vs H Q E h => ?_) (fun A outer s H vs Q E hr h => ?_)
  · obtain ⟨b, n, ws, x, rfl, _⟩ := h
    rfl
  · obtain ⟨b, n, ws, x, rfl, ⟨dx, t, ob, hb, hf, hob⟩, hT, hn, hno, hq⟩ := h
    obtain ⟨e1, e2, e3, e4⟩ := C.t.e_CodeError
    have nn := sc_Book_sign.nd
    have ht : SqT K H t (ws.map sV) := .inl (.inr ⟨ob, hf⟩)
    refine ⟨_, pss_cons (ps_if (pt_cmpR op_notIn_seq (pv 1) (pe_fld (pv 0) rfl) rfl) (pss_one (ps_raise rfl takesA (pmk_own PySem.F.excBase_ValueError e1 C.t.m_CodeError e2 (raises_own e3 e4) (by rfl)))) pss_nil)
      (pss_cons (ps_par (i := 2) (j := 3) (by rfl) nn rfl rfl (by decide) rfl rfl (pa_cons (pe_tix mt_tup_index (pe_fld (pv 0) rfl) (pa_cons (pv 1) pa_nil)) (pa_cons pe_str pa_nil)) (by rfl))
      (pss_cons (ps_for ownsA rfl (pi_range1 (by rfl) C.t.b_range (pa_cons (pe_fld (pv 0) rfl) pa_nil)) (pg_name (i := 4) nn rfl (Or.inl rfl))
        (pss_cons (ps_set (i := 3) nn rfl (Or.inl rfl) (pe_op op_add_str (pe_callTy call_str_int (by rfl) C.t.b_str (by decide +kernel) (pa_cons (pe_op op_mod (pv 2) pe_int) pa_nil)) (pv 3)))
        (pss_one (ps_aug (i := 2) nn rfl (Or.inl rfl) pe_int iop_fdiv))))
      (pss_one (ps_ret (pv 3))))), ?_⟩
    refine ⟨_, rfl, _, rfl, b, _, dx, _, _, rfl, hb, C.t.c_Book, C.t.a_Book_words, rfl, t, _, rfl, .inr ht, rfl, flat_words ws, _, rfl, ?_⟩
    show (if (!inV (sV x) (ws.map sV)) = true then _ else _)
    rw [inV_words]
    by_cases hx : x ∈ ws
    · rw [decide_eq_true hx]
      refine iteF ?_
      obtain ⟨p, hp, hfst⟩ := first_at hx
      have hq := hq p hp hfst
      have hws : ws.map sV = (ws.map S).map V.str := by rw [List.map_map]; rfl
      have hw2 : SqT K H t ((ws.map S).map V.str) := by rw [← hws]; exact ht
      refine ⟨_, rfl, b, _, dx, _, _, rfl, hb, C.t.c_Book, C.t.a_Book_words, rfl, ⟨t, ob, _, rfl, hf, hob⟩, _, rfl, t, ws.map S, S x, p, rfl, rfl, hw2, by rw [List.getElem?_map, hp]; rfl, ?_, _, _, rfl, ?_⟩
      · intro m hm z
        rw [List.getElem?_map] at z
        obtain ⟨y, h1, h2⟩ := Option.map_eq_some_iff.mp z
        exact hfst m hm (by rw [h1, S_inj h2])
      refine ⟨_, rfl, b, _, dx, _, _, rfl, hb, C.t.c_Book, C.t.a_Book_shutters, rfl, _, rfl, by omega, by omega, ?_⟩
      refine for_range (lo := 0) (n := n) (fun i σ H' => H' = H ∧ ∃ a4, σ = [some (.ref b), some (.str (S x)), some (.int ((p / 2 ^ i : Nat) : Int)), some (.str (S (bits p i))), a4]) ⟨rfl, none, by simp [bits]; rfl⟩ (fun i σ H' hi ⟨hH, a4, hσ⟩ => ?_) (fun σ H' ⟨hH, a4, hσ⟩ => ?_)
      · subst hH hσ
        have hb2 : ((p / 2 ^ i : Nat) : Int) % 2 = 0 ∨ ((p / 2 ^ i : Nat) : Int) % 2 = 1 := by omega
        refine ⟨_, rfl, _, _, rfl, rfl, by show (0 : Int) < 2; decide, _, rfl, log_bit hb2, ?_⟩
        refine ⟨_, rfl, _, _, rfl, rfl, ?_, ?_⟩
        · rw [toS_bit hb2, S_len, S_len, bits_len]
          exact Nat.le_trans (show 1 + i ≤ 11 by omega) (by decide)
        · rw [toS_bit hb2, S_app]
          refine ⟨_, rfl, _, _, rfl, rfl, ⟨by decide, by decide⟩, rfl, some (.int (0 + (i : Nat))), ?_⟩
          have e1 : ((p / 2 ^ i : Nat) : Int) / 2 = ((p / 2 ^ (i + 1) : Nat) : Int) := by rw [Nat.pow_succ, ← Nat.div_div_eq_div_mul]; rfl
          have e2 : ([48 + (((p / 2 ^ i : Nat) : Int) % 2).toNat] ++ bits p i) = bits p (i + 1) := by
            show _ = (48 + p / 2 ^ i % 2) :: bits p i
            have : (((p / 2 ^ i : Nat) : Int) % 2).toNat = p / 2 ^ i % 2 := by omega
            rw [this]
            rfl
          rw [e2, ← e1]
          rfl
      · subst hH hσ
        exact ⟨_, rfl, hq _ (Le.refl hT)⟩
    · rw [decide_eq_false hx]
      exact iteT (hno hx _ (Le.refl hT))
/-! ### Book.word -/
def valB (l : List Nat) : Nat := l.foldl (fun a c => 2 * a + (c - 48)) 0
def wordOk (n : Nat) (l : List Nat) : Bool := okS l && l.length == n
def wordV (ws : List (List Nat)) (l : List Nat) : V := match ws[valB l]? with
  | some w => sV w
  | none => .non
def spWord (K : PySem.W.Frag) : Sp := fun vs H Q E => ∃ (b : Addr) (n : Nat) (ws : List (List Nat)) (l : List Nat), vs = [.ref b, .str (S l)] ∧ isBook K H b n ws ∧ Tabs (T K) H ∧ n ≤ 10 ∧ l.length ≤ 1000 ∧ ws.length ≤ 1024 ∧
  (wordOk n l = true → ∀ H', Le (T K) H H' → Q (wordV ws l) H') ∧ (wordOk n l = false → ∀ H', Le (T K) H H' → E (.ref (aCE K)) none H')
theorem valB_snoc (l : List Nat) (c : Nat) : valB (l ++ [c]) = 2 * valB l + (c - 48) := by unfold valB; rw [List.foldl_append]; rfl
theorem ok_word (C : Ctx K mg base) : MetX P w K mg base 3 (aBk K) "word" ["self", "sign"] (spWord K) := by
  obtain ⟨fd, F⟩ := C.d.d_Book_word
  refine ⟨_, fd, ?_, F.funD.bindsN fun _ _ _ _ _ _ us hl => (match us, hl with | [_, _], _ => rfl), C.t.t_Book_word, C.t.c_Book⟩
  refine F.ok sc_Book_word (fun vs H Q E h => ?_) (fun A outer s H vs Q E hr h => ?_)
  · obtain ⟨b, n, ws, x, rfl, _⟩ := h
    rfl
  · obtain ⟨b, n, ws, l, rfl, ⟨dx, t, ob, hb, hf, hob⟩, hT, hn, hl, hw, hq, hno⟩ := h
    obtain ⟨e1, e2, e3, e4⟩ := C.t.e_CodeError
    have nn := sc_Book_word.nd
    refine ⟨_, pss_cons (ps_expr (pe_cx (ok_check (P := P) (w := w) C) hr (by decide) rfl passA (pa_cons (pv 1) pa_nil)))
      (pss_cons (ps_if (pt_cmpR op_ne (pe_callB call_len_str (by rfl) C.t.b_len PySem.boot_len (pa_cons (pv 1) pa_nil)) (pe_fld (pv 0) rfl) (nomark _))
        (pss_one (ps_raise rfl takesA (pmk_own PySem.F.excBase_ValueError e1 C.t.m_CodeError e2 (raises_own e3 e4) (by rfl)))) pss_nil)
      (pss_cons (ps_set (i := 2) nn rfl (Or.inl rfl) pe_int)
      (pss_cons (ps_for ownsA rfl (pi_str (pv 1)) (pg_name (i := 3) nn rfl (Or.inl rfl))
        (pss_one (ps_set (i := 2) nn rfl (Or.inl rfl) (pe_op op_add (pe_op op_mul pe_int (pv 2)) (pe_callTy call_int_str (by rfl) C.t.b_int (by decide +kernel) (pa_cons (pv 3) pa_nil))))))
      (pss_one (ps_ret (pe_ifExp (pt_cmpR op_lt (pv 2) (pe_callB call_len_seq (by rfl) C.t.b_len PySem.boot_len (pa_cons (pe_fld (pv 0) rfl) pa_nil)) (nomark _)) (pe_ix ix_tup (pe_fld (pv 0) rfl) (pv 2) (fun _ _ => rfl)) pe_non)))))), ?_⟩
    refine ⟨_, rfl, l, rfl, hT, fun ha H1 L1 => ?_, fun ha H1 L1 => hno (by unfold wordOk; rw [ha]; rfl) H1 L1⟩
    have hb1 := L1.at hb
    have hf1 := L1.at hf
    refine ⟨_, rfl, _, rfl, lenS_le hl (by decide), _, rfl, b, _, dx, _, _, rfl, hb1, C.t.c_Book, C.t.a_Book_shutters, rfl, rfl, _, rfl, ?_⟩
    rw [S_len]
    by_cases hln : l.length = n
    · rw [decide_eq_true (show V.int ((l.length : Nat) : Int) = V.int (n : Int) by rw [hln])]
      refine iteF ?_
      have hq := hq (by unfold wordOk; rw [ha, hln]; simp) _ L1
      refine ⟨_, rfl, _, rfl, ?_⟩
      refine for_txt l (fun i σ H' => H' = H1 ∧ ∃ a3, σ = [some (.ref b), some (.str (S l)), some (.int ((valB (l.take i) : Nat) : Int)), a3]) ⟨rfl, none, rfl⟩ (fun i c σ H' hc ⟨hH, a3, hσ⟩ => ?_) (fun σ H' ⟨hH, a3, hσ⟩ => ?_)
      · subst hH hσ
        have hcb := okS_all ha (List.mem_of_getElem? hc)
        refine ⟨_, rfl, _, _, rfl, rfl, .inl ⟨by omega, by omega⟩, _, rfl, _, _, rfl, int_bit hcb, lenS_one, _, _, rfl, rfl, rfl, some (.str (S [c])), ?_⟩
        rw [take_snoc hc, valB_snoc]
        have e : (2 : Int) * (valB (l.take i) : Nat) + ((c : Int) - 48) = ((2 * valB (l.take i) + (c - 48) : Nat) : Int) := by omega
        rw [← e]
        rfl
      · subst hH hσ
        rw [List.take_of_length_le (Nat.le_refl _)]
        refine ⟨_, rfl, _, rfl, b, _, dx, _, _, rfl, hb1, C.t.c_Book, C.t.a_Book_words, rfl, t, _, rfl, .inr (.inl (.inr ⟨ob, hf1⟩)), _, _, rfl, rfl, _, rfl, ?_⟩
        rw [List.length_map]
        by_cases hv : valB l < ws.length
        · rw [decide_eq_true (show ((valB l : Nat) : Int) < (ws.length : Nat) by omega)]
          refine iteT ⟨_, rfl, b, _, dx, _, _, rfl, hb1, C.t.c_Book, C.t.a_Book_words, rfl, _, rfl, t, _, _, _, rfl, rfl, .inl (.inr ⟨ob, hf1⟩), atI_nat (j := valB l) (by rw [List.getElem?_map, List.getElem?_eq_getElem hv]; rfl), ?_⟩
          have e : wordV ws l = sV ws[valB l] := by unfold wordV; rw [List.getElem?_eq_getElem hv]
          rw [← e]
          exact hq
        · rw [decide_eq_false (show ¬ ((valB l : Nat) : Int) < (ws.length : Nat) by omega)]
          refine iteF ?_
          have e : wordV ws l = .non := by unfold wordV; rw [List.getElem?_eq_none (by omega)]
          rw [← e]
          exact hq
    · rw [decide_eq_false (show ¬ V.int ((l.length : Nat) : Int) = V.int (n : Int) from fun z => hln (by injection z with z; omega))]
      exact iteT (hno (by unfold wordOk; simp [hln]) _ L1)
end
end K1

-- text LcX
set_option maxRecDepth 100000
set_option maxHeartbeats 4000000
/-! LcX: list comprehensions whose element may let an exception out of the def. -/
namespace GX
open PySem PySem.Spec PyProof.Rows L2 LamX
/-- how a comprehension's block ends, the frame told -/
def pastC (M : Model) (A : Around) (E : Value → Shared → Prop) (use : Option (Value → Sem Unit)) (Q : Value → Shared → Prop) (acc : Value) (C : Addr) (Fr : Option Addr) (r : Result) (z : Shared) : Prop :=
  match r with
  | .ok f => compPost M A E use Q acc C (.ok f) z
  | .error x => ∃ m, z.heap.Ns C m ∧ ∀ g, Heap.SameBut C z.heap g → ∀ ce : Env, ce.locals = C → ce.frame = Fr → wpAny M A (PySem.passOn "comprehension.variables-let-go" x ce : Sem Value) (fun _ _ => False) E { z with heap := g }
theorem comp_framed {M : Model} {A : Around} {E : Value → Shared → Prop} {z0 : Shared} {ev : Env} {e : Expr} {scope : Scope} {pos : Pos} {newAcc first : Sem Value} {g : Comprehension} {gs : List Comprehension} {cl : List (Str × Addr)} {use : Option (Value → Sem Unit)} {Q : Value → Shared → Prop}
    (hcl : clausesOf e = g :: gs) (hs : ∀ x, foldedSetIterable g.iter ev x = pure x) (hclos : closureFor scope ev = pure cl) (hkind : scope.kind = .function) (hn0 : ∀ x ∈ scope.names, x.2 = .local → scope.names.lookup x.1 = some .local)
    (h : wpAny M A first (fun x z1 => wpAny M A (pyIter x) (fun it z2 => wpAny M A newAcc (fun acc z3 => wpAny M A (newFunctionEnv scope ev.globals cl [] ev.qual none .none (some ev)) (fun ce z4 =>
        codeAny M A (.compStart e 0 it acc { ce with scope := relabel scope ev }) (pastC M A E use Q acc ce.locals ce.frame) z4) E z3) E z2) E z1) E z0) :
    wpAny M A (comprehension e scope ev pos newAcc false first use) Q E z0 := by
  unfold comprehension
  rw [hclos, hcl]
  refine wpAny_bind (wpAny_mono h (fun x z1 k1 => wpAny_bind (wpAny_standAt (wpAny_bind (wpAny_of_eq (hs x) (wpAny_bind (wpAny_holding (wpAny_mono k1 (fun it z2 k2 =>
    wpAny_standIf (wpAny_bind (wpAny_mono k2 (fun acc z3 k3 => wpAny_bind (wpAny_pure (wpAny_bind (wpAny_mono k3 (fun ce z4 k4 => ?_) fun _ _ y => y)))) fun _ _ y => y))) fun _ _ y => y))))))) fun _ _ y => y)
  dsimp only
  have own : ∀ x ∈ (scope.names.filter fun x => (x.2 == .local || x.2 == .cell) && x.1 != (".0" : Str)).reverse, x.2 = .local → Env.kindOf { ce with scope := relabel scope ev } x.1 = some .local :=
    fun x hx hl => lookup_relabel_local (hn0 x (List.mem_filter.mp (List.mem_reverse.mp hx)).1 hl)
  refine wpAny_holding (wpAny_bind (wpAny_attempt (wpAny_holding (wpAny_run (codeAny_mono k4 fun r z5 kr => ?_)))))
  cases r with
  | ok f =>
    cases use with
    | none =>
      obtain ⟨m, hn, kr⟩ := kr
      exact wpAny_bind (wpAny_holding (wpAny_comp_letGo (cenv := { ce with scope := relabel scope ev }) hkind _ z5 m own hn fun g1 _ _ sb => wpAny_pure (kr g1 sb)))
    | some u =>
      refine wpAny_bind (wpAny_rule (wpAny_bind (wpAny_holding (wpAny_mono kr (fun _ z6 k6 => ?_) fun _ _ y => y))))
      obtain ⟨m, hn, k7⟩ := k6
      exact wpAny_bind (wpAny_comp_letGo (cenv := { ce with scope := relabel scope ev }) hkind _ z6 m (fun x hx hl => (List.mem_append.mp hx).elim (fun q => own x (List.mem_of_mem_drop q) hl) fun q => own x (List.mem_of_mem_take q) hl) hn fun g1 _ _ sb => wpAny_pure (k7 g1 sb))
  | error x =>
    obtain ⟨m, hn, kr⟩ := kr
    exact wpAny_bind (wpAny_holding (wpAny_comp_letGo (cenv := { ce with scope := relabel scope ev }) hkind _ z5 m own hn
      fun g1 _ _ sb => wpAny_mono (kr g1 sb _ rfl rfl) (fun _ _ f => f.elim) fun _ _ y => y))
theorem note_frame {a b : Env} (h : a.frame = b.frame) (e : Value) : noteFrame e a = noteFrame e b := by
  unfold noteFrame PySem.frameOf
  rw [h]
section
variable {X : Cx} {pins : List (Addr × Obj)} {σ : L2.St} {H : Hp} {s s' : Shared} {E : XK} {C : Addr}
/-- an exception in the air of a comprehension's block; C is the block's own dict -/
def AirB (X : Cx) (pins : List (Addr × Obj)) (E : XK) (C : Addr) (u : Value) (s' : Shared) : Prop :=
  ∃ oC, (∃ es ep, oC.data = .dict es ep ∧ StrKeys es) ∧ L2.XE (X.tr ((C, oC) :: (X.pn ++ pins)) fun _ _ => False) (fun cls d _ H => E cls d H) u s'
theorem air_of (I : Inv X pins σ H s) (f : FpOk X pins H C) {m : Str → Option Value} (hn : s.heap.Ns C m) {u : Value} (c : L2.CX X.prog X.w X.stack H s E u s') : AirB X pins E C u s' := by
  obtain ⟨o, es, ep, ho, hd, sk, _⟩ := hn
  refine ⟨o, ⟨es, ep, hd, sk⟩, ?_⟩
  have J : Inv (X.tr ((C, o) :: (X.pn ++ pins)) fun _ _ => False) [] σ H s := ⟨I.ok.toTry _ _, I.os, I.bare, I.base, I.loc, I.cell, I.free, I.freeC, fun p hp => by
    rw [List.append_nil] at hp
    rcases List.mem_cons.mp hp with e | hp
    · rw [e]
      exact ⟨ho, f.1, f.2.1, f.2.2.1, fun v z => by rw [hd] at z; cases z⟩
    · exact I.pin p hp, I.hok, I.len⟩
  exact XE.of_call (X := X.tr ((C, o) :: (X.pn ++ pins)) fun _ _ => False) (W := fun cls d _ H => E cls d H) J (fun _ _ _ h => h) c
theorem air_out (ok : X.Ok) (hs : X.stack = X.env :: X.outer) (hf : X.env.frame = some X.env.locals) (tk : L2.Takes X (fun cls d _ H => E cls d H))
    (st : C ≠ X.env.locals ∧ C ∉ X.fs ∧ (C ∈ X.ex ∨ X.s_0.heap.objs.size ≤ C) ∧ (∀ x c, X.env.cells.lookup x = some c → c ≠ C) ∧ ∀ p ∈ X.pn ++ pins, p.1 ≠ C) {ce : Env} (hce : ce.frame = X.env.frame) {use : Option (Value → Sem Unit)} {Q : Value → Shared → Prop} {acc : Value} {u : Value}
    (x : AirB X pins E C u s') : notedBy (model X.prog X.w) X.A ce (fun e z => pastC (model X.prog X.w) X.A X.xe use Q acc C ce.frame (.error e) z) u s' := by
  obtain ⟨oC, ⟨es, ep, hdC, sk⟩, a, B, sI, pins', σ', H', cls, d, rfl, I, nb, up, sky, na, os, ag, w⟩ := x
  obtain ⟨c1, c2, c3, c4, c5⟩ := st
  have pC := I.pin (C, oC) (List.mem_append_left _ List.mem_cons_self)
  have hfr : X.A.frames = some (X.env :: X.outer) := by rw [ok.frames, hs]
  have nCf : C ∉ frs X.stack := fun hm => by
    rcases List.mem_cons.mp (I.stkSub C hm) with z | z
    · exact c1 z
    · exact c2 z
  have bC : B.get? C = some oC := nb C oC pC.1 nCf
  unfold notedBy
  rw [note_frame hce]
  rw [hs] at sky
  -- noted by our own frame
  suffices fin : ∀ h1, HandSPX.HeldZ B (X.env :: X.outer) a (Zc cls d) X.env.locals h1 → s'.heap.UpToSlots h1 → pastC (model X.prog X.w) X.A X.xe use Q acc C ce.frame (.error (.ref a)) { s' with heap := h1 } by
    rcases sky with ⟨hB, hn, hl, oe, vs, he, hz, hd, h1⟩ | fl | hh
    · exact HandSPX.look_newZ Zc.steady hfr hl hf he hB hn hd h1 hz fin
    · exact HandSPX.looks_onZ Zc.steady hfr hf fl fin
    · exact HandSPX.againZ hf hh.2.2.2 (fin s'.heap hh (Heap.UpToSlots.refl _))
  intro h1 hh up1
  have nsC : sI.heap.Ns C (fun x => nsFind es x) := ⟨oC, es, ep, pC.1, hdC, sk, fun _ => rfl⟩
  refine ⟨_, Heap.UpToSlots.ns up1 (Heap.UpToSlots.ns up nsC), fun g sb ce' hl' hf' => ?_⟩
  obtain ⟨g1, g2, g3, oe, vs, T, oT, ts, he, hz, hd, h1v, hnT, hTe, hT, hdT, h3⟩ := hh
  have aC : a ≠ C := fun z => by rw [z, bC] at g2; cases g2
  have TC : T ≠ C := fun z => by rw [z, bC] at hnT; cases hnT
  have B2 : ∀ b o, (PySem.W.hideAll B [C]).get? b = some o → B.get? b = some o ∧ b ≠ C := fun b o e => ⟨PySem.W.of_hideAll _ e, fun z => by
    have := PySem.W.hideAll_none (h := B) _ (show b ∈ [C] by rw [z]; exact List.mem_singleton.mpr rfl)
    rw [this] at e; cases e⟩
  have B2n : ∀ b, B.get? b = none → (PySem.W.hideAll B [C]).get? b = none := fun b e => by
    cases q : (PySem.W.hideAll B [C]).get? b with
    | none => rfl
    | some o => rw [(B2 b o q).1] at e; cases e
  have FF : ∀ {l : List Env}, h1.FunFrames B l → g.FunFrames (PySem.W.hideAll B [C]) l := fun {l} => by
    induction l with
    | nil => exact fun _ => trivial
    | cons ev l ih =>
      rintro ⟨k1, ⟨L, o, f1, f2, f3, f4⟩, k3⟩
      exact ⟨k1, ⟨L, o, f1, B2n L f2, (sb.2 L fun z => by rw [z, bC] at f2; cases f2).trans f3, f4⟩, ih k3⟩
  have st2 : (PySem.W.hideAll B [C]).StaysIn g := fun b o e => (sb.2 b (B2 b o e).2).trans (g1 b o (B2 b o e).1)
  have he2 : g.get? a = some oe := (sb.2 a aC).trans he
  have hT2 : g.get? T = some oT := (sb.2 T TC).trans hT
  have tz : HandSPX.TracedZ g (PySem.W.hideAll B [C]) a (Zc cls d) (rawInt X.env.locals) := ⟨oe, vs, T, oT, ts, he2, hz, hd, h1v, B2n T hnT, hTe, hT2, hdT, h3⟩
  unfold PySem.passOn
  refine wpAny_bind (wpAny_field he2 hd h1v ?_)
  rw [if_neg (show ¬ ((Value.ref T == Value.none) = true) from by simp)]
  refine wpAny_bind (HandSPX.setFlight_anyZ st2 (FF g3) tz fun h2 k1 k2 k3 k4 => ?_)
  refine wpAny_throw (tk _ _ ?_)
  have hfl : ce'.frame = some X.env.locals := by rw [hf', hce, hf]
  rw [hfl] at k3
  -- the state without it
  have J : Inv X [] σ' H' sI := ⟨ok, I.os, I.bare, I.base, I.loc, I.cell, I.free, I.freeC, fun p hp => I.pin p (List.mem_append_left _ (List.mem_cons_of_mem _ (List.mem_append_left _ (by rw [List.append_nil] at hp; exact hp)))), I.hok, I.len⟩
  have J2 := J.turned (t' := sI.toks) (h' := PySem.W.hideAll sI.heap [C]) (it := C) (fun b o hb e => PySem.W.hideAll_get _ e (by rw [List.mem_singleton]; exact hb)) pC.2.1 c1 c3 c4 (fun p hp => c5 p (List.mem_append_left _ (by rw [List.append_nil] at hp; exact hp)))
  have hid : ∀ b o, (PySem.W.hideAll sI.heap [C]).get? b = some o → sI.heap.get? b = some o ∧ b ≠ C := fun b o e => ⟨PySem.W.of_hideAll _ e, fun z => by
    have := PySem.W.hideAll_none (h := sI.heap) _ (show b ∈ [C] by rw [z]; exact List.mem_singleton.mpr rfl)
    rw [this] at e; cases e⟩
  refine ⟨a, PySem.W.hideAll B [C], _, [], σ', H', cls, d, rfl, J2, fun b o e hb => ?_, fun b o e hnf => ?_, .inr (.inr ?_), na, os, ag, w⟩
  · exact PySem.W.hideAll_get _ (nb b o (hid b o e).1 hb) (by rw [List.mem_singleton]; exact (hid b o e).2)
  · obtain ⟨q1, q2⟩ := hid b o e
    obtain ⟨sl1, e1⟩ := up b o q1 hnf
    obtain ⟨sl2, e2⟩ := up1 b _ e1 hnf
    obtain ⟨sl3, e3⟩ := k4 b _ ((sb.2 b q2).trans e2) hnf
    exact ⟨sl3, e3⟩
  · rw [hs]
    exact ⟨k1, B2n a g2, k2, k3⟩
/-- [elt for target in iter if ..] in a def that exceptions leave: elt may raise; the tests know the def's own state -/
theorem lcB_core {use : Option (Value → Sem Unit)} {Q : VK} {Qf : Value → Shared → Prop} {pos' : Pos} {elt tg iter : Expr} {ifs : List Expr} {scope : Scope} {own : List (Str × Nat)} {pos : Pos} {wi : TI} {g : TG} {tt : L2.St → TT} {te : TE} (hc : X.calm = true) (hN : X.N.Nodup) (hs : X.stack = X.env :: X.outer) (hf : X.env.frame = some X.env.locals)
    (tk : L2.Takes X (fun cls d _ H => E cls d H)) (hi : PI X tg iter wi) (ok : BlkOk X.N X.env.scope scope own)
    (hg : ∀ (s : Shared) (H : Hp) (C : Addr) (cl : List (Str × Addr)) (fp : List Addr), PG (X.blk s H scope (compEnvC scope cl C X.env) fp) tg g)
    (ht : ∀ (s : Shared) (H : Hp) (C : Addr) (cl : List (Str × Addr)) (fp : List Addr) (σ : L2.St), (∀ pn σ' H' z, Inv (X.blk s H scope (compEnvC scope cl C X.env) fp) pn σ' H' z → ∃ ps, Inv X ps σ H' z) → PTs (X.blk s H scope (compEnvC scope cl C X.env) fp) ifs (tt σ))
    (he : ∀ (s : Shared) (H : Hp) (C : Addr) (cl : List (Str × Addr)) (fp : List Addr) (pn : List (Addr × Obj)) (xe : Value → Shared → Prop), Passes (L2.CX X.prog X.w) ((X.blk s H scope (compEnvC scope cl C X.env) fp).tr pn xe) E →
      PE ((X.blk s H scope (compEnvC scope cl C X.env) fp).tr pn xe) elt te) (hsf : ∀ x, foldedSetIterable iter X.env x = pure x) (I : Inv X pins σ H s) (h : tLc wi g (tt σ) te (own.map (·.2)) σ H Q)
    (hRR : ∀ D C s' m H', Inv X pins σ H' s' → Q (.ref D) H' → s'.heap.Ns C m → FpOk X pins H' C → compPost (model X.prog X.w) X.A X.xe use Qf (.ref D) C (.ok .next) s') :
    wpAny (model X.prog X.w) X.A (comprehension (.ListComp elt [⟨tg, iter, ifs, 0⟩] scope pos) scope X.env pos' (newList []) false (eval iter X.env) use) Qf X.xe s := by
  have clo : ∀ y ∈ scope.names, y.2 = .free → ∃ c, X.env.cells.lookup y.1 = some c := fun y hy e => (ok.free y hy e).elim (fun k => I.ok.has _ (.inl k)) fun k => I.ok.has _ (.inr k)
  refine comp_framed rfl hsf (closure_ok clo) ok.kind (fun y hy e => by rw [ok.uniq y hy, e]) (thn (hi.run pins s σ H _ I h) fun xv s1 hx => thn hx fun itv s2 h2 => ?_)
  obtain ⟨it, fp, tn, J, H2, e, I2, T, st2, f2, q⟩ := h2
  subst e
  refine wpAny_newObj_type (newEnv_comp ?_) (by show 0 ≤ sizeLine; decide)
  generalize hD : s2.heap.objs.size = D
  obtain ⟨W, ⟨m0, w0⟩, turn⟩ := q D (I2.hok.fresh (Nat.le_of_eq hD))
  generalize z3 : ({ s2 with heap := s2.heap.push { cls := .type "list", data := .seq ([] : List Value).toArray } } : Shared) = s3
  have I3 : Inv X pins σ (upd H2 D (.lst [])) s3 := by
    rw [← z3]
    refine I2.laid (t' := s2.toks) (fun b o e => Heap.get?_push_of_some _ e) (Nat.le_of_eq hD) ⟨Nat.zero_le _, [], 0, .nil, ?_⟩
    rw [← hD]
    exact Heap.get?_push_size _ rfl
  have e3 : s3.heap = s2.heap.push { cls := .type "list", data := .seq ([] : List Value).toArray } := by rw [← z3]
  have small : ∀ b ∈ fp, b < s2.heap.objs.size := fun b hb => let ⟨_, e, _⟩ := T.obj _ _ st2 b hb; Heap.lt_size e
  have f3 : ∀ b ∈ fp, FpOk X pins (upd H2 D (.lst [])) b ∧ b < s3.heap.objs.size := fun b hb => by
    have hlt := small b hb
    refine ⟨⟨?_, (f2 b hb).2⟩, by rw [e3, Heap.size_push]; exact Nat.lt_succ_of_lt hlt⟩
    rw [upd_ne (by rw [← hD]; exact Nat.ne_of_lt hlt)]
    exact (f2 b hb).1
  have st3 : tn 0 s3.heap := T.keep _ _ _ st2 fun b _ o e => by rw [e3]; exact Heap.get?_push_of_some _ e
  have I4 := block_start I3 ok hN f3
  generalize zC : s3.heap.objs.size = C at I4
  have pg := hg s3 (upd H2 D (.lst [])) C (cellsFrom (C + 1) scope.names (cloFrom X.env.cells scope.names [])) fp
  have pt := ht s3 (upd H2 D (.lst [])) C (cellsFrom (C + 1) scope.names (cloFrom X.env.cells scope.names [])) fp σ
  have pe := he s3 (upd H2 D (.lst [])) C (cellsFrom (C + 1) scope.names (cloFrom X.env.cells scope.names [])) fp
  show codeAny _ _ (.compStart (.ListComp elt [⟨tg, iter, ifs, 0⟩] scope pos) 0 (.ref it) (.ref D) (compEnvC scope (cellsFrom (C + 1) scope.names (cloFrom X.env.cells scope.names [])) C X.env))
    (pastC (model X.prog X.w) X.A X.xe use Qf (.ref D) C X.env.frame) { s3 with heap := pushCells (s3.heap.push { cls := .type "dict", data := .dict #[] }) scope.names }
  have n3 : ∀ b ∈ fp, (upd H2 D (.lst [])) b = none := fun b hb => (f3 b hb).1.1
  generalize zce : compEnvC scope (cellsFrom (C + 1) scope.names (cloFrom X.env.cells scope.names [])) C X.env = ce at I4 pg pt pe ⊢
  have cL : ce.locals = C := by subst zce; rfl
  have cF : ce.frame = X.env.frame := by subst zce; rfl
  generalize zH : upd H2 D (.lst []) = H3 at I3 I4 pg pt pe w0 n3 f3
  generalize z4 : ({ s3 with heap := pushCells (s3.heap.push { cls := .type "dict", data := .dict #[] }) scope.names } : Shared) = s4 at I4 ⊢
  have st4 : tn 0 s4.heap := T.keep _ _ _ st3 fun b _ o e => by rw [← z4]; exact pushCells_keeps _ _ _ _ (Heap.get?_push_of_some _ e)
  -- what holds of C, and the def's own state behind a state of the block
  have sC : ∀ H', H' C = none → FpOk X pins H' C := fun H' n => I3.fpOk (Nat.le_of_eq zC) n
  have back : ∀ {pn : List (Addr × Obj)} {σ' : L2.St} {H' : Hp} {z : Shared}, Inv (X.blk s3 H3 scope ce fp) pn σ' H' z → Inv X pins σ H' z ∧ H' C = none ∧ ∃ m, z.heap.Ns C m := fun {pn σ' H' z} K => by
    refine ⟨I3.call' (ch := fp) K.os K.base K.hok K.bare fun b hb => ⟨(f3 b hb).1.2.2.2.1, (f3 b hb).1.2.1, (f3 b hb).1.2.2.2.2.1, (f3 b hb).1.2.2.2.2.2⟩, ?_, ?_⟩
    · have y : H' ce.locals = none := K.free
      rw [cL] at y
      exact y
    · obtain ⟨m, hn, _⟩ := K.loc
      have hn : z.heap.Ns ce.locals m := hn
      rw [cL] at hn
      exact ⟨m, hn⟩
  have stat : ∀ {σ' : L2.St} {H' : Hp} {z : Shared}, Inv (X.blk s3 H3 scope ce fp) [] σ' H' z → (∀ b ∈ fp, H' b = none) → ∀ b ∈ fp, FpOk (X.blk s3 H3 scope ce fp) [] H' b := fun {σ' H' z} K hn b hb =>
    ⟨hn b hb, (K.ok.exf b hb).1, K.ok.exfs b hb, .inl hb, fun x c e => (K.ok.exf b hb).2 x c e, fun p hp => absurd (show p ∈ ([] : List (Addr × Obj)) ++ [] from hp) (by simp)⟩
  have okX := I.ok
  have out : ∀ u z, AirB X pins E C u z → notedBy (model X.prog X.w) X.A ce (fun e z => pastC (model X.prog X.w) X.A X.xe use Qf (.ref D) C X.env.frame (.error e) z) u z := fun u z x => by
    obtain ⟨_, k1, k2, k3, k4, k5⟩ := I3.fpOk (b := C) (H' := fun _ => none) (Nat.le_of_eq zC) rfl
    have := air_out (use := use) (Q := Qf) (acc := .ref D) okX hs hf tk ⟨k1, k2, k3, k4, k5⟩ cF x
    rw [cF] at this
    exact this
  have loop : codeAny (model X.prog X.w) X.A (.compLoop (.ListComp elt [⟨tg, iter, ifs, 0⟩] scope pos) 0 (.ref it) (.ref D) ce) (pastC (model X.prog X.w) X.A X.xe use Qf (.ref D) C X.env.frame) s4 := by
    refine compLoop_any (fun n z => ∃ i H', Inv (X.blk s3 H3 scope ce fp) [] (wipe σ (own.map (·.2))) H' z ∧ tn i z.heap ∧ (∀ b ∈ fp, H' b = none) ∧ W i n H') ?_ m0 ⟨0, H3, I4, st4, n3, w0⟩
    rintro n s5 ⟨i, H5, I5, st5, n5, w5⟩
    rcases turn i n H5 w5 with ⟨stop, qq⟩ | ⟨go, Nx, hNx, step⟩
    · refine thnF (T.done (X.blk s3 H3 scope ce fp) rfl rfl rfl hc i [] s5 _ H5 (fun _ _ => False) I5 (stat I5 n5) st5 stop) fun r s6 ⟨hr, I6⟩ => ?_
      subst hr
      obtain ⟨I7, nC, m, hn⟩ := back I6
      exact hRR D C s6 m H5 I7 qq hn (sC H5 nC)
    · refine thnF (T.item (X.blk s3 H3 scope ce fp) rfl rfl rfl hc i [] s5 _ H5 (fun _ _ => False) I5 (stat I5 n5) st5 go) fun r s6 ⟨u, hr, h6⟩ => ?_
      subst hr
      refine thnF h6 fun _ s7 ⟨x, H7, I7, r7, y7, st7, n7⟩ => ?_
      refine thnF (pg.run _ s7 _ H7 x u _ (I7.pinned (stat I7 n7) (T.obj _ _ st7)) r7 (step x H7 y7)) fun _ s8 ⟨σ8, H8, I8, hw8, q8⟩ => ?_
      refine thnF ((pt fun pn σ' H' z K => ⟨_, (back K).1⟩).run _ s8 σ8 H8 _ I8 q8) fun b s9 ⟨H9, I9, q9⟩ => ?_
      have fin : ∀ {z : Shared} {H' : Hp}, Inv (X.blk s3 H3 scope ce fp) ([] ++ pinsAt fp s7.heap) σ8 H' z → Nx H' → ∃ m, m < n ∧ ∃ i H', Inv (X.blk s3 H3 scope ce fp) [] (wipe σ (own.map (·.2))) H' z ∧ tn i z.heap ∧ (∀ b ∈ fp, H' b = none) ∧ W i m H' := fun {z H'} K nx => by
        obtain ⟨m', hm, w'⟩ := hNx H' nx
        have pin' : ∀ b ∈ fp, ∀ o, s7.heap.get? b = some o → z.heap.get? b = some o ∧ H' b = none := fun b hb o e =>
          let y := K.pin (b, o) (List.mem_append_right _ (List.mem_append_right _ (mem_pinsAt hb e)))
          ⟨y.1, y.2.1⟩
        refine ⟨m', hm, i + 1, H', (K.unpinned (pins := [])).weak (by rw [← hw8, wipe_length]) (fun j v e => ?_), T.keep _ _ _ st7 fun b hb o e => (pin' b hb o e).1, fun b hb => ?_, w'⟩
        · rw [← hw8] at e
          exact (wipe_some e).1
        · obtain ⟨o, e, _⟩ := T.obj _ _ st7 b hb
          exact (pin' b hb o e).2
      cases b with
      | false =>
        simp only [Bool.false_eq_true, if_false] at q9 ⊢
        exact fin I9 q9
      | true =>
        simp only [if_true] at q9 ⊢
        have px : Passes (L2.CX X.prog X.w) ((X.blk s3 H3 scope ce fp).tr ([] ++ ([] ++ pinsAt fp s7.heap)) (AirB X pins E C)) E := fun pins' σ' H' z u z' K c => by
          obtain ⟨K7, nC, m, hn⟩ := back (show Inv (X.blk s3 H3 scope ce fp) (([] ++ pinsAt fp s7.heap) ++ pins') σ' H' z from ⟨I9.ok, K.os, K.bare, K.base, K.loc, K.cell, K.free, K.freeC, fun p hp => K.pin p (by simpa using hp), K.hok, K.len⟩)
          exact air_of K7 (sC H' nC) hn c
        refine wpAny_mono ((pe _ _ px).run [] s9 σ8 H9 _ (I9.toTry _) q9) (fun y s10 ⟨yv, H10, I10, r10, acc, hD10, hz10, nx⟩ => ?_) out
        refine thnF (app_ok (X := X.blk s3 H3 scope ce fp) (E := fun _ _ => False) (I10.ofTry I9.ok) hD10 hz10 r10 fun s11 I11 => ?_) fun _ _ k => k
        exact fin I11 nx
  exact codeAny_compStart_list loop (T.self X.A 0 _ _ _ st4 loop)
/-- [elt for target in iter if ..] in a def that exceptions leave: elt may raise; the tests know the def's own state -/
theorem pe_lcB {elt tg iter : Expr} {ifs : List Expr} {scope : Scope} {own : List (Str × Nat)} {pos : Pos} {wi : TI} {g : TG} {tt : L2.St → TT} {te : TE} (hc : X.calm = true) (hN : X.N.Nodup) (hs : X.stack = X.env :: X.outer) (hf : X.env.frame = some X.env.locals)
    (tk : L2.Takes X (fun cls d _ H => E cls d H)) (hi : PI X tg iter wi) (ok : BlkOk X.N X.env.scope scope own)
    (hg : ∀ (s : Shared) (H : Hp) (C : Addr) (cl : List (Str × Addr)) (fp : List Addr), PG (X.blk s H scope (compEnvC scope cl C X.env) fp) tg g)
    (ht : ∀ (s : Shared) (H : Hp) (C : Addr) (cl : List (Str × Addr)) (fp : List Addr) (σ : L2.St), (∀ pn σ' H' z, Inv (X.blk s H scope (compEnvC scope cl C X.env) fp) pn σ' H' z → ∃ ps, Inv X ps σ H' z) → PTs (X.blk s H scope (compEnvC scope cl C X.env) fp) ifs (tt σ))
    (he : ∀ (s : Shared) (H : Hp) (C : Addr) (cl : List (Str × Addr)) (fp : List Addr) (pn : List (Addr × Obj)) (xe : Value → Shared → Prop), Passes (L2.CX X.prog X.w) ((X.blk s H scope (compEnvC scope cl C X.env) fp).tr pn xe) E →
      PE ((X.blk s H scope (compEnvC scope cl C X.env) fp).tr pn xe) elt te) (hsf : ∀ x, foldedSetIterable iter X.env x = pure x := by intro _; rfl) :
    PE X (.ListComp elt [⟨tg, iter, ifs, 0⟩] scope pos) (fun σ => tLc wi g (tt σ) te (own.map (·.2)) σ) := by
  refine ⟨fun pins s σ H Q I h => ?_⟩
  rw [eval_ListComp]
  refine lcB_core hc hN hs hf tk hi ok hg ht he hsf I h fun D C s' m H' J q hn f => ⟨m, hn, fun g1 sb => ?_⟩
  obtain ⟨k0, k1, k2, k3, k4, k5⟩ := f
  exact ⟨.ref D, H', J.turned (t' := s'.toks) (fun b o hb e => (sb.2 b hb).trans e) k0 k1 k3 k4 k5, rfl, q⟩
/-- y = [elt for target in iter if ..], the same, y a local -/
theorem ps_setLcX {i : Nat} {y : Str} {py spos : Pos} {elt tg iter : Expr} {ifs : List Expr} {scope : Scope} {own : List (Str × Nat)} {pos : Pos} {wi : TI} {g : TG} {tt : TT} {te : TE} (hc : X.calm = true) (hN : X.N.Nodup) (hs : X.stack = X.env :: X.outer) (hf : X.env.frame = some X.env.locals)
    (tk : L2.Takes X (fun cls d _ H => E cls d H)) (hy : X.N[i]? = some y) (hyl : X.env.scope.names.lookup y = some .local) (hsw : swapsWith (.ListComp elt [⟨tg, iter, ifs, 0⟩] scope pos) (some (.Name y py)) spos.line X.env = pure true) (hi : PI X tg iter wi) (ok : BlkOk X.N X.env.scope scope own)
    (hg : ∀ (s : Shared) (H : Hp) (C : Addr) (cl : List (Str × Addr)) (fp : List Addr), PG (X.blk s H scope (compEnvC scope cl C X.env) fp) tg g)
    (ht : ∀ (s : Shared) (H : Hp) (C : Addr) (cl : List (Str × Addr)) (fp : List Addr), PTs (X.blk s H scope (compEnvC scope cl C X.env) fp) ifs tt)
    (he : ∀ (s : Shared) (H : Hp) (C : Addr) (cl : List (Str × Addr)) (fp : List Addr) (pn : List (Addr × Obj)) (xe : Value → Shared → Prop), Passes (L2.CX X.prog X.w) ((X.blk s H scope (compEnvC scope cl C X.env) fp).tr pn xe) E →
      PE ((X.blk s H scope (compEnvC scope cl C X.env) fp).tr pn xe) elt te) (hsf : ∀ x, foldedSetIterable iter X.env x = pure x := by intro _; rfl) :
    PS X (.Assign [.Name y py] (.ListComp elt [⟨tg, iter, ifs, 0⟩] scope pos) spos) (tAsg (tLc wi g tt te (own.map (·.2))) (gName i)) := by
  refine ⟨fun pins s σ H D I h => ?_⟩
  rw [exec_Assign_Name_used _ _ _ _ hsw]
  refine wpAny_bind (wpAny_standAt (wpAny_bind (wpAny_bind (thn (lcB_core (tt := fun _ => tt) (Q := fun x H1 => gName i x σ H1 D.nx) (Qf := fun _ z => SP X pins D .next z) hc hN hs hf tk hi ok hg (fun s H C cl fp _ _ => ht s H C cl fp) he hsf I h fun L C z m H' J q hn f => ?_) fun _ _ q => wpAny_pure (wpAny_pure q)))))
  obtain ⟨k0, k1, k2, k3, k4, k5⟩ := f
  show wpAny _ _ (assign (.Name y py) X.env (.ref L)) _ _ _
  refine wpAny_assign_Name (store_ok2 (v := V.ref L) J hN hy (.inl hyl) rfl (fun z2 J2 ⟨a, sb, ha⟩ => ⟨m, hn.sameBut sb (ha.elim (fun e => by rw [e]; exact k1) fun e z => k4 y a e z.symm), fun g3 sb3 => ?_⟩) (.inr hyl))
  exact ⟨_, H', J2.turned (t' := z2.toks) (fun b o hb e => (sb3.2 b hb).trans e) k0 k1 k3 k4 k5, q⟩
/-- [elt for target in iter if ..] in a def that exceptions leave: elt may raise -/
theorem pe_lcX {elt tg iter : Expr} {ifs : List Expr} {scope : Scope} {own : List (Str × Nat)} {pos : Pos} {wi : TI} {g : TG} {tt : TT} {te : TE} (hc : X.calm = true) (hN : X.N.Nodup) (hs : X.stack = X.env :: X.outer) (hf : X.env.frame = some X.env.locals)
    (tk : L2.Takes X (fun cls d _ H => E cls d H)) (hi : PI X tg iter wi) (ok : BlkOk X.N X.env.scope scope own)
    (hg : ∀ (s : Shared) (H : Hp) (C : Addr) (cl : List (Str × Addr)) (fp : List Addr), PG (X.blk s H scope (compEnvC scope cl C X.env) fp) tg g)
    (ht : ∀ (s : Shared) (H : Hp) (C : Addr) (cl : List (Str × Addr)) (fp : List Addr), PTs (X.blk s H scope (compEnvC scope cl C X.env) fp) ifs tt)
    (he : ∀ (s : Shared) (H : Hp) (C : Addr) (cl : List (Str × Addr)) (fp : List Addr) (pn : List (Addr × Obj)) (xe : Value → Shared → Prop), Passes (L2.CX X.prog X.w) ((X.blk s H scope (compEnvC scope cl C X.env) fp).tr pn xe) E →
      PE ((X.blk s H scope (compEnvC scope cl C X.env) fp).tr pn xe) elt te) (hsf : ∀ x, foldedSetIterable iter X.env x = pure x := by intro _; rfl) :
    PE X (.ListComp elt [⟨tg, iter, ifs, 0⟩] scope pos) (tLc wi g tt te (own.map (·.2))) :=
  pe_lcB (tt := fun _ => tt) hc hN hs hf tk hi ok hg (fun s H C cl fp _ _ => ht s H C cl fp) he hsf
end
end GX

-- text K1H
set_option maxRecDepth 100000
set_option maxHeartbeats 4000000
namespace K1
open PySem PySem.Spec PyProof.Rows L2 LamX GX
section
variable {P : Program} {w : World} {K : PySem.W.Frag} {mg : Str → Option Value} {base : Heap}
/-! ### Book.read -/
def readV (ws : List (List Nat)) (l : List Nat) : V := match ws[valB l]? with
  | some w => sV w
  | none => .str (S [63])
def spRead (K : PySem.W.Frag) : Sp := fun vs H Q E => ∃ (b a : Addr) (n : Nat) (ws ls : List (List Nat)), vs = [.ref b, .ref a] ∧ isBook K H b n ws ∧ SqL K H a (ls.map sV) ∧ Tabs (T K) H ∧ n ≤ 10 ∧ ls.length ≤ 1000 ∧ (∀ l ∈ ls, l.length ≤ 1000) ∧ ws.length ≤ 1024 ∧
  ((∀ l ∈ ls, wordOk n l = true) → ∀ H' p, Le (T K) H H' → H' p = none → Q (.ref p) (upd H' p (.tup (ls.map (readV ws))))) ∧ ((∃ l ∈ ls, wordOk n l = false) → ∀ H', Le (T K) H H' → E (.ref (aCE K)) none H')
theorem ok_read (C : Ctx K mg base) : MetX P w K mg base 4 (aBk K) "read" ["self", "signs"] (spRead K) := by
  obtain ⟨fd, F⟩ := C.d.d_Book_read
  refine ⟨_, fd, ?_, F.funD.bindsN fun _ _ _ _ _ _ us hl => (match us, hl with | [_, _], _ => rfl), C.t.t_Book_read, C.t.c_Book⟩
  refine F.ok sc_Book_read (fun vs H Q E h => ?_) (fun A outer s H vs Q E hr h => ?_)
  · obtain ⟨b, a, n, ws, ls, rfl, _⟩ := h
    rfl
  · obtain ⟨b, a, n, ws, ls, rfl, hbk, ha, hT, hn, hls, hll, hw, hq, hno⟩ := h
    have nn := sc_Book_read.nd
    obtain ⟨fW, fdW, FW, bW, mW, cW⟩ := ok_word (P := P) (w := w) C
    refine ⟨_, pss_cons (ps_setLcX (i := 2) (own := [("sign", 3)]) (g := gName 3) rfl nn rfl rfl takesA rfl rfl (sw_true rfl rfl rfl (by decide +kernel)) (pi_list (pv 1)) (blkOk_by (N := n_Book_read) (sc := defScope s_Book_read) (by decide +kernel))
        (fun _ _ _ _ _ => pg_name (i := 3) nn rfl (Or.inl rfl)) (fun _ _ _ _ _ => pts_nil) (fun _ _ _ _ _ _ _ px => pe_meth (pv 0) cW mW FW hr bW .nil px (pa_cons (pv 3) pa_nil)))
      (pss_one (ps_ret (pe_genTup (T := T K) (own := [("word", 4)]) (g := gName 4) hr rfl C.t.b_tuple nn (C.b _ (tf_mem 1)) rfl (T_mem 1) (T_uniq C.u 1) (pi_list (pv 2)) (gsc_by (blkOk_by (N := n_Book_read) (sc := defScope s_Book_read) (by decide +kernel)) (by decide +kernel))
        (fun _ _ _ _ _ => pg_name (i := 4) nn rfl (Or.inl rfl)) (fun _ _ _ _ _ _ => pe_ifExp (pt_cmpR op_isN (pv 4) pe_non (nomark _)) pe_str (pv 4))))), ?_⟩
    refine ⟨_, rfl, a, rfl, ⟨_, ha⟩, fun D hD => ?_⟩
    obtain ⟨dx, t, ob, hb, hf, hob⟩ := id hbk
    refine lc_list (K := K) (a := a) (xs := ls.map sV) (fun i H' => Le (T K) H H' ∧ H' D = some (.lst ((ls.take i).map (wordV ws))) ∧ ∀ l ∈ ls.take i, wordOk n l = true) ⟨(Le.refl hT).new hD, upd_same, fun l hl => by cases hl⟩ (fun i H' _ hP => hP.1.seqL ha) (fun i x H2 hx ⟨L2, h2, hp2⟩ => ?_) (fun H2 ⟨L2, h2, hp2⟩ => ?_)
    · obtain ⟨l, hl, rfl⟩ := get_map hx
      have hm := List.mem_of_getElem? hl
      refine ⟨rfl, ?_⟩
      refine yes_ ?_
      refine iteT ?_
      refine ⟨_, rfl, b, dx, _, rfl, L2.at hb, rfl, _, rfl, b, n, ws, l, rfl, Le.book L2 hbk, L2.tab, hn, hll l hm, hw, fun ho H3 L3 => ?_, fun ho H3 L3 => hno ⟨l, hm, ho⟩ _ (L2.trans L3)⟩
      have h3 := L3.at h2
      have LL := L2.trans L3
      refine ⟨_, h3, ?_, LL.set hD h3, ?_, ?_⟩
      · rw [List.length_map, List.length_take]
        exact Nat.lt_of_le_of_lt (show min i ls.length ≤ 1000 by omega) (by decide)
      · rw [upd_same, take_snoc hl, List.map_append]; rfl
      · intro y hy
        rw [take_snoc hl] at hy
        rcases List.mem_append.mp hy with hy | hy
        · exact hp2 y hy
        · rw [List.mem_singleton.mp hy]; exact ho
    · rw [List.length_map, List.take_of_length_le (Nat.le_refl _)] at h2 hp2
      have hq := hq hp2
      refine ⟨_, rfl, D, rfl, ⟨_, SqL.of h2⟩, L2.tab, fun H3 hE hT3 hno3 => ?_⟩
      have L3 : Le (T K) H2 H3 := ⟨hE, hT3, hno3⟩
      have LL := L2.trans L3
      refine ⟨ls.length, fun i ys H' => Le (T K) H2 H' ∧ ys = (ls.take i).map (readV ws), Nat.le_trans hls (by decide), ⟨L3, rfl⟩, fun i ys H4 hi ⟨L4, hys⟩ => ⟨Itl_go (SqL.of (L4.at h2)) (by rw [List.length_map]; exact hi), fun x H5 y => ?_⟩, fun ys H4 ⟨L4, hys⟩ => ⟨Itl_stop (SqL.of (L4.at h2)) (by rw [List.length_map]; exact Nat.le_refl _), fun p hp => ?_⟩⟩
      · obtain ⟨rfl, hx⟩ := Itl_yld (SqL.of (L4.at h2)) y
        obtain ⟨l, hl, rfl⟩ := get_map hx
        refine ⟨rfl, ?_⟩
        refine ⟨_, rfl, rfl, _, rfl, ?_⟩
        have fin : ys ++ [readV ws l] = (ls.take (i + 1)).map (readV ws) := by rw [take_snoc hl, List.map_append, hys]; rfl
        unfold wordV
        cases hv : ws[valB l]? with
        | none =>
          rw [decide_eq_true (show (V.non : V) = V.non from rfl)]
          refine iteT ⟨L4, ?_⟩
          rw [← fin]
          unfold readV
          rw [hv]
          rfl
        | some v =>
          rw [decide_eq_false (show ¬ sV v = V.non from fun z => by cases z)]
          refine iteF ⟨_, rfl, L4, ?_⟩
          rw [← fin]
          unfold readV
          rw [hv]
      · rw [hys, List.take_of_length_le (Nat.le_refl _)]
        exact hq _ p (L2.trans L4) hp
end
end K1

-- text K1I
set_option maxRecDepth 100000
set_option maxHeartbeats 4000000
namespace K1
open PySem PySem.Spec PyProof.Rows L2 LamX GX
section
variable {P : Program} {w : World} {K : PySem.W.Frag} {mg : Str → Option Value} {base : Heap}
/-! ### Book.told -/
def spw (l : List Nat) : List (List Nat) := TL.spl [32] 0 [] l
theorem spw_S (l : List Nat) : Txt.split (S l) (S [32]) = (spw l).map S := SX.split_S (by simp) rfl
theorem spl_all {s : List Nat} : ∀ (l : List Nat) (k : Nat) (acc : List Nat), (TL.spl s k acc l).length ≤ l.length + 1 ∧ ∀ x ∈ TL.spl s k acc l, x.length ≤ acc.length + l.length ∧ ∀ c ∈ x, c ∈ acc ∨ c ∈ l
  | [], k, acc => by
    rw [TL.spl_nil]
    refine ⟨Nat.le_refl _, fun x hx => ?_⟩
    rw [List.mem_singleton.mp hx]
    exact ⟨Nat.le_refl _, fun c hc => .inl hc⟩
  | y :: r, 0, acc => by
    by_cases h : TL.pre s (y :: r) = true
    · rw [TL.spl_hit h]
      obtain ⟨h1, h2⟩ := spl_all (s := s) r (s.length - 1) []
      refine ⟨by rw [List.length_cons, List.length_cons]; omega, fun x hx => ?_⟩
      rcases List.mem_cons.mp hx with rfl | hx
      · exact ⟨Nat.le_add_right _ _, fun c hc => .inl hc⟩
      · obtain ⟨h3, h4⟩ := h2 x hx
        refine ⟨by rw [List.length_nil] at h3; rw [List.length_cons]; omega, fun c hc => ?_⟩
        rcases h4 c hc with z | z
        · cases z
        · exact .inr (List.mem_cons_of_mem _ z)
    · rw [TL.spl_miss (by simpa using h)]
      obtain ⟨h1, h2⟩ := spl_all (s := s) r 0 (acc ++ [y])
      refine ⟨by rw [List.length_cons]; omega, fun x hx => ?_⟩
      obtain ⟨h3, h4⟩ := h2 x hx
      refine ⟨by rw [List.length_append, List.length_singleton] at h3; rw [List.length_cons]; omega, fun c hc => ?_⟩
      rcases h4 c hc with z | z
      · rcases List.mem_append.mp z with z | z
        · exact .inl z
        · rw [List.mem_singleton.mp z]; exact .inr List.mem_cons_self
      · exact .inr (List.mem_cons_of_mem _ z)
  | y :: r, k + 1, acc => by
    show (TL.spl s k acc r).length ≤ _ ∧ ∀ x ∈ TL.spl s k acc r, _
    obtain ⟨h1, h2⟩ := spl_all (s := s) r k acc
    refine ⟨by rw [List.length_cons]; omega, fun x hx => ?_⟩
    obtain ⟨h3, h4⟩ := h2 x hx
    exact ⟨by rw [List.length_cons]; omega, fun c hc => (h4 c hc).imp id (List.mem_cons_of_mem _)⟩
theorem spw_len (l : List Nat) : (spw l).length ≤ l.length + 2 := Nat.le_succ_of_le (spl_all (s := [32]) l 0 []).1
theorem spw_short {l x : List Nat} (h : x ∈ spw l) : x.length ≤ l.length := by
  have := ((spl_all (s := [32]) l 0 []).2 x h).1
  rw [List.length_nil] at this
  omega
theorem spw_in {l x : List Nat} (h : x ∈ spw l) {c : Nat} (hc : c ∈ x) : c ∈ l := (((spl_all (s := [32]) l 0 []).2 x h).2 c hc).resolve_left fun z => by cases z
theorem okT_small {l : List Nat} (h : ∀ c ∈ l, c < 256) : okT (S l) := by
  show (S l).cps.all (· < 0x110000) = true
  rw [← Array.all_toList]
  exact List.all_eq_true.mpr fun c hc => by
    have := h c (by rw [S_cps] at hc; exact hc)
    exact decide_eq_true (by omega)
def partsOf (ws : List (List Nat)) (x : List Nat) : List (List Nat) := if x ∈ ws then [x] else x.map fun c => [c]
def toldOk (ws : List (List Nat)) (l : List Nat) : Prop := ∀ x ∈ spw l, partsOf ws x ≠ [] ∧ ∀ p ∈ partsOf ws x, p ∈ ws
/-- the sign of a word -/
def sgn (ws : List (List Nat)) (n : Nat) (x : List Nat) : List Nat := bits (ws.idxOf x) n
def toldOf (ws : List (List Nat)) (n : Nat) (l : List Nat) : List (List Nat) := (((spw l).map (partsOf ws)).flatten).map (sgn ws n)
def spTold (K : PySem.W.Frag) : Sp := fun vs H Q E => ∃ (b : Addr) (n : Nat) (ws : List (List Nat)) (l : List Nat), vs = [.ref b, .str (S l)] ∧ isBook K H b n ws ∧ Tabs (T K) H ∧ n ≤ 10 ∧ l.length ≤ 900 ∧ (∀ c ∈ l, c < 256) ∧
  (toldOk ws l → ∀ H' p, Le (T K) H H' → H' p = none → Q (.ref p) (upd H' p (.tup ((toldOf ws n l).map sV)))) ∧ (¬ toldOk ws l → ∀ H', Le (T K) H H' → E (.ref (aCE K)) none H')
theorem idx_first {ws : List (List Nat)} {x : List Nat} (h : x ∈ ws) : ws[ws.idxOf x]? = some x ∧ ∀ m : Nat, m < ws.idxOf x → ws[m]? ≠ some x := by
  have hl := List.idxOf_lt_length_of_mem h
  refine ⟨by rw [List.getElem?_eq_getElem hl, List.getElem_idxOf hl], fun m hm z => ?_⟩
  have := List.not_of_lt_findIdx (p := fun y => y == x) (xs := ws) (i := m) hm
  obtain ⟨h1, h2⟩ := List.getElem?_eq_some_iff.mp z
  simp [h2] at this
theorem parts_len (ws : List (List Nat)) (x : List Nat) : (partsOf ws x).length ≤ x.length + 1 := by
  unfold partsOf
  by_cases h : x ∈ ws
  · rw [if_pos h]; show 1 ≤ _; omega
  · rw [if_neg h, List.length_map]; omega
theorem flat_len {ws : List (List Nat)} {m : Nat} : ∀ {xs : List (List Nat)}, (∀ x ∈ xs, x.length ≤ m) → ((xs.map (partsOf ws)).flatten).length ≤ xs.length * (m + 1)
  | [], _ => Nat.zero_le _
  | x :: r, h => by
    rw [List.map_cons, List.flatten_cons, List.length_append, List.length_cons, Nat.succ_mul]
    have h1 := parts_len ws x
    have h2 := h x List.mem_cons_self
    have h3 := flat_len (ws := ws) (xs := r) fun y hy => h y (List.mem_cons_of_mem _ hy)
    omega
theorem ok_told (C : Ctx K mg base) : MetX P w K mg base 3 (aBk K) "told" ["self", "text"] (spTold K) := by
  obtain ⟨fd, F⟩ := C.d.d_Book_told
  refine ⟨_, fd, ?_, F.funD.bindsN fun _ _ _ _ _ _ us hl => (match us, hl with | [_, _], _ => rfl), C.t.t_Book_told, C.t.c_Book⟩
  refine F.ok sc_Book_told (fun vs H Q E h => ?_) (fun A outer s H vs Q E hr h => ?_)
  · obtain ⟨b, n, ws, l, rfl, _⟩ := h
    rfl
  · obtain ⟨b, n, ws, l, rfl, hbk, hT, hn, hl, h256, hq, hno⟩ := h
    obtain ⟨e1, e2, e3, e4⟩ := C.t.e_CodeError
    have nn := sc_Book_told.nd
    obtain ⟨fS, fdS, FS, bS, mS, cS⟩ := ok_sign (P := P) (w := w) C
    refine ⟨_, pss_cons (ps_set (i := 2) nn rfl (Or.inl rfl) (pe_lst pa_nil))
      (pss_cons (ps_for ownsA rfl (pi_list (pe_split (pv 1) pe_str)) (pg_name (i := 3) nn rfl (Or.inl rfl))
        (C8.pss_cut (ps_set (i := 4) nn rfl (Or.inl rfl) (pe_ifExp (pt_cmpR op_in_seq (pv 3) (pe_fld (pv 0) rfl) rfl) (pe_lst (pa_cons (pv 3) pa_nil)) (pe_callTy (cr_listS rfl) (by rfl) C.t.b_list (by decide +kernel) (pa_cons (pv 3) pa_nil))))
        (pss_cons (ps_if (pt_cmpR (op_eqD hr.units) (pv 4) (pe_lst pa_nil) (nomark _)) (pss_one (ps_raise rfl takesA (pmk_own PySem.F.excBase_ValueError e1 C.t.m_CodeError e2 (raises_own e3 e4) (by rfl)))) pss_nil)
        (pss_one (ps_aug (i := 2) nn rfl (Or.inl rfl) (pe_lcX (own := [("part", 5)]) (g := gName 5) rfl nn rfl rfl takesA (pi_list (pv 4)) (blkOk_by (N := n_Book_told) (sc := defScope s_Book_told) (by decide +kernel))
          (fun _ _ _ _ _ => pg_name (i := 5) nn rfl (Or.inl rfl)) (fun _ _ _ _ _ => pts_nil) (fun _ _ _ _ _ _ _ px => pe_meth (pv 0) cS mS FS hr bS .nil px (pa_cons (pv 5) pa_nil))) iop_ext)))))
      (pss_one (ps_ret (pe_callTy call_tuple_of (by rfl) C.t.b_tuple (by decide +kernel) (pa_cons (pv 2) pa_nil))))), ?_⟩
    obtain ⟨dx, t, ob, hb, hf, hob⟩ := id hbk
    have h32 : (" " : Str) = S [32] := rfl
    refine ⟨by show 0 ≤ sizeLine; decide, fun f hfn => ?_⟩
    have L1 : Le (T K) H (upd H f (.lst [])) := (Le.refl hT).new hfn
    have hf1 : upd H f (.lst []) f = some (.lst []) := upd_same
    generalize upd H f (.lst []) = H1 at L1 hf1
    refine ⟨_, rfl, ⟨_, rfl⟩, S l, S [32], rfl, rfl, rfl, by rw [S_len]; exact Nat.le_trans (show l.length + 2 ≤ 902 by omega) (by decide), fun p hp => ?_⟩
    rw [spw_S, List.map_map]
    have L2 := L1.new (o := .lst ((spw l).map (V.str ∘ S))) hp
    have hp2 : upd H1 p (.lst ((spw l).map (V.str ∘ S))) p = some (.lst ((spw l).map sV)) := upd_same
    have hf2 : upd H1 p (.lst ((spw l).map (V.str ∘ S))) f = some (.lst []) := (upd_ne (ne_of_none hf1 hp)).trans hf1
    generalize upd H1 p (.lst ((spw l).map (V.str ∘ S))) = H2 at L2 hp2 hf2
    refine ⟨p, rfl, ⟨_, SqL.of hp2⟩, ?_⟩
    refine for_list (xs := (spw l).map sV) (fun i σ H' => Le (T K) H H' ∧ H' p = some (.lst ((spw l).map sV)) ∧ (∃ a3 a4, σ = [some (.ref b), some (.str (S l)), some (.ref f), a3, a4, none]) ∧ H' f = some (.lst ((((((spw l).take i).map (partsOf ws)).flatten).map (sgn ws n)).map sV)) ∧
        ∀ x ∈ (spw l).take i, partsOf ws x ≠ [] ∧ ∀ p ∈ partsOf ws x, p ∈ ws)
      ⟨L2, hp2, ⟨none, none, rfl⟩, hf2, fun x hx => by cases hx⟩ (fun i σ H' _ hP => SqL.of hP.2.1) (fun i x σ H3 hx ⟨L3, hp3, ⟨a3, a4, hσ⟩, hf3, hok⟩ => ?_) (fun σ H3 ⟨L3, hp3, ⟨a3, a4, hσ⟩, hf3, hok⟩ => ?_)
    · subst hσ
      obtain ⟨x, hxl, rfl⟩ := get_map hx
      have hm := List.mem_of_getElem? hxl
      have hil : i < (spw l).length := (List.getElem?_eq_some_iff.mp hxl).1
      have hsl := spw_len l
      refine ⟨fun σ' H' => ∃ q, Le (T K) H3 H' ∧ σ' = [some (.ref b), some (.str (S l)), some (.ref f), some (sV x), some (.ref q), none] ∧ H' q = some (.lst ((partsOf ws x).map sV)) ∧ H3 q = none, ?_, ?_⟩
      · refine ⟨_, rfl, _, rfl, b, _, dx, _, _, rfl, L3.at hb, C.t.c_Book, C.t.a_Book_words, rfl, t, _, rfl, .inr (.inl (.inr ⟨ob, L3.at hf⟩)), rfl, flat_words ws, _, rfl, ?_⟩
        show (if inV (sV x) (ws.map sV) = true then _ else _)
        rw [inV_words]
        by_cases hxw : x ∈ ws
        · rw [decide_eq_true hxw]
          refine iteT ⟨_, rfl, by show 1 ≤ sizeLine; decide, fun q hqn => ?_⟩
          refine ⟨q, (Le.refl L3.tab).new hqn, rfl, ?_, hqn⟩
          rw [upd_same]
          unfold partsOf
          rw [if_pos hxw]
          rfl
        · rw [decide_eq_false hxw]
          refine iteF ⟨_, rfl, x, rfl, Nat.le_trans (spw_short hm) (by omega), fun q hqn => ?_⟩
          refine ⟨q, (Le.refl L3.tab).new hqn, rfl, ?_, hqn⟩
          rw [upd_same]
          unfold partsOf
          rw [if_neg hxw, List.map_map]
          rfl
      · rintro σ' H4 ⟨q, L4, rfl, hq4, hqn⟩
        have hqf : q ≠ f := fun z => by rw [z, hf3] at hqn; cases hqn
        have hf4 := L4.at hf3
        refine ⟨_, rfl, by show 0 ≤ sizeLine; decide, fun e he => ?_⟩
        have hqe : q ≠ e := ne_of_none hq4 he
        refine ⟨.list (((partsOf ws x).map S).map PyData.str), .list (([] : List Str).map PyData.str), .lst (SqL.of ((upd_ne hqe).trans (hq4.trans ?_))) (DpAll.strs _), .lst (SqL.of upd_same) .nil, ?_, shaped_names (fun x hx => by cases hx), _, rfl, ?_⟩
        · rw [List.map_map]; rfl
        · exact shaped_names fun y hy => by
            obtain ⟨z, hz, rfl⟩ := List.mem_map.mp hy
            refine okT_small fun c hc => h256 c (spw_in hm ?_)
            unfold partsOf at hz
            by_cases hxw : x ∈ ws
            · rw [if_pos hxw] at hz
              rw [← List.mem_singleton.mp hz]; exact hc
            · rw [if_neg hxw] at hz
              obtain ⟨d, hd, rfl⟩ := List.mem_map.mp hz
              rw [List.mem_singleton.mp hc]; exact hd
        · have ev : PyData.eqv (.list (((partsOf ws x).map S).map PyData.str)) (.list (([] : List Str).map PyData.str)) = decide ((partsOf ws x).map S = []) := eqv_strs _ []
          rw [ev]
          by_cases hemp : partsOf ws x = []
          · rw [decide_eq_true (show (partsOf ws x).map S = [] by rw [hemp]; rfl)]
            exact iteT (hno (fun z => (z x hm).1 hemp) _ ((L3.trans L4).new he))
          rw [decide_eq_false (show ¬ (partsOf ws x).map S = [] from fun z => hemp (List.map_eq_nil_iff.mp z))]
          refine iteF ?_
          have L5 := L4.new (o := .lst []) he
          have hf5 : upd H4 e (.lst []) f = some _ := (upd_ne (ne_of_none hf4 he)).trans hf4
          have hq5 : upd H4 e (.lst []) q = some _ := (upd_ne hqe).trans hq4
          generalize upd H4 e (.lst []) = H5 at L5 hf5 hq5
          have LL := L3.trans L5
          refine ⟨_, rfl, _, rfl, q, rfl, ⟨_, SqL.of hq5⟩, fun D hD => ?_⟩
          have hfD : f ≠ D := ne_of_none hf5 hD
          refine lc_list (K := K) (a := q) (xs := (partsOf ws x).map sV) (fun j H' => Le (T K) H5 H' ∧ H' D = some (.lst ((((partsOf ws x).take j).map (sgn ws n)).map sV)) ∧ ∀ y ∈ (partsOf ws x).take j, y ∈ ws) ⟨(Le.refl L5.tab).new hD, upd_same, fun y hy => by cases hy⟩ (fun j H' _ hP => SqL.of (hP.1.at hq5)) (fun j y H6 hy ⟨L6, h6, hin⟩ => ?_) (fun H6 ⟨L6, h6, hin⟩ => ?_)
          · obtain ⟨y, hyl, rfl⟩ := get_map hy
            refine ⟨rfl, ?_⟩
            refine yes_ ?_
            refine iteT ?_
            refine ⟨_, rfl, b, dx, _, rfl, (LL.trans L6).at hb, rfl, _, rfl, b, n, ws, y, rfl, Le.book (LL.trans L6) hbk, L6.tab, hn, fun hny H7 L7 => ?_, fun p2 hp2 hfst H7 L7 => ?_⟩
            · exact hno (fun z => hny ((z x hm).2 y (List.mem_of_getElem? hyl))) _ ((LL.trans L6).trans L7)
            · have hyw : y ∈ ws := List.mem_of_getElem? hp2
              have ep : p2 = ws.idxOf y := by
                obtain ⟨i1, i2⟩ := idx_first hyw
                rcases Nat.lt_trichotomy p2 (ws.idxOf y) with z | z | z
                · exact absurd hp2 (i2 p2 z)
                · exact z
                · exact absurd i1 (hfst _ z)
              have h7 := L7.at h6
              have hpl := parts_len ws x
              have hxs := spw_short hm
              refine ⟨_, h7, ?_, (L6.trans L7).set hD h7, ?_, ?_⟩
              · rw [List.length_map, List.length_map, List.length_take]
                exact Nat.lt_of_le_of_lt (show min j (partsOf ws x).length ≤ 901 by omega) (by decide)
              · rw [upd_same, take_snoc hyl, List.map_append, List.map_append, ep]; rfl
              · intro z hz
                rw [take_snoc hyl] at hz
                rcases List.mem_append.mp hz with hz | hz
                · exact hin z hz
                · rw [List.mem_singleton.mp hz]; exact hyw
          · rw [List.length_map, List.take_of_length_le (Nat.le_refl _)] at h6 hin
            have hf6 := L6.at hf5
            have hlen := flat_len (ws := ws) (m := 900) (xs := (spw l).take i) fun y hy => Nat.le_trans (spw_short (List.mem_of_mem_take hy)) hl
            refine ⟨f, D, _, _, rfl, rfl, hf6, h6, ?_, ?_⟩
            · have hpl := parts_len ws x
              have hxs := spw_short hm
              rw [List.length_map, List.length_map, List.length_map, List.length_map]
              rw [List.length_take] at hlen
              have h1 : min i (spw l).length * (900 + 1) ≤ 902 * 901 := Nat.mul_le_mul (by omega) (Nat.le_refl _)
              exact Nat.le_trans (show _ ≤ 902 * 901 + 901 by omega) (by decide)
            · have hpf : p ≠ f := fun z => by rw [z, hf1] at hp; cases hp
              refine ⟨(LL.trans L6).set hfn hf6, (upd_ne hpf).trans ((L5.trans L6).at hp3), ⟨_, _, rfl⟩, ?_, ?_⟩
              · rw [upd_same, take_snoc hxl]
                simp only [List.map_append, List.map_cons, List.map_nil, List.flatten_append, List.flatten_cons, List.flatten_nil, List.append_nil]
              · intro z hz
                rw [take_snoc hxl] at hz
                rcases List.mem_append.mp hz with hz | hz
                · exact hok z hz
                · rw [List.mem_singleton.mp hz]; exact ⟨hemp, hin⟩
    · subst hσ
      rw [List.length_map, List.take_of_length_le (Nat.le_refl _)] at hf3 hok
      exact ⟨_, rfl, f, _, rfl, .inl ⟨SqL.of hf3, fun q hqn => hq hok _ q L3 hqn⟩⟩
end
end K1

-- text K1J
set_option maxRecDepth 100000
set_option maxHeartbeats 4000000
namespace K1
open PySem PySem.Spec PyProof.Rows L2 LamX GX
section
variable {P : Program} {w : World} {K : PySem.W.Frag} {mg : Str → Option Value} {base : Heap}
/-! ### Book.changes -/
theorem okS_bits {p n : Nat} (h : 1 ≤ n) : okS (bits p n) = true := by
  unfold okS
  have h1 : ∀ k, (bits p k).all (fun c => c == 48 || c == 49) = true := by
    intro k
    induction k with
    | zero => rfl
    | succ k ih =>
      show (_ && (bits p k).all _) = true
      rw [ih, Bool.and_true]
      rcases Nat.mod_two_eq_zero_or_one (p / 2 ^ k) with z | z <;> simp [z]
  have h2 : (bits p n).isEmpty = false := by
    cases n with
    | zero => omega
    | succ k => rfl
  rw [h1, h2]; rfl
theorem okS_zero {n : Nat} (h : 1 ≤ n) : okS (List.replicate n 48) = true := by
  unfold okS
  have h2 : (List.replicate n 48).isEmpty = false := by
    cases n with
    | zero => omega
    | succ k => rfl
  rw [h2]
  simp
def mvs : List Nat → List (List Nat) → Nat
  | _, [] => 0
  | a, b :: r => dist a b + mvs b r
def mvT (a : List Nat) (l : List (List Nat)) (i : Nat) : Nat := mvs a (l.take i)
/-- the sign before the i-th -/
def bef (a : List Nat) (l : List (List Nat)) (i : Nat) : List Nat := (a :: l).getD i []
theorem mvT_snoc : ∀ (a : List Nat) (l : List (List Nat)) (i : Nat) {b : List Nat}, l[i]? = some b → mvT a l (i + 1) = mvT a l i + dist (bef a l i) b
  | a, [], i, b, h => by simp at h
  | a, c :: r, 0, b, h => by
    have h : c = b := Option.some.inj h
    subst h
    show dist a c + mvs c (r.take 0) = 0 + dist a c
    rw [List.take_zero]
    show dist a c + 0 = _
    omega
  | a, c :: r, i + 1, b, h => by
    have ih := mvT_snoc c r i (b := b) h
    show dist a c + mvT c r (i + 1) = (dist a c + mvT c r i) + dist (bef c r i) b
    omega
def spChg (K : PySem.W.Frag) : Sp := fun vs H Q E => ∃ (b : Addr) (n : Nat) (ws : List (List Nat)) (l : List Nat), vs = [.ref b, .str (S l)] ∧ isBook K H b n ws ∧ Tabs (T K) H ∧ 1 ≤ n ∧ n ≤ 10 ∧ l.length ≤ 900 ∧ (∀ c ∈ l, c < 256) ∧
  (toldOk ws l → ∀ H', Le (T K) H H' → Q (.int ((mvs (List.replicate n 48) (toldOf ws n l) : Nat) : Int)) H') ∧ (¬ toldOk ws l → ∀ H', Le (T K) H H' → E (.ref (aCE K)) none H')
theorem ok_changes (C : Ctx K mg base) : MetX P w K mg base 4 (aBk K) "changes" ["self", "text"] (spChg K) := by
  obtain ⟨fd, F⟩ := C.d.d_Book_changes
  refine ⟨_, fd, ?_, F.funD.bindsN fun _ _ _ _ _ _ us hl => (match us, hl with | [_, _], _ => rfl), C.t.t_Book_changes, C.t.c_Book⟩
  refine F.ok sc_Book_changes (fun vs H Q E h => ?_) (fun A outer s H vs Q E hr h => ?_)
  · obtain ⟨b, n, ws, l, rfl, _⟩ := h
    rfl
  · obtain ⟨b, n, ws, l, rfl, hbk, hT, hn1, hn, hl, h256, hq, hno⟩ := h
    have nn := sc_Book_changes.nd
    obtain ⟨fS, fdS, FS, bS, mS, cS⟩ := ok_told (P := P) (w := w) C
    refine ⟨_, pss_cons (ps_par (i := 2) (j := 3) (by rfl) nn rfl rfl (by decide) rfl rfl (pa_cons (pe_op op_mulSign pe_str (pe_fld (pv 0) rfl)) (pa_cons pe_int pa_nil)) (by rfl))
      (pss_cons (ps_for ownsA rfl (pi_tup (pe_meth (pv 0) cS mS FS hr bS .nil passA (pa_cons (pv 1) pa_nil))) (pg_name (i := 4) nn rfl (Or.inl rfl))
        (pss_cons (ps_aug (i := 3) nn rfl (Or.inl rfl) (pe_cx (ok_far (P := P) (w := w) C) hr (by decide) rfl passA (pa_cons (pv 2) (pa_cons (pv 4) pa_nil))) ip_add)
        (pss_one (ps_set (i := 2) nn rfl (Or.inl rfl) (pv 4)))))
      (pss_one (ps_ret (pv 3)))), ?_⟩
    obtain ⟨dx, t, ob, hb, hf, hob⟩ := id hbk
    refine ⟨_, rfl, b, _, dx, _, _, rfl, hb, C.t.c_Book, C.t.a_Book_shutters, rfl, 48, n, rfl, rfl, by omega, _, _, rfl, ?_⟩
    refine ⟨_, rfl, b, dx, _, rfl, hb, rfl, _, rfl, b, n, ws, l, rfl, hbk, hT, hn, hl, h256, fun ho H1 p L1 hp => ?_, fun ho H1 L1 => hno ho _ L1⟩
    have hq := hq ho
    have L2 := L1.new (o := .tup ((toldOf ws n l).map sV)) hp
    have hp2 : upd H1 p (.tup ((toldOf ws n l).map sV)) p = some (.tup ((toldOf ws n l).map sV)) := upd_same
    have hln : ∀ x ∈ toldOf ws n l, okS x = true ∧ x.length = n := fun x hx => by
      unfold toldOf at hx
      obtain ⟨y, _, rfl⟩ := List.mem_map.mp hx
      exact ⟨okS_bits hn1, bits_len _ _⟩
    generalize upd H1 p (.tup ((toldOf ws n l).map sV)) = H2 at L2 hp2
    generalize toldOf ws n l = ts at hq hp2 hln
    refine ⟨p, rfl, ⟨_, SqT.of hp2⟩, ?_⟩
    have hbef : ∀ i, i ≤ ts.length → okS (bef (List.replicate n 48) ts i) = true ∧ (bef (List.replicate n 48) ts i).length = n := fun i hi => by
      unfold bef
      cases i with
      | zero => exact ⟨okS_zero hn1, List.length_replicate⟩
      | succ i =>
        have hi2 : i < ts.length := hi
        have e : (List.replicate n 48 :: ts).getD (i + 1) [] = ts[i] := by
          rw [List.getD_eq_getElem?_getD, List.getElem?_cons_succ, List.getElem?_eq_getElem hi2]; rfl
        rw [e]
        exact hln _ (List.getElem_mem hi2)
    refine for_tup (xs := ts.map sV) (fun i σ H' => Le (T K) H H' ∧ H' p = some (.tup (ts.map sV)) ∧ ∃ a4, σ = [some (.ref b), some (.str (S l)), some (sV (bef (List.replicate n 48) ts i)), some (.int ((mvT (List.replicate n 48) ts i : Nat) : Int)), a4])
      ⟨L2, hp2, none, rfl⟩ (fun i σ H' _ hP => SqT.of hP.2.1) (fun i x σ H3 hx ⟨L3, hp3, a4, hσ⟩ => ?_) (fun σ H3 ⟨L3, hp3, a4, hσ⟩ => ?_)
    · subst hσ
      obtain ⟨x, hxl, rfl⟩ := get_map hx
      have hm := List.mem_of_getElem? hxl
      have hil : i < ts.length := (List.getElem?_eq_some_iff.mp hxl).1
      obtain ⟨b1, b2⟩ := hbef i (Nat.le_of_lt hil)
      obtain ⟨c1, c2⟩ := hln x hm
      have hfar : farOk (bef (List.replicate n 48) ts i) x = true := by unfold farOk; rw [b1, c1, b2, c2]; simp
      refine ⟨_, rfl, _, rfl, _, rfl, _, x, rfl, L3.tab, by omega, by omega, fun _ H4 L4 => ?_, fun z => by rw [hfar] at z; cases z⟩
      refine ⟨_, _, rfl, rfl, _, rfl, L3.trans L4, L4.at hp3, some (sV x), ?_⟩
      rw [mvT_snoc _ _ _ hxl]
      have e : bef (List.replicate n 48) ts (i + 1) = x := by
        unfold bef
        rw [List.getD_eq_getElem?_getD, List.getElem?_cons_succ, hxl]; rfl
      rw [e, Int.natCast_add]
      rfl
    · subst hσ
      rw [List.length_map]
      have e : mvT (List.replicate n 48) ts ts.length = mvs (List.replicate n 48) ts := by unfold mvT; rw [List.take_of_length_le (Nat.le_refl _)]
      rw [e]
      exact ⟨_, rfl, hq _ L3⟩
end
end K1

-- text DcS
set_option maxRecDepth 100000
set_option maxHeartbeats 4000000
/-! DcS: y = {..} as a statement; any(..) over a tuple that stands. -/
namespace GX
open PySem PySem.Spec PyProof.Rows L2 LamX
section
variable {X : Cx}
theorem sw_dict {kx vx : Expr} {gs : List Comprehension} {scope : Scope} {pos py : Pos} {y : Str} {l : Nat} {env : Env} (hk : env.scope.kind = .function) (hy : env.scope.names.lookup y = some .local) (hl : (py.line == pos.line) = true)
    (ha : (scope.names.any fun (n, k) => n == y && (k == .local || k == .cell)) = false) : swapsWith (.DictComp kx vx gs scope pos) (some (.Name y py)) l env = pure true := by
  have hb : env.blockKind = .function := by unfold Env.blockKind; rw [hk]; rfl
  have ky : env.kindOf y = some .local := hy
  unfold swapsWith
  simp only [hb, ky, ha, Expr.pos, hl]
  rfl
/-- y = {k: v for target in iter if ..}, y a local -/
theorem ps_setDc {i : Nat} {y : Str} {py spos : Pos} {kx vx tg iter : Expr} {ifs : List Expr} {scope : Scope} {own : List (Str × Nat)} {pos : Pos} {wi : TI} {g : TG} {tt : TT} {tk tv : TE} (hc : X.calm = true) (hN : X.N.Nodup) (hy : X.N[i]? = some y) (hyl : X.env.scope.names.lookup y = some .local)
    (hsw : swapsWith (.DictComp kx vx [⟨tg, iter, ifs, 0⟩] scope pos) (some (.Name y py)) spos.line X.env = pure true) (hi : PI X tg iter wi) (ok : BlkOk X.N X.env.scope scope own)
    (hg : ∀ (s : Shared) (H : Hp) (C : Addr) (cl : List (Str × Addr)) (fp : List Addr), PG (X.blk s H scope (compEnvC scope cl C X.env) fp) tg g) (ht : ∀ (s : Shared) (H : Hp) (C : Addr) (cl : List (Str × Addr)) (fp : List Addr), PTs (X.blk s H scope (compEnvC scope cl C X.env) fp) ifs tt)
    (hk : ∀ (s : Shared) (H : Hp) (C : Addr) (cl : List (Str × Addr)) (fp : List Addr), PE (X.blk s H scope (compEnvC scope cl C X.env) fp) kx tk)
    (he : ∀ (s : Shared) (H : Hp) (C : Addr) (cl : List (Str × Addr)) (fp : List Addr), PE (X.blk s H scope (compEnvC scope cl C X.env) fp) vx tv) (hs : ∀ x, foldedSetIterable iter X.env x = pure x := by intro _; rfl) :
    PS X (.Assign [.Name y py] (.DictComp kx vx [⟨tg, iter, ifs, 0⟩] scope pos) spos) (tAsg (tDc wi g tt tk tv (own.map (·.2))) (gName i)) := by
  refine ⟨fun pins s σ H D I h => ?_⟩
  rw [exec_Assign_Name_used _ _ _ _ hsw]
  refine wpAny_bind (wpAny_standAt (wpAny_bind ?_))
  show wpAny _ X.A (do let _ ← comprehension (.DictComp kx vx [⟨tg, iter, ifs, 0⟩] scope pos) scope X.env (firstIterPos [⟨tg, iter, ifs, 0⟩] pos) newDict false (eval iter X.env) (some (assign (.Name y py) X.env))) _ _ s
  refine wpAny_bind (thn (dc_core (Q := fun x H1 => gName i x σ H1 D.nx) (Qf := fun _ z => SP X pins D .next z) hc hN I hi ok hg ht hk he hs h fun L C z m H' J q hn f => ?_) fun _ _ q => wpAny_pure (wpAny_pure q))
  obtain ⟨k0, k1, k2, k3, k4, k5⟩ := f
  show wpAny _ _ (assign (.Name y py) X.env (.ref L)) _ _ _
  refine wpAny_assign_Name (store_ok2 (v := V.ref L) J hN hy (.inl hyl) rfl (fun z2 J2 ⟨a, sb, ha⟩ => ⟨m, hn.sameBut sb (ha.elim (fun e => by rw [e]; exact k1) fun e z => k4 y a e z.symm), fun g3 sb3 => ?_⟩) (.inr hyl))
  exact ⟨_, H', J2.turned (t' := z2.toks) (fun b o hb e => (sb3.2 b hb).trans e) k0 k1 k3 k4 k5, q⟩
end
section
variable {T : List (Addr × Str)} {K : PySem.W.Frag} {g : TG} {te : TE} {vs : List Nat} {σ : L2.St} {H : Hp} {Qt Qf : Hp → Prop}
theorem genAny_tup {a : Addr} {xs : List V} (pb : Nat → Bool) (hs : SqT K H a xs)
    (step : ∀ i x H', xs[i]? = some x → (∀ j, j < i → pb j = false) → Le T H H' → g x (wipe σ vs) H' fun σ2 H3 => wipe σ2 vs = wipe σ vs ∧ te σ2 H3 fun y H4 => ∃ c, y = .bl c ∧ if c = true then Qt H4 else Le T H H4 ∧ ∀ j, j < i + 1 → pb j = false)
    (fin : ∀ H', Le T H H' → (∀ j, j < xs.length → pb j = false) → Qf H') :
    ∀ H2, ExtN H H2 → Tabs T H2 → (∀ b, H2 b = none → H b = none) → ∃ (n₀ : Nat) (W : Nat → Hp → Prop), W 0 H2 ∧
      (∀ i H, i < n₀ → W i H → (Itt K a).go i H ∧ ∀ x H', (Itt K a).yld i H x H' → g x (wipe σ vs) H' fun σ2 H3 => wipe σ2 vs = wipe σ vs ∧ te σ2 H3 fun y H4 => ∃ c, y = .bl c ∧ if c = true then Qt H4 else W (i + 1) H4) ∧
      (∀ H, W n₀ H → (Itt K a).stop n₀ H ∧ Qf H) := by
  intro H2 hE hT2 hno2
  refine ⟨xs.length, fun i H' => Le T H H' ∧ ∀ j, j < i → pb j = false, ⟨⟨hE, hT2, hno2⟩, fun j h => absurd h (Nat.not_lt_zero j)⟩, fun i H3 hi ⟨L3, h3⟩ => ⟨Itt_go (L3.seqT hs) hi, fun x H4 y => ?_⟩, fun H3 ⟨L3, h3⟩ => ⟨Itt_stop (L3.seqT hs) (Nat.le_refl _), fin H3 L3 h3⟩⟩
  obtain ⟨rfl, hx⟩ := Itt_yld (L3.seqT hs) y
  exact step i x _ hx h3 L3
end
end GX

-- text K1K
set_option maxRecDepth 100000
set_option maxHeartbeats 4000000
namespace K1
open PySem PySem.Spec PyProof.Rows L2 LamX GX
section
variable {P : Program} {w : World} {K : PySem.W.Frag} {mg : Str → Option Value} {base : Heap}
/-! ### Book.__init__ -/
theorem sqL_upd {H : Hp} {a b : Addr} {xs : List V} {o u : HO} (h : SqL K H a xs) (hb : H b = some u) (hu : ∀ ys, u ≠ .lst ys) (hf : ∀ ob ys, u ≠ .frz ob (.lst ys)) : SqL K (upd H b o) a xs := by
  rcases h with (h | ⟨ob, h⟩) | h
  · exact .inl (.inl ((upd_ne fun z => by rw [z, hb] at h; exact hu _ (Option.some.inj h)).trans h))
  · exact .inl (.inr ⟨ob, (upd_ne fun z => by rw [z, hb] at h; exact hf _ _ (Option.some.inj h)).trans h⟩)
  · exact .inr h
theorem putK_old {α : Type} [DecidableEq α] {kvs : List (α × V)} {k : α} {v : V} (h : valV kvs k ≠ none) : (putK kvs k v).length = kvs.length := by
  unfold putK
  rw [valV_any]
  cases e : valV kvs k with
  | none => exact absurd e h
  | some x => rw [Option.isSome_some, if_pos rfl, List.length_map]
def bookBad (n : Int) (ws : List (List Nat)) : Prop := ¬ (1 ≤ n ∧ n ≤ 10) ∨ ¬ (0 < ws.length ∧ ws.length ≤ 200 ∧ ws.length ≤ 2 ^ n.toNat) ∨ ¬ ws.Nodup ∨ ∃ x ∈ ws, x = [] ∨ 32 ∈ x
def spBook (K : PySem.W.Frag) : Sp := fun vs H Q E => ∃ (b a dx : Addr) (n : Int) (ws : List (List Nat)) (H0 : Hp), vs = [.ref b, .int n, .ref a] ∧ H b = some (.ins (aBk K) dx []) ∧ H0 b = none ∧ Le (T K) H0 H ∧ SqL K H a (ws.map sV) ∧ ws.length ≤ 1000 ∧
  (bookBad n ws → ∀ H', Le (T K) H0 H' → E (.ref (aCE K)) none H') ∧ (¬ bookBad n ws → ∀ H', Le (T K) H0 H' → isBook K H' b n.toNat ws → Q .non H')
theorem ok_book (C : Ctx K mg base) : MakX P w K mg base 3 "Book" (aBk K) ["self", "shutters", "words"] (spBook K) := by
  obtain ⟨fd, F⟩ := C.d.d_Book_init
  refine ⟨_, fd, ?_, F.funD.bindsN fun _ _ _ _ _ _ us hl => (match us, hl with | [_, _, _], _ => rfl), C.t.k_Book, C.t.m_Book⟩
  refine F.ok sc_Book_init (fun vs H Q E h => ?_) (fun A outer s H vs Q E hr h => ?_)
  · obtain ⟨b, a, dx, n, ws, H0, rfl, _⟩ := h
    rfl
  · obtain ⟨b, a, dx, n, ws, H0, rfl, hb, hb0, L0, ha, hw, hno, hq⟩ := h
    obtain ⟨e1, e2, e3, e4⟩ := C.t.e_CodeError
    obtain ⟨t1, i1⟩ := C.t.i_MOST_SHUTTERS
    obtain ⟨t2, i2⟩ := C.t.i_MOST_WORDS
    have nn := sc_Book_init.nd
    refine ⟨_, pss_cons (ps_fld (pv 0) (pv 1) rfl)
      (pss_cons (ps_fld (pv 0) (pe_callTy cr_tupF (by rfl) C.t.b_tuple (by decide +kernel) (pa_cons (pv 2) pa_nil)) rfl)
      (pss_cons (ps_if (PW.pt (pw_or (pt_not (pt_chain op_le op_le pe_int (pv 1) (pe_glob (by rfl) i1 (v := .int 10) ⟨_, rfl⟩)))
          (pw_or1 (pt_not (pt_chain op_lt op_le pe_int (pe_callB call_len_seq (by rfl) C.t.b_len PySem.boot_len (pa_cons (pe_fld (pv 0) rfl) pa_nil)) (pe_callB (call_min2 rfl) (by rfl) C.t.b_min (by decide +kernel) (pa_cons (pe_glob (by rfl) i2 (v := .int 200) ⟨_, rfl⟩) (pa_cons (pe_op op_shl pe_int (pv 1)) pa_nil))))))))
        (pss_one (ps_raise rfl takesA (pmk_own PySem.F.excBase_ValueError e1 C.t.m_CodeError e2 (raises_own e3 e4) (by rfl)))) pss_nil)
      (pss_cons (ps_setDc (i := 3) (own := [("word", 4)]) (g := gName 4) rfl nn rfl rfl (sw_dict rfl rfl rfl (by decide +kernel)) (pi_tup (pe_fld (pv 0) rfl)) (blkOk_by (N := n_Book_init) (sc := defScope s_Book_init) (by decide +kernel))
        (fun _ _ _ _ _ => pg_name (i := 4) nn rfl (Or.inl rfl)) (fun _ _ _ _ _ => pts_nil) (fun _ _ _ _ _ => pv 4) (fun _ _ _ _ _ => pe_bl))
      (pss_one (ps_if (PW.pt (pw_or (pt_cmpR op_lt (pe_callB call_lenD (by rfl) C.t.b_len PySem.boot_len (pa_cons (pv 3) pa_nil)) (pe_callB call_len_seq (by rfl) C.t.b_len PySem.boot_len (pa_cons (pe_fld (pv 0) rfl) pa_nil)) (nomark _))
          (pw_or1 (pt_val (pe_genAny (T := T K) (own := [("word", 4)]) (g := gName 4) hr rfl C.t.b_any nn (C.b _ (tf_mem 0)) rfl (T_mem 0) (T_uniq C.u 0) (pi_tup (pe_fld (pv 0) rfl)) (gsc_by (blkOk_by (N := n_Book_init) (sc := defScope s_Book_init) (by decide +kernel)) (by decide +kernel))
            (fun _ _ _ _ _ => pg_name (i := 4) nn rfl (Or.inl rfl)) (fun _ _ _ _ _ hrk => pe_or (pe_cmpR op_eq (pv 4) pe_str (nomark _)) (pe_one (pe_cmpR op_in_sign pe_str (pv 4) rfl))))))))
        (pss_one (ps_raise rfl takesA (pmk_own PySem.F.excBase_ValueError e1 C.t.m_CodeError e2 (raises_own e3 e4) (by rfl)))) pss_nil))))), ?_⟩
    refine ⟨_, rfl, _, rfl, b, _, dx, _, rfl, hb, C.t.c_Book, C.t.a_Book_shutters, by show 0 < 1000; decide, ?_⟩
    have L1 : Le (T K) H0 (upd H b (.ins (aBk K) dx (putF "shutters" (.int n) []))) := L0.set hb0 hb
    have hb1 : upd H b (.ins (aBk K) dx (putF "shutters" (.int n) [])) b = some (.ins (aBk K) dx (putF "shutters" (.int n) [])) := upd_same
    have ha1 : SqL K (upd H b (.ins (aBk K) dx (putF "shutters" (.int n) []))) a (ws.map sV) := sqL_upd ha hb (fun _ z => by cases z) (fun _ _ z => by cases z)
    generalize upd H b (.ins (aBk K) dx (putF "shutters" (.int n) [])) = H1 at L1 hb1 ha1
    refine ⟨_, rfl, a, _, rfl, ha1, fun t ob hob htn => ?_⟩
    have L2 := L1.new (o := .frz ob (.tup (ws.map sV))) htn
    have hbt : b ≠ t := ne_of_none hb1 htn
    have hb2 : upd H1 t (.frz ob (.tup (ws.map sV))) b = _ := (upd_ne hbt).trans hb1
    have ht2 : upd H1 t (.frz ob (.tup (ws.map sV))) t = some (.frz ob (.tup (ws.map sV))) := upd_same
    generalize upd H1 t (.frz ob (.tup (ws.map sV))) = H2 at L2 hb2 ht2
    refine ⟨_, rfl, b, _, dx, _, rfl, hb2, C.t.c_Book, C.t.a_Book_words, by show 1 < 1000; decide, ?_⟩
    have L3 : Le (T K) H0 (upd H2 b (.ins (aBk K) dx (putF "words" (.ref t) (putF "shutters" (.int n) [])))) := L2.set hb0 hb2
    have hb3 : upd H2 b (.ins (aBk K) dx (putF "words" (.ref t) (putF "shutters" (.int n) []))) b = some (.ins (aBk K) dx [("shutters", .int n), ("words", .ref t)]) := upd_same
    have ht3 : upd H2 b (.ins (aBk K) dx (putF "words" (.ref t) (putF "shutters" (.int n) []))) t = some (.frz ob (.tup (ws.map sV))) := (upd_ne (Ne.symm hbt)).trans ht2
    generalize upd H2 b (.ins (aBk K) dx (putF "words" (.ref t) (putF "shutters" (.int n) []))) = H3 at L3 hb3 ht3
    have st3 : SqT K H3 t (ws.map sV) := .inl (.inr ⟨ob, ht3⟩)
    refine ⟨_, rfl, _, _, rfl, rfl, _, rfl, ?_⟩
    by_cases n1 : 1 ≤ n
    case neg =>
      rw [decide_eq_false n1]
      exact iteF ⟨_, rfl, iteT (iteT (hno (.inl fun z => n1 z.1) _ L3))⟩
    rw [decide_eq_true n1]
    refine iteT ⟨_, _, rfl, rfl, _, rfl, ?_⟩
    by_cases n10 : n ≤ 10
    case neg =>
      rw [decide_eq_false n10]
      exact iteT (iteT (hno (.inl fun z => n10 z.2) _ L3))
    rw [decide_eq_true n10]
    refine iteF ?_
    refine ⟨_, rfl, b, _, dx, _, _, rfl, hb3, C.t.c_Book, C.t.a_Book_words, rfl, t, _, rfl, .inr st3, _, _, rfl, rfl, _, rfl, ?_⟩
    rw [List.length_map]
    by_cases w0 : 0 < ws.length
    case neg =>
      rw [decide_eq_false (show ¬ (0 : Int) < (ws.length : Nat) by omega)]
      exact iteF ⟨_, rfl, iteT (hno (.inr (.inl fun z => w0 z.1)) _ L3)⟩
    rw [decide_eq_true (show (0 : Int) < (ws.length : Nat) by omega)]
    refine iteT ⟨_, rfl, _, _, rfl, rfl, ⟨by omega, by omega, by decide⟩, _, _, rfl, _, _, rfl, rfl, _, rfl, ?_⟩
    have hpow : (1 : Int) * 2 ^ n.toNat = ((2 ^ n.toNat : Nat) : Int) := by rw [Int.one_mul, Int.natCast_pow]; rfl
    rw [hpow]
    by_cases w1 : ws.length ≤ 200 ∧ ws.length ≤ 2 ^ n.toNat
    case neg =>
      have : ¬ ((ws.length : Nat) : Int) ≤ (if ((2 ^ n.toNat : Nat) : Int) < 200 then ((2 ^ n.toNat : Nat) : Int) else 200) := by
        intro z
        refine w1 ⟨?_, ?_⟩ <;> split at z <;> omega
      rw [decide_eq_false this]
      exact iteT (hno (.inr (.inl fun z => w1 z.2)) _ L3)
    have w1' : ((ws.length : Nat) : Int) ≤ (if ((2 ^ n.toNat : Nat) : Int) < 200 then ((2 ^ n.toNat : Nat) : Int) else 200) := by
      split <;> omega
    rw [decide_eq_true w1']
    refine iteF ?_
    refine ⟨_, rfl, b, _, dx, _, _, rfl, hb3, C.t.c_Book, C.t.a_Book_words, rfl, t, rfl, ⟨_, st3⟩, fun D hD => ?_⟩
    refine dc_n ws.length (fun i H' => Le (T K) H3 H' ∧ ∃ kvs : List (_root_.L2.Key × V), H' D = some (.dK kvs) ∧ kvs.length ≤ i ∧ (∀ y, valV kvs (Sum.inr (S y)) ≠ none ↔ y ∈ ws.take i) ∧ ((ws.take i).Nodup → kvs.length = i) ∧ (¬ (ws.take i).Nodup → kvs.length < i))
      ⟨(Le.refl L3.tab).new hD, [], upd_same, Nat.le_refl _, fun y => by simp [valV], fun _ => rfl, fun z => absurd List.nodup_nil z⟩
      (fun i H4 hi ⟨L4, kvs, h4, k1, k2, k3, k4⟩ => ⟨Itt_go (L4.seqT st3) (by rw [List.length_map]; exact hi), fun x H5 hy => ?_⟩) (fun H4 ⟨L4, kvs, h4, k1, k2, k3, k4⟩ => ⟨Itt_stop (L4.seqT st3) (by rw [List.length_map]; exact Nat.le_refl _), ?_⟩)
    · obtain ⟨rfl, hx⟩ := Itt_yld (L4.seqT st3) hy
      obtain ⟨x, hxl, rfl⟩ := get_map hx
      refine ⟨rfl, ?_⟩
      refine yes_ ?_
      refine iteT ?_
      refine ⟨_, rfl, kvs, Sum.inr (S x), rfl, h4, Nat.lt_of_le_of_lt (show kvs.length ≤ 1000 by omega) (by decide), L4.set hD h4, _, upd_same, ?_⟩
      have nd1 : (ws.take (i + 1)).Nodup ↔ (ws.take i).Nodup ∧ x ∉ ws.take i := by
        rw [take_snoc hxl, List.nodup_append]
        simp only [List.nodup_cons, List.not_mem_nil, not_false_iff, List.nodup_nil, and_true, true_and, List.mem_singleton]
        exact ⟨fun ⟨u, v⟩ => ⟨u, fun z => v x z x rfl rfl⟩, fun ⟨u, v⟩ => ⟨u, fun a ha c hc e => v (by rw [← hc, ← e]; exact ha)⟩⟩
      have kk : ∀ y, valV (putK kvs (Sum.inr (S x)) (V.bl true)) (Sum.inr (S y)) ≠ none ↔ y ∈ ws.take (i + 1) := fun y => by
        rw [valV_put, take_snoc hxl, List.mem_append, List.mem_singleton, ← k2 y]
        by_cases e : y = x
        · rw [e, if_pos rfl]; simp
        · rw [if_neg (fun z => e (S_inj (Sum.inr.inj z)))]
          simp [e]
      by_cases hin : x ∈ ws.take i
      · have e := putK_old (v := V.bl true) ((k2 x).mpr hin)
        refine ⟨by omega, kk, fun z => absurd hin (nd1.mp z).2, fun _ => by omega⟩
      · have hv : valV kvs (Sum.inr (S x)) = none := by
          cases q : valV kvs (Sum.inr (S x)) with
          | none => rfl
          | some v => exact absurd ((k2 x).mp (by rw [q]; simp)) hin
        have e : (putK kvs (Sum.inr (S x)) (V.bl true)).length = kvs.length + 1 := by rw [putK_new _ hv, List.length_append]; rfl
        refine ⟨by omega, kk, fun z => by rw [e, k3 (nd1.mp z).1], fun z => ?_⟩
        have := k4 fun z2 => z (nd1.mpr ⟨z2, hin⟩)
        omega
    · rw [List.take_of_length_le (Nat.le_refl _)] at k3 k4
      have hb4 := L4.at hb3
      have st4 := L4.seqT st3
      have L5 := L3.trans L4
      refine ⟨_, rfl, D, _, rfl, h4, _, rfl, b, _, dx, _, _, rfl, hb4, C.t.c_Book, C.t.a_Book_words, rfl, t, _, rfl, .inr st4, _, _, rfl, rfl, _, rfl, ?_⟩
      rw [List.length_map]
      by_cases ndw : ws.Nodup
      case neg =>
        have := k4 ndw
        rw [decide_eq_true (show ((kvs.length : Nat) : Int) < (ws.length : Nat) by omega)]
        exact iteT (iteT (hno (.inr (.inr (.inl ndw))) _ L5))
      have k5 := k3 ndw
      rw [decide_eq_false (show ¬ ((kvs.length : Nat) : Int) < (ws.length : Nat) by omega)]
      refine iteF ?_
      refine ⟨_, rfl, b, _, dx, _, _, rfl, hb4, C.t.c_Book, C.t.a_Book_words, rfl, t, rfl, ⟨_, st4⟩, L4.tab, ?_⟩
      refine genAny_tup (pb := fun i => decide (ws.getD i [] = []) || decide (32 ∈ ws.getD i [])) (xs := ws.map sV) st4 (fun i x H6 hx h0 L6 => ?_) (fun H6 L6 hnone => ?_)
      · obtain ⟨x, hxl, rfl⟩ := get_map hx
        have hm := List.mem_of_getElem? hxl
        have gd : ws.getD i [] = x := by rw [List.getD_eq_getElem?_getD, hxl]; rfl
        refine ⟨rfl, ?_⟩
        refine ⟨_, rfl, rfl, _, rfl, ?_⟩
        by_cases hx0 : x = []
        · subst hx0
          refine iteT ⟨_, rfl, any_close ?_ h0 L6 fun ht => ⟨_, rfl, iteT (hno (.inr (.inr (.inr ⟨_, hm, .inl rfl⟩))) _ (L5.trans L6))⟩⟩
          show true = (decide (ws.getD i [] = []) || decide (32 ∈ ws.getD i []))
          rw [gd]; rfl
        · rw [decide_eq_false (show ¬ sV x = V.str "" from fun z => hx0 (S_inj (V.str.inj z)))]
          refine iteF ⟨_, rfl, 32, _, rfl, rfl, _, rfl, any_close ?_ h0 L6 fun ht => ⟨_, rfl, iteT (hno (.inr (.inr (.inr ⟨_, hm, .inr ?_⟩))) _ (L5.trans L6))⟩⟩
          · show decide (32 ∈ (S x).cps.toList) = (decide (ws.getD i [] = []) || decide (32 ∈ ws.getD i []))
            rw [gd, S_cps, decide_eq_false hx0, Bool.false_or]
          · have ht : (decide (ws.getD i [] = []) || decide (32 ∈ ws.getD i [])) = true := ht
            rw [gd, decide_eq_false hx0, Bool.false_or] at ht
            exact of_decide_eq_true ht
      · refine ⟨_, rfl, iteF ?_⟩
        have good : ¬ bookBad n ws := by
          rintro (z | z | z | ⟨x, hx, z⟩)
          · exact z ⟨n1, n10⟩
          · exact z ⟨w0, w1⟩
          · exact z ndw
          · obtain ⟨j, hj, e⟩ := List.mem_iff_getElem.mp hx
            have h1 : (decide (ws.getD j [] = []) || decide (32 ∈ ws.getD j [])) = false := hnone j (by rw [List.length_map]; exact hj)
            have gd : ws.getD j [] = x := by rw [List.getD_eq_getElem?_getD, List.getElem?_eq_getElem hj, e]; rfl
            rw [gd] at h1
            rcases z with z | z <;> simp [z] at h1
        refine hq good _ (L5.trans L6) ⟨dx, t, ob, ?_, L6.at (L4.at ht3), hob⟩
        have e : (n : Int) = (n.toNat : Nat) := by omega
        have := L6.at hb4
        rw [this]
        unfold bkF
        rw [← e]
end
end K1

-- text K1L
set_option maxRecDepth 100000
set_option maxHeartbeats 4000000
namespace K1
open PySem PySem.Spec PyProof.Rows L2 LamX GX
section
variable {P : Program} {w : World} {K : PySem.W.Frag} {mg : Str → Option Value} {base : Heap}
/-! ### the law's dice -/
abbrev dV (x y z : Int) : HO := .lst [.int x, .int y, .int z]
def spDice (K : PySem.W.Frag) : Sp := fun vs H Q _ => ∃ n : Int, vs = [.int n] ∧ ∀ x y z p, H p = none → Q (.ref p) (upd H p (dV x y z))
theorem ok_dice (C : Ctx K mg base) : CalX P w K mg base 1 "_law_dice" ["cell"] (spDice K) := by
  obtain ⟨fd, F⟩ := C.d.d_l_dice
  refine ⟨_, fd, ?_, F.funD.bindsN fun _ _ _ _ _ _ us hl => (match us, hl with | [_], _ => rfl), F.kp, C.t.m_l_dice⟩
  refine F.ok sc_l_dice (fun vs H Q E h => ?_) (fun A outer s H vs Q E hr h => ?_)
  · obtain ⟨n, rfl, _⟩ := h
    rfl
  · obtain ⟨n, rfl, hq⟩ := h
    refine ⟨_, pss_cons (ps_if (pt_chain op_lt op_lt (pe_op op_sub pe_int pe_int) (pv 0) pe_int) (pss_one (ps_ret (pe_lst (pa_cons (pe_callB call_abs (by rfl) C.t.b_abs (by decide +kernel) (pa_cons (pv 0) pa_nil)) (pa_cons pe_int (pa_cons pe_int pa_nil)))))) pss_nil)
      (pss_one (ps_ret (pe_lst (pa_cons (pv 0) (pa_cons (pe_op op_add pe_int (pe_op op_mod (pe_callTy call_int1 (by rfl) C.t.b_int (by decide +kernel) (pa_cons (pv 0) pa_nil)) pe_int)) (pa_cons (pe_callTy call_int1 (by rfl) C.t.b_int (by decide +kernel) (pa_cons (pe_cmpR op_ge (pv 0) (pe_op op_pow pe_int pe_int) (nomark _)) pa_nil)) pa_nil)))))), ?_⟩
    have last : ∀ H1 : Hp, H1 = H → (∀ (x y z : Int) (p : Addr), H1 p = none → Q (.ref p) (upd H1 p (dV x y z))) := fun H1 e => by rw [e]; exact hq
    refine ⟨_, _, rfl, rfl, _, rfl, _, _, rfl, rfl, _, rfl, ?_⟩
    by_cases h1 : (0 : Int) - 10 < n
    · rw [decide_eq_true h1]
      refine iteT ⟨_, _, rfl, rfl, _, rfl, ?_⟩
      by_cases h2 : n < 10
      · rw [decide_eq_true h2]
        exact iteT ⟨_, rfl, _, rfl, by show 3 ≤ sizeLine; decide, fun p hp => hq _ _ _ p hp⟩
      · rw [decide_eq_false h2]
        refine iteF ?_
        exact ⟨_, rfl, _, rfl, .inl ⟨_, rfl, _, _, rfl, rfl, by show (0 : Int) < 1009; decide, _, _, rfl, rfl, _, rfl, _, _, rfl, rfl, ⟨by decide, by decide, by decide⟩, _, _, rfl, rfl, .inr ⟨_, rfl, by show 3 ≤ sizeLine; decide, fun p hp => hq _ _ _ p hp⟩⟩⟩
    · rw [decide_eq_false h1]
      refine iteF ⟨_, rfl, iteF ?_⟩
      exact ⟨_, rfl, _, rfl, .inl ⟨_, rfl, _, _, rfl, rfl, by show (0 : Int) < 1009; decide, _, _, rfl, rfl, _, rfl, _, _, rfl, rfl, ⟨by decide, by decide, by decide⟩, _, _, rfl, rfl, .inr ⟨_, rfl, by show 3 ≤ sizeLine; decide, fun p hp => hq _ _ _ p hp⟩⟩⟩
theorem upd_upd {H : Hp} {a : Addr} {u v : HO} : upd (upd H a u) a v = upd H a v := by
  funext b
  by_cases h : b = a
  · rw [h, upd_same, upd_same]
  · rw [upd_ne h, upd_ne h, upd_ne h]
def spRoll (K : PySem.W.Frag) : Sp := fun vs H Q _ => ∃ (d : Addr) (x y z m : Int), vs = [.ref d, .int m] ∧ H d = some (dV x y z) ∧ 0 < m ∧ m ≤ 1000 ∧ ∀ x y z r, 0 ≤ r → r < m → Q (.int r) (upd H d (dV x y z))
theorem ok_roll (C : Ctx K mg base) : CalX P w K mg base 1 "_law_roll" ["dice", "many"] (spRoll K) := by
  obtain ⟨fd, F⟩ := C.d.d_l_roll
  refine ⟨_, fd, ?_, F.funD.bindsN fun _ _ _ _ _ _ us hl => (match us, hl with | [_, _], _ => rfl), F.kp, C.t.m_l_roll⟩
  refine F.ok sc_l_roll (fun vs H Q E h => ?_) (fun A outer s H vs Q E hr h => ?_)
  · obtain ⟨d, x, y, z, m, rfl, _⟩ := h
    rfl
  · obtain ⟨d, x, y, z, m, rfl, hd, hm, hm2, hq⟩ := h
    have nn := sc_l_roll.nd
    refine ⟨_, C8.pss_cut (ps_if (PW.pt (pw_or (pt_cmpR op_eq (pe_ix ix_list (pv 0) pe_int (fun _ _ => rfl)) pe_int (nomark _)) (pw_or1 (PW.pt (pw_and (pt_cmpR op_eq (pe_ix ix_list (pv 0) pe_int (fun _ _ => rfl)) pe_int (nomark _)) (pw_and1 (pt_cmpR op_gt (pe_ix ix_list (pv 0) pe_int (fun _ _ => rfl)) pe_int (nomark _))))))))
        (pss_cons (ps_set (i := 2) nn rfl (Or.inl rfl) (pe_op op_mod (pe_callTy call_int1 (by rfl) C.t.b_int (by decide +kernel) (pa_cons (pe_ix ix_list (pv 0) pe_int (fun _ _ => rfl)) pa_nil)) (pv 1)))
        (pss_cons (ps_asg (pe_op op_fdiv (pe_ix ix_list (pv 0) pe_int (fun _ _ => rfl)) (pv 1)) (pg_sub (pv 0) pe_int set_list))
        (pss_one (ps_ret (pv 2))))) pss_nil)
      (pss_cons (ps_asg pe_int (pg_sub (pv 0) pe_int set_list))
      (pss_cons (ps_if (pt_cmpR op_gt (pv 1) pe_int (nomark _)) (pss_one ps_never) pss_nil)
      (pss_cons (ps_asg (pe_op op_mod (pe_callTy call_int1 (by rfl) C.t.b_int (by decide +kernel) (pa_cons (pe_op op_add (pe_op op_add (pe_op op_mul (pe_ix ix_list (pv 0) pe_int (fun _ _ => rfl)) pe_int) (pe_op op_mul (pe_ix ix_list (pv 0) pe_int (fun _ _ => rfl)) pe_int)) pe_int) pa_nil)) pe_int) (pg_sub (pv 0) pe_int set_list))
      (pss_cons (ps_asg (pe_op op_add (pe_ix ix_list (pv 0) pe_int (fun _ _ => rfl)) pe_int) (pg_sub (pv 0) pe_int set_list))
      (pss_one (ps_ret (pe_op op_mod (pe_callTy call_int1 (by rfl) C.t.b_int (by decide +kernel) (pa_cons (pe_op op_fdiv (pe_ix ix_list (pv 0) pe_int (fun _ _ => rfl)) pe_int) pa_nil)) (pv 1))))))))
      , ?_⟩
    have r0 : ∀ a : Int, 0 ≤ a % m ∧ a % m < m := fun a => ⟨Int.emod_nonneg _ (by omega), Int.emod_lt_of_pos _ hm⟩
    refine ⟨fun σ' H' => σ' = [some (.ref d), some (.int m), none] ∧ H' = H, ?_, ?_⟩
    · refine ⟨_, rfl, d, _, _, _, rfl, rfl, SqL.of hd, atI_nat (j := 2) rfl, rfl, _, rfl, ?_⟩
      by_cases hz : z = 2
      · rw [decide_eq_true (show V.int z = V.int 2 by rw [hz])]
        refine iteT (iteT ?_)
        exact ⟨_, rfl, d, _, _, _, rfl, rfl, SqL.of hd, atI_nat (j := 0) rfl, .inl ⟨_, rfl, _, rfl, _, _, rfl, rfl, hm, _, rfl, d, _, _, _, rfl, rfl, SqL.of hd, atI_nat (j := 0) rfl, _, rfl, _, _, rfl, rfl, ⟨hm, by omega⟩, _, rfl, d, _, _, 0, rfl, rfl, hd, rfl, _, rfl, hq _ _ _ _ (r0 x).1 (r0 x).2⟩⟩
      rw [decide_eq_false (show ¬ V.int z = V.int 2 from fun q => hz (by injection q))]
      refine iteF ?_
      refine ⟨_, rfl, d, _, _, _, rfl, rfl, SqL.of hd, atI_nat (j := 2) rfl, rfl, _, rfl, ?_⟩
      by_cases h1 : z = 1
      · rw [decide_eq_true (show V.int z = V.int 1 by rw [h1])]
        refine iteT ⟨_, rfl, d, _, _, _, rfl, rfl, SqL.of hd, atI_nat (j := 0) rfl, _, _, rfl, rfl, _, rfl, ?_⟩
        by_cases h2 : 0 < x
        · rw [decide_eq_true h2]
          refine iteT ?_
          exact ⟨_, rfl, d, _, _, _, rfl, rfl, SqL.of hd, atI_nat (j := 0) rfl, .inl ⟨_, rfl, _, rfl, _, _, rfl, rfl, hm, _, rfl, d, _, _, _, rfl, rfl, SqL.of hd, atI_nat (j := 0) rfl, _, rfl, _, _, rfl, rfl, ⟨hm, by omega⟩, _, rfl, d, _, _, 0, rfl, rfl, hd, rfl, _, rfl, hq _ _ _ _ (r0 x).1 (r0 x).2⟩⟩
        · rw [decide_eq_false h2]
          exact iteF ⟨rfl, rfl⟩
      · rw [decide_eq_false (show ¬ V.int z = V.int 1 from fun q => h1 (by injection q))]
        exact iteF (iteF ⟨rfl, rfl⟩)
    · rintro σ' H' ⟨rfl, rfl⟩
      refine ⟨_, rfl, d, _, _, 2, rfl, rfl, hd, rfl, _, rfl, _, _, rfl, rfl, _, rfl, ?_⟩
      rw [decide_eq_false (show ¬ (100000000 : Int) < m by omega)]
      refine iteF ?_
      have hd1 : upd H' d (.lst ([V.int x, V.int y, V.int z].set 2 (V.int 0))) d = some (dV x y 0) := upd_same
      refine ⟨_, rfl, d, _, _, _, rfl, rfl, SqL.of hd1, atI_nat (j := 0) rfl, _, _, rfl, rfl, .inr ⟨by decide, by decide⟩, _, rfl, d, _, _, _, rfl, rfl, SqL.of hd1, atI_nat (j := 1) rfl, _, _, rfl, rfl, .inr ⟨by decide, by decide⟩, _, _, rfl, rfl, _, _, rfl, rfl, .inl ⟨_, rfl, _, _, rfl, rfl, by show (0 : Int) < 2147483647; decide, ?_⟩⟩
      refine ⟨_, rfl, d, _, _, 0, rfl, rfl, hd1, rfl, ?_⟩
      rw [upd_upd]
      have hd2 : ∀ v : Int, upd H' d (.lst ([V.int x, V.int y, V.int 0].set 0 (V.int v))) d = some (dV v y 0) := fun v => upd_same
      refine ⟨_, rfl, d, _, _, _, rfl, rfl, SqL.of (hd2 _), atI_nat (j := 1) rfl, _, _, rfl, rfl, _, rfl, d, _, _, 1, rfl, rfl, hd2 _, rfl, ?_⟩
      rw [upd_upd]
      refine ⟨_, rfl, d, _, _, _, rfl, rfl, SqL.of upd_same, atI_nat (j := 0) rfl, _, _, rfl, rfl, ⟨by decide, by decide⟩, .inl ⟨_, rfl, _, rfl, _, _, rfl, rfl, hm, hq _ _ _ _ (r0 _).1 (r0 _).2⟩⟩
end
end K1

-- text K1M
set_option maxRecDepth 100000
set_option maxHeartbeats 4000000
namespace K1
open PySem PySem.Spec PyProof.Rows L2 LamX GX
section
variable {P : Program} {w : World} {K : PySem.W.Frag} {mg : Str → Option Value} {base : Heap}
/-! ### the law's rounds -/
def spRounds (K : PySem.W.Frag) : Sp := fun vs H Q _ => ∃ (s : Addr) (ns : List Int), vs = [.ref s, .int 1] ∧ SqL K H s (ns.map V.int) ∧ Tabs (T K) H ∧
  ∀ H' p d x y z, Le (T K) H H' → H' p = some (.lst [.ref d]) → H' d = some (dV x y z) → H d = none → Q (.ref p) H'
theorem ok_rounds (C : Ctx K mg base) : CalX P w K mg base 2 "_law_rounds" ["script", "most"] (spRounds K) := by
  obtain ⟨fd, F⟩ := C.d.d_l_rounds
  refine ⟨_, fd, ?_, F.funD.bindsN fun _ _ _ _ _ _ us hl => (match us, hl with | [_, _], _ => rfl), F.kp, C.t.m_l_rounds⟩
  refine F.ok sc_l_rounds (fun vs H Q E h => ?_) (fun A outer s H vs Q E hr h => ?_)
  · obtain ⟨s, ns, rfl, _⟩ := h
    rfl
  · obtain ⟨sa, ns, rfl, hs, hT, hq⟩ := h
    have nn := sc_l_rounds.nd
    refine ⟨_, pss_cons (ps_set (i := 2) nn rfl (Or.inl rfl) (pe_slice sl_list (pv 0) po_none (po_some (pv 1))))
      (C8.pss_cut (ps_if (pt_cmpR (op_eqD hr.units) (pv 2) (pe_lst pa_nil) (nomark _)) (pss_one (ps_set (i := 2) nn rfl (Or.inl rfl) (pe_lst (pa_cons pe_int pa_nil)))) pss_nil)
      (pss_one (ps_ret (pe_lcX (own := [("cell", 3)]) (g := gName 3) rfl nn rfl rfl takesA (pi_list (pv 2)) (blkOk_by (N := n_l_rounds) (sc := defScope s_l_rounds) (by decide +kernel))
        (fun _ _ _ _ _ => pg_name (i := 3) nn rfl (Or.inl rfl)) (fun _ _ _ _ _ => pts_nil) (fun _ _ _ _ _ _ _ px => pe_cx (ok_dice (P := P) (w := w) C) hr (by decide) rfl px (pa_cons (pv 3) pa_nil)))))), ?_⟩
    refine ⟨_, rfl, _, rfl, _, rfl, sa, _, rfl, hs, fun p hp => ?_⟩
    have ecut : cutV (ns.map V.int) none (some 1) = (ns.take 1).map V.int := by rw [List.map_take]; exact cutV_take _ 1
    rw [ecut]
    have L1 := (Le.refl hT).new (o := .lst ((ns.take 1).map V.int)) hp
    have hp1 : upd H p (.lst ((ns.take 1).map V.int)) p = some (.lst ((ns.take 1).map V.int)) := upd_same
    generalize upd H p (.lst ((ns.take 1).map V.int)) = H1 at L1 hp1
    refine ⟨fun σ' H' => ∃ (q : Addr) (n : Int), σ' = [some (.ref sa), some (.int 1), some (.ref q), none] ∧ Le (T K) H H' ∧ H' q = some (.lst [.int n]), ?_, ?_⟩
    · refine ⟨_, rfl, by show 0 ≤ sizeLine; decide, fun e he => ?_⟩
      have hpe : p ≠ e := ne_of_none hp1 he
      refine ⟨.list ((ns.take 1).map PyData.int), .list (([] : List Int).map PyData.int), .lst (SqL.of ((upd_ne hpe).trans hp1)) (DpAll.ints _), .lst (SqL.of upd_same) .nil, shaped_ints _, shaped_ints [], _, rfl, ?_⟩
      have ev : PyData.eqv (.list ((ns.take 1).map PyData.int)) (.list (([] : List Int).map PyData.int)) = decide (ns.take 1 = []) := eqv_ints _ []
      rw [ev]
      cases ns with
      | nil =>
        refine iteT ⟨by show 1 ≤ sizeLine; decide, fun q hqn => ⟨q, 0, rfl, (L1.new he).new hqn, upd_same⟩⟩
      | cons n r =>
        refine iteF ⟨p, n, rfl, L1.new he, (upd_ne hpe).trans hp1⟩
    · rintro σ' H2 ⟨q, n, rfl, L2, hq2⟩
      refine ⟨_, rfl, q, rfl, ⟨_, SqL.of hq2⟩, fun D hD => ?_⟩
      refine lc_list (K := K) (a := q) (xs := [V.int n]) (fun i H' => Le (T K) H2 H' ∧ (i = 0 → H' D = some (.lst [])) ∧ (i = 1 → ∃ d x y z, H' D = some (.lst [.ref d]) ∧ H' d = some (dV x y z) ∧ H2 d = none)) ⟨(Le.refl L2.tab).new hD, fun _ => upd_same, fun z => by cases z⟩ (fun i H' _ hP => SqL.of (hP.1.at hq2)) (fun i x H3 hx ⟨L3, h0, h1⟩ => ?_) (fun H3 ⟨L3, h0, h1⟩ => ?_)
      · cases i with
        | succ i => cases hx
        | zero =>
          have hx : V.int n = x := Option.some.inj hx
          subst hx
          have hD3 := h0 rfl
          refine ⟨rfl, ?_⟩
          refine yes_ ?_
          refine iteT ?_
          refine ⟨_, rfl, n, rfl, fun x y z d hd => ?_⟩
          have hDd : D ≠ d := ne_of_none hD3 hd
          have hD4 : upd H3 d (dV x y z) D = some (.lst []) := (upd_ne hDd).trans hD3
          exact ⟨_, hD4, by show 0 < sizeLine; decide, (L3.new hd).set hD hD4, (fun q => by cases q), fun _ => ⟨d, x, y, z, upd_same, (upd_ne (Ne.symm hDd)).trans upd_same, L3.no d hd⟩⟩
      · obtain ⟨d, x, y, z, g1, g2, g3⟩ := h1 rfl
        exact hq H3 D d x y z (L2.trans L3) g1 g2 (L2.no d g3)
/-! ### the law's sign -/
def spLSign : Sp := fun vs H Q _ => ∃ p n : Nat, vs = [.int (p : Int), .int (n : Int)] ∧ n ≤ 64 ∧ Q (.str (S (bits p n))) H
theorem ok_lsign (C : Ctx K mg base) : CalX P w K mg base 1 "_law_sign" ["place", "shutters"] spLSign := by
  obtain ⟨fd, F⟩ := C.d.d_l_sign
  refine ⟨_, fd, ?_, F.funD.bindsN fun _ _ _ _ _ _ us hl => (match us, hl with | [_, _], _ => rfl), F.kp, C.t.m_l_sign⟩
  refine F.ok sc_l_sign (fun vs H Q E h => ?_) (fun A outer s H vs Q E hr h => ?_)
  · obtain ⟨p, n, rfl, _⟩ := h
    rfl
  · obtain ⟨p, n, rfl, hn, hq⟩ := h
    have nn := sc_l_sign.nd
    refine ⟨_, pss_cons (ps_set (i := 2) nn rfl (Or.inl rfl) pe_str)
      (pss_cons (ps_for ownsA rfl (pi_range1 (by rfl) C.t.b_range (pa_cons (pv 1) pa_nil)) (pg_name (i := 3) nn rfl (Or.inl rfl))
        (pss_one (ps_par (i := 2) (j := 0) (by rfl) nn rfl rfl (by decide) rfl rfl (pa_cons (pe_op op_add_str (pe_callTy call_str_int (by rfl) C.t.b_str (by decide +kernel) (pa_cons (pe_op op_mod (pv 0) pe_int) pa_nil)) (pv 2)) (pa_cons (pe_op op_fdiv (pv 0) pe_int) pa_nil)) (by rfl))))
      (pss_one (ps_ret (pv 2)))), ?_⟩
    refine ⟨_, rfl, _, rfl, by omega, by omega, ?_⟩
    refine for_range (lo := 0) (n := n) (fun i σ H' => H' = H ∧ ∃ a3, σ = [some (.int ((p / 2 ^ i : Nat) : Int)), some (.int (n : Int)), some (.str (S (bits p i))), a3]) ⟨rfl, none, by simp [bits]; rfl⟩ (fun i σ H' hi ⟨hH, a3, hσ⟩ => ?_) (fun σ H' ⟨hH, a3, hσ⟩ => ?_)
    · subst hH hσ
      have hb2 : ((p / 2 ^ i : Nat) : Int) % 2 = 0 ∨ ((p / 2 ^ i : Nat) : Int) % 2 = 1 := by omega
      refine ⟨_, rfl, _, _, rfl, rfl, by show (0 : Int) < 2; decide, _, rfl, log_bit hb2, _, rfl, _, _, rfl, rfl, ?_, ?_⟩
      · rw [toS_bit hb2, S_len, S_len, bits_len]
        exact Nat.le_trans (show 1 + i ≤ 65 by omega) (by decide)
      · rw [toS_bit hb2, S_app]
        refine ⟨_, rfl, _, _, rfl, rfl, ⟨by decide, by decide⟩, _, _, rfl, rfl, some (.int (0 + (i : Nat))), ?_⟩
        have e1 : ((p / 2 ^ i : Nat) : Int) / 2 = ((p / 2 ^ (i + 1) : Nat) : Int) := by rw [Nat.pow_succ, ← Nat.div_div_eq_div_mul]; rfl
        have e2 : ([48 + (((p / 2 ^ i : Nat) : Int) % 2).toNat] ++ bits p i) = bits p (i + 1) := by
          show _ = (48 + p / 2 ^ i % 2) :: bits p i
          have : (((p / 2 ^ i : Nat) : Int) % 2).toNat = p / 2 ^ i % 2 := by omega
          rw [this]
          rfl
        rw [e2, ← e1]
        rfl
    · subst hH hσ
      exact ⟨_, rfl, hq⟩
end
end K1

-- text Cut
set_option maxRecDepth 100000
set_option maxHeartbeats 4000000
/-! Cut: a word between an expression and what follows. -/
namespace GX
open PySem PySem.Spec PyProof.Rows L2 LamX
/-- what follows is shown once, from Mid -/
def tMid (t : TE) : TE := fun σ H Q => ∃ Mid : V → Hp → Prop, t σ H Mid ∧ ∀ v H', Mid v H' → Q v H'
theorem pe_mid {X : Cx} {e : Expr} {t : TE} (h : PE X e t) : PE X e (tMid t) := by
  refine ⟨fun pins s σ H Q I ⟨Mid, hm, hq⟩ => thn (h.run pins s σ H Mid I hm) fun v s1 ⟨x, H1, I1, r1, q1⟩ => ⟨x, H1, I1, r1, hq x H1 q1⟩⟩
end GX

-- text K1N
set_option maxRecDepth 100000
set_option maxHeartbeats 4000000
namespace K1
open PySem PySem.Spec PyProof.Rows L2 LamX GX
section
variable {P : Program} {w : World} {K : PySem.W.Frag} {mg : Str → Option Value} {base : Heap}
/-! ### the law's parts -/
def partsBad (ws : List (List Nat)) (l : List Nat) : Prop := (∃ x ∈ spw l, ∃ p ∈ partsOf ws x, p ∉ ws) ∨ [] ∈ spw l
def allParts (ws : List (List Nat)) (l : List Nat) : List (List Nat) := ((spw l).map (partsOf ws)).flatten
def spParts (K : PySem.W.Frag) : Sp := fun vs H Q _ => ∃ (a : Addr) (ws : List (List Nat)) (l : List Nat), vs = [.ref a, .str (S l)] ∧ SqL K H a (ws.map sV) ∧ Tabs (T K) H ∧ l.length ≤ 900 ∧
  (partsBad ws l → ∀ H', Le (T K) H H' → Q .non H') ∧ (¬ partsBad ws l → ∀ H' p, Le (T K) H H' → H p = none → H' p = some (.lst ((allParts ws l).map sV)) → Q (.ref p) H')
theorem ok_parts (C : Ctx K mg base) : CalX P w K mg base 1 "_law_parts" ["words", "text"] (spParts K) := by
  obtain ⟨fd, F⟩ := C.d.d_l_parts
  refine ⟨_, fd, ?_, F.funD.bindsN fun _ _ _ _ _ _ us hl => (match us, hl with | [_, _], _ => rfl), F.kp, C.t.m_l_parts⟩
  refine F.ok sc_l_parts (fun vs H Q E h => ?_) (fun A outer s H vs Q E hr h => ?_)
  · obtain ⟨a, ws, l, rfl, _⟩ := h
    rfl
  · obtain ⟨a, ws, l, rfl, ha, hT, hl, hbad, hq⟩ := h
    have nn := sc_l_parts.nd
    refine ⟨_, pss_cons (ps_set (i := 2) nn rfl (Or.inl rfl) (pe_lst pa_nil))
      (pss_cons (ps_for ownsA rfl (pi_list (pe_split (pv 1) pe_str)) (pg_name (i := 3) nn rfl (Or.inl rfl))
        (pss_one (ps_for ownsA rfl (pi_list (pe_mid (pe_ifExp (pt_cmpR op_in_seq (pv 3) (pv 0) rfl) (pe_lst (pa_cons (pv 3) pa_nil)) (pe_callTy (cr_listS rfl) (by rfl) C.t.b_list (by decide +kernel) (pa_cons (pv 3) pa_nil))))) (pg_name (i := 4) nn rfl (Or.inl rfl))
          (pss_cons (ps_if (pt_cmpR op_notIn_seq (pv 4) (pv 0) rfl) (pss_one (ps_ret pe_non)) pss_nil)
          (pss_one (ps_set (i := 2) nn rfl (Or.inl rfl) (pe_op op_cat (pv 2) (pe_lst (pa_cons (pv 4) pa_nil)))))))))
      (pss_one (ps_ret (pe_ifExp (pt_cmpR op_in_seq pe_str (pe_split (pv 1) pe_str) rfl) pe_non (pv 2))))), ?_⟩
    refine ⟨by show 0 ≤ sizeLine; decide, fun f hfn => ?_⟩
    have L1 : Le (T K) H (upd H f (.lst [])) := (Le.refl hT).new hfn
    have hf1 : upd H f (.lst []) f = some (.lst []) := upd_same
    generalize upd H f (.lst []) = H1 at L1 hf1
    have hlen : (S l).length + 2 ≤ sizeLine := by rw [S_len]; exact Nat.le_trans (show l.length + 2 ≤ 902 by omega) (by decide)
    refine ⟨_, rfl, ⟨_, rfl⟩, S l, S [32], rfl, rfl, rfl, hlen, fun p hp => ?_⟩
    rw [spw_S, List.map_map]
    have L2 := L1.new (o := .lst ((spw l).map (V.str ∘ S))) hp
    have hp2 : upd H1 p (.lst ((spw l).map (V.str ∘ S))) p = some (.lst ((spw l).map sV)) := upd_same
    have hf2 : upd H1 p (.lst ((spw l).map (V.str ∘ S))) f = some (.lst []) := (upd_ne (ne_of_none hf1 hp)).trans hf1
    generalize upd H1 p (.lst ((spw l).map (V.str ∘ S))) = H2 at L2 hp2 hf2
    refine ⟨p, rfl, ⟨_, SqL.of hp2⟩, ?_⟩
    have hsl := spw_len l
    have bnd : ∀ i, i ≤ (spw l).length → ((((spw l).take i).map (partsOf ws)).flatten).length ≤ 902 * 901 := fun i hi => by
      have h1 := flat_len (ws := ws) (m := 900) (xs := (spw l).take i) fun y hy => Nat.le_trans (spw_short (List.mem_of_mem_take hy)) hl
      rw [List.length_take] at h1
      exact Nat.le_trans h1 (Nat.mul_le_mul (by omega) (Nat.le_refl _))
    refine for_list (xs := (spw l).map sV) (fun i σ H' => Le (T K) H H' ∧ H' p = some (.lst ((spw l).map sV)) ∧ (∃ a3 a4 g, σ = [some (.ref a), some (.str (S l)), some (.ref g), a3, a4] ∧ H g = none ∧ H' g = some (.lst (((((spw l).take i).map (partsOf ws)).flatten).map sV))) ∧
        ∀ x ∈ (spw l).take i, ∀ p ∈ partsOf ws x, p ∈ ws)
      ⟨L2, hp2, ⟨none, none, f, rfl, hfn, hf2⟩, fun x hx => by cases hx⟩ (fun i σ H' _ hP => SqL.of hP.2.1) (fun i x σ H3 hx ⟨L3, hp3, ⟨a3, a4, g, hσ, hgn, hg3⟩, hok⟩ => ?_) (fun σ H3 ⟨L3, hp3, ⟨a3, a4, g, hσ, hgn, hg3⟩, hok⟩ => ?_)
    · subst hσ
      obtain ⟨x, hxl, rfl⟩ := get_map hx
      have hm := List.mem_of_getElem? hxl
      have hil : i < (spw l).length := (List.getElem?_eq_some_iff.mp hxl).1
      have hpl := parts_len ws x
      have hxs := spw_short hm
      refine ⟨fun v H' => ∃ q, v = .ref q ∧ Le (T K) H3 H' ∧ H' q = some (.lst ((partsOf ws x).map sV)), ?_, ?_⟩
      · refine ⟨_, rfl, _, rfl, a, _, rfl, .inl (L3.seqL ha), rfl, flat_words ws, _, rfl, ?_⟩
        show (if inV (sV x) (ws.map sV) = true then _ else _)
        rw [inV_words]
        by_cases hxw : x ∈ ws
        · rw [decide_eq_true hxw]
          refine iteT ⟨_, rfl, by show 1 ≤ sizeLine; decide, fun q hqn => ⟨q, rfl, (Le.refl L3.tab).new hqn, ?_⟩⟩
          rw [upd_same]
          unfold partsOf
          rw [if_pos hxw]
          rfl
        · rw [decide_eq_false hxw]
          refine iteF ⟨_, rfl, x, rfl, by omega, fun q hqn => ⟨q, rfl, (Le.refl L3.tab).new hqn, ?_⟩⟩
          rw [upd_same]
          unfold partsOf
          rw [if_neg hxw, List.map_map]
          rfl
      · rintro v H4 ⟨q, rfl, L4, hq4⟩
        refine ⟨q, rfl, ⟨_, SqL.of hq4⟩, ?_⟩
        have LL := L3.trans L4
        refine for_list (xs := (partsOf ws x).map sV) (fun j σ H' => Le (T K) H H' ∧ H' p = some (.lst ((spw l).map sV)) ∧ H' q = some (.lst ((partsOf ws x).map sV)) ∧ (∃ a4 g, σ = [some (.ref a), some (.str (S l)), some (.ref g), some (sV x), a4] ∧ H g = none ∧ H' g = some (.lst (((((spw l).take i).map (partsOf ws)).flatten ++ (partsOf ws x).take j).map sV))) ∧
            ∀ p ∈ (partsOf ws x).take j, p ∈ ws)
          ⟨LL, L4.at hp3, hq4, ⟨a4, g, rfl, hgn, by rw [List.take_zero, List.append_nil]; exact L4.at hg3⟩, fun y hy => by cases hy⟩ (fun j σ H' _ hP => SqL.of hP.2.2.1) (fun j y σ H5 hy ⟨L5, hp5, hq5, ⟨b4, g5, hσ, hg5n, hg5⟩, hok5⟩ => ?_) (fun σ H5 ⟨L5, hp5, hq5, ⟨b4, g5, hσ, hg5n, hg5⟩, hok5⟩ => ?_)
        · subst hσ
          obtain ⟨y, hyl, rfl⟩ := get_map hy
          have hym := List.mem_of_getElem? hyl
          refine ⟨_, rfl, _, rfl, a, _, rfl, .inl (L5.seqL ha), rfl, flat_words ws, _, rfl, ?_⟩
          show (if (!inV (sV y) (ws.map sV)) = true then _ else _)
          rw [inV_words]
          by_cases hyw : y ∈ ws
          · rw [decide_eq_true hyw]
            refine iteF ?_
            refine ⟨_, rfl, _, rfl, by show 1 ≤ sizeLine; decide, fun e he => ?_⟩
            have hge : g5 ≠ e := ne_of_none hg5 he
            refine ⟨g5, e, _, _, rfl, rfl, (upd_ne hge).trans hg5, upd_same, ?_, fun g6 hg6 => ?_⟩
            · rw [List.length_map, List.length_append, List.length_take]
              have := bnd i (Nat.le_of_lt hil)
              exact Nat.le_trans (show _ ≤ 902 * 901 + 901 + 1 by simp only [List.length_singleton]; omega) (by decide)
            · have L6 := (L5.new (o := .lst [sV y]) he)
              have L7 := L6.new (o := .lst ((((((spw l).take i).map (partsOf ws)).flatten ++ (partsOf ws x).take j).map sV) ++ [sV y])) hg6
              refine ⟨L7, ?_, ?_, ⟨_, g6, rfl, L6.no g6 hg6, ?_⟩, ?_⟩
              · exact (upd_ne (ne_of_none ((upd_ne (ne_of_none hp5 he)).trans hp5) hg6)).trans ((upd_ne (ne_of_none hp5 he)).trans hp5)
              · exact (upd_ne (ne_of_none ((upd_ne (ne_of_none hq5 he)).trans hq5) hg6)).trans ((upd_ne (ne_of_none hq5 he)).trans hq5)
              · rw [upd_same, take_snoc hyl, ← List.append_assoc]
                simp only [List.map_append]
                rfl
              · intro z hz
                rw [take_snoc hyl] at hz
                rcases List.mem_append.mp hz with hz | hz
                · exact hok5 z hz
                · rw [List.mem_singleton.mp hz]; exact hyw
          · rw [decide_eq_false hyw]
            exact iteT (hbad (.inl ⟨x, hm, y, hym, hyw⟩) _ L5)
        · subst hσ
          rw [List.length_map, List.take_of_length_le (Nat.le_refl _)] at hg5 hok5
          refine ⟨L5, hp5, ⟨_, _, g5, rfl, hg5n, ?_⟩, fun z hz => ?_⟩
          · rw [hg5, take_snoc hxl]
            simp only [List.map_append, List.map_cons, List.map_nil, List.flatten_append, List.flatten_cons, List.flatten_nil, List.append_nil]
          · rw [take_snoc hxl] at hz
            rcases List.mem_append.mp hz with hz | hz
            · exact hok z hz
            · rw [List.mem_singleton.mp hz]; exact hok5
    · subst hσ
      rw [List.length_map, List.take_of_length_le (Nat.le_refl _)] at hg3 hok
      refine ⟨_, rfl, ⟨_, rfl⟩, S l, S [32], rfl, rfl, rfl, hlen, fun p2 hp2 => ?_⟩
      rw [spw_S, List.map_map]
      refine ⟨p2, (spw l).map sV, rfl, .inl (SqL.of upd_same), rfl, flat_words _, _, rfl, ?_⟩
      show (if inV (sV []) ((spw l).map sV) = true then _ else _)
      rw [inV_words]
      by_cases he : [] ∈ spw l
      · rw [decide_eq_true he]
        exact iteT (hbad (.inr he) _ (L3.new hp2))
      · rw [decide_eq_false he]
        refine iteF ⟨_, rfl, hq ?_ _ g (L3.new hp2) hgn ((upd_ne (ne_of_none hg3 hp2)).trans hg3)⟩
        rintro (⟨x, hx, y, hy, hn⟩ | z)
        · exact hn (hok x hx y hy)
        · exact he z
end
end K1

-- text EnT
set_option maxRecDepth 100000
set_option maxHeartbeats 4000000
/-! EnT: for i, x in enumerate(t), t a tuple. -/
namespace GX
open PySem PySem.Spec PyProof.Rows L2 LamX
section
/-- enumerate(v) of one argument: a new iterator, then the enumerate -/
theorem meets_enum1 {v : Value} {o : Obj} {Hx : Heap → Prop} (B : PySem.Begins v o Hx) :
    Meets (Builtin.«enumerate.__new__» ⟨[.type "enumerate", v], []⟩) (fun _ R s => Hx s.heap ∧
      R (.ok (.ret (.ref (s.heap.push o).objs.size))) { s with heap := (s.heap.push o).push { cls := .type "enumerate", data := .fields #[.none, .bool false, .ref s.heap.objs.size, rawInt 0, .none, .none] } }) :=
  .of_wp fun prog w A R s h => by
    obtain ⟨hp, g, d, tk, os⟩ := s
    obtain ⟨h1, h⟩ := h
    have hsub := sub_enumerate
    have begin1 : ∀ {A2 : Around} {E2 : Value → Shared → Prop} {Q2 : Value → Shared → Prop}, Q2 (.ref hp.objs.size) ⟨hp.push o, g, d, tk, os⟩ → wpAny (model prog w) A2 (pyIter v) Q2 E2 ⟨hp, g, d, tk, os⟩ := fun q => B.iter prog w _ _ ⟨hp, g, d, tk, os⟩ _ h1 q
    wp_walk using begin1
    refine wpAny_stack_any fun st => wpAny_pure ?_
    split
    · rename_i c _ _ _ _ _
      cases (c == Value.type "enumerate") <;> (wp_walk using begin1; exact ⟨_, rfl, h⟩)
    · wp_walk using begin1
      exact ⟨_, rfl, h⟩
variable {prog : Program} {w : World} {A : Around} {E : Value → Shared → Prop} {s : Shared}
theorem call_enum1 {v : Value} {o : Obj} {Hx : Heap → Prop} {Q : Value → Shared → Prop} (B : PySem.Begins v o Hx) (h1 : Hx s.heap)
    (h : ∀ hh, IsEnum hh (s.heap.objs.size + 1) s.heap.objs.size 0 .none → hh.get? s.heap.objs.size = some o → hh.objs.size = s.heap.objs.size + 2 → (∀ b u, s.heap.get? b = some u → hh.get? b = some u) → Q (.ref (s.heap.objs.size + 1)) { s with heap := hh }) :
    wpAny (model prog w) A (call (.type "enumerate") [v]) Q E s := by
  refine callType_new F.called_enumerate (by decide) (F.typeCall_enumerate_1 _) (F.newCall_enumerate_1 _) (fun obj => F.args_object_init_2 obj _) F.entry_enumerate_new (meets_enum1 B) ⟨h1, ?_⟩
  have sz1 : (s.heap.push o).objs.size = s.heap.objs.size + 1 := Heap.size_push ..
  show _ ∧ _
  rw [sz1]
  have he : IsEnum ((s.heap.push o).push { cls := .type "enumerate", data := .fields #[.none, .bool false, .ref s.heap.objs.size, rawInt 0, .none, .none] }) (s.heap.objs.size + 1) s.heap.objs.size 0 .none := by
    have := Heap.get?_push_size (s.heap.push o) (o := { cls := .type "enumerate", data := .fields #[.none, .bool false, .ref s.heap.objs.size, rawInt 0, .none, .none] }) rfl
    rw [sz1] at this
    exact this
  exact ⟨⟨_, he, rfl⟩, h _ he (Heap.get?_push_of_some _ (Heap.get?_push_size _ B.free)) (by rw [Heap.size_push, sz1]) fun b u x => Heap.get?_push_of_some _ (Heap.get?_push_of_some _ x)⟩
end
/-- the tuple at a, each item in a new pair -/
def IteT (K : PySem.W.Frag) (a : Addr) : It :=
  ⟨fun i H => ∃ (xs : List V) (x : V), SqT K H a xs ∧ xs[i]? = some x, fun i H v H' => ∃ t x, v = .ref t ∧ H t = none ∧ H' = upd H t (.tup [.int (i : Nat), x]) ∧ ∀ xs, SqT K H a xs → xs[i]? = some x, fun i H => ∃ xs : List V, SqT K H a xs ∧ xs.length ≤ i⟩
theorem tup_apart {h : Heap} {a e it : Addr} {i : Nat} {items : Array Value} {c : Int} {old : Value} (p : IsTup h a items) (he : IsEnum h e it c old) (hit : h.IsTupleIter it a i) : a ≠ it ∧ e ≠ a := by
  obtain ⟨o, ho, hc, _⟩ := p
  refine ⟨fun z => ?_, fun z => ?_⟩
  · obtain ⟨o2, ho2, hc2, _⟩ := hit
    rw [← z, ho] at ho2
    rw [← Option.some.inj ho2, hc] at hc2
    simp at hc2
  · have he2 := he
    unfold IsEnum at he2
    rw [z, ho] at he2
    rw [Option.some.inj he2] at hc
    simp at hc
theorem enum_endT {prog : Program} {w : World} {A : Around} {E : Value → Shared → Prop} {s : Shared} {e it t : Addr} {i : Nat} {c : Int} {items : Array Value} {old : Value} {Q : Option Value → Shared → Prop} (hh : A.handled = none)
    (he : IsEnum s.heap e it c old) (hit : s.heap.IsTupleIter it t i) (ht : IsTup s.heap t items) (hx : items[i]? = none) (hQ : ∀ h1, Heap.ExtBut it s.heap h1 → Q none { s with heap := h1 }) : wpAny (model prog w) A (pyNext (.ref e)) Q E s := by
  have ty : s.TypeIs (.ref e) "enumerate" := ⟨_, he, rfl⟩
  unfold pyNext
  refine wpAny_bind (wpAny_attempt (wpAny_callSpecial?_slot (name := Str.ofString "__next__") ty F.slot_enumerate_next (wpAny_call_entry F.slot_enumerate_next ty F.entry_enumerate_next ?_ (F.args_enumerate_next_1 _))))
  show wpAny _ _ (field (.ref e) 2 >>= _) _ _ _
  refine wpAny_bind (wpAny_field he rfl (x := .ref it) rfl (wpAny_bind (PySem.wpAny_nextOf_tuple_end hh hit ht hx fun h1 x eb ⟨o, ho, hc⟩ => ?_)))
  exact wpAny_bind (wpAny_isInstance (T := "StopIteration") (b := true) ⟨o, ho, hc⟩ isSubtype_stop (wpAny_pure (hQ _ eb)))
theorem turn_enumT {P : Program} {w : World} {K : PySem.W.Frag} {elts : List Expr} {kk : Nat} {tpos : Pos} (a e it : Addr) :
    Turn P w K (.Tuple elts kk tpos) (IteT K a) [e, it] e (fun i h => (∃ old, IsEnum h e it ((i : Nat) : Int) old) ∧ h.IsTupleIter it a i ∧ e ≠ it) where
  mem := List.mem_cons_self
  obj := fun i h st b hb => by
    obtain ⟨⟨old, he⟩, ⟨o, ho, hc, hd⟩, _⟩ := st
    rcases List.mem_cons.mp hb with z | z
    · rw [z]
      exact ⟨_, he, fun v q => nomatch q⟩
    · rw [List.mem_singleton.mp z]
      exact ⟨o, ho, fun v q => by rw [hd] at q; cases q⟩
  keep := fun i h h' st k => let ⟨⟨old, he⟩, hi, hne⟩ := st; ⟨⟨old, k e List.mem_cons_self _ he⟩, hi.at fun o q => k it (List.mem_cons_of_mem _ List.mem_cons_self) o q, hne⟩
  item := by
    intro X hP hw hK hc i pins s σ H E I hf st hg
    subst hP hw hK
    obtain ⟨⟨old, he⟩, hit, hne⟩ := st
    obtain ⟨xs, x, hq, hx⟩ := hg
    obtain ⟨its, rv, tp, hz⟩ := I.tuple hq
    obtain ⟨u, hu, ru⟩ := rv.get hx
    obtain ⟨n1, n2⟩ := tup_apart tp he hit
    have lte : e < s.heap.objs.size := Heap.lt_size he
    have lti : it < s.heap.objs.size := by obtain ⟨_, q, _⟩ := hit; exact Heap.lt_size q
    have hui : its.toArray[i]? = some u := by simpa using hu
    refine wpAny_pyNext_enum_itemD (PySem.Draws.tuple (prog := X.prog) (w := X.w) (A := X.A.in1) (show X.A.in1.handled = none from I.ok.hd hc) it a n1 its.toArray) he ⟨hit, tp⟩ (Array.getElem?_eq_some_iff.mp hui).1 hne (fun q => by rcases List.mem_cons.mp q with z | z; exact hne z; exact n2 (List.mem_singleton.mp z)) fun u2 h1 tk hu2 ho st2 hT hsz hk => ?_
    obtain rfl : u = u2 := Option.some.inj (hui.symm.trans hu2)
    refine ⟨_, rfl, wpAny_letOwnedTupleGo_enum (s := { s with heap := h1, toks := tk + 1 }) ho fun h2 he2 sb => ?_⟩
    have hT2 : h2.get? s.heap.objs.size = some { cls := .type "tuple", data := .seq #[.int i tk, u] } := (sb.2 _ (Nat.ne_of_gt lte)).trans hT
    have J : Inv X pins σ (upd H s.heap.objs.size (.tup [.int (i : Nat), x])) { s with heap := h2, toks := tk + 1 } :=
      I.turnedNew (ch := [e, it]) (fun b ob hb q => (sb.2 b (fun z => hb (by rw [z]; exact List.mem_cons_self))).trans (hk b ob (fun z => hb (by rw [z]; exact List.mem_cons_self)) (fun z => hb (by rw [z]; exact List.mem_cons_of_mem _ List.mem_cons_self)) q)) hf (Nat.le_refl _)
        ⟨by show 2 ≤ sizeLine; decide, [.int i tk, u], .cons ⟨_, rfl⟩ (.cons ru .nil), ⟨_, hT2, rfl, _, rfl⟩⟩
    refine ⟨.ref s.heap.objs.size, _, J, rfl, ⟨_, x, rfl, I.hok.fresh (Nat.le_refl _), rfl, fun ys hy => by rw [I.tuple_inj hy hq]; exact hx⟩, ⟨⟨u, ?_⟩, st2.1.at fun o q => (sb.2 it (Ne.symm hne)).trans q, hne⟩, fun b hb => ?_⟩
    · rw [show ((i + 1 : Nat) : Int) = (i : Int) + 1 by omega]
      exact he2
    · have lb : b < s.heap.objs.size := by
        rcases List.mem_cons.mp hb with z | z
        · rw [z]; exact lte
        · rw [List.mem_singleton.mp z]; exact lti
      rw [upd_ne (Nat.ne_of_lt lb)]
      exact (hf b hb).1
  done := by
    intro X hP hw hK hc i pins s σ H E I hf st hg
    subst hP hw hK
    obtain ⟨⟨old, he⟩, hit, hne⟩ := st
    obtain ⟨xs, hq, hx⟩ := hg
    obtain ⟨its, rv, tp, hz⟩ := I.tuple hq
    obtain ⟨n1, n2⟩ := tup_apart tp he hit
    obtain ⟨f0, f1, f2, f3, f4, f5⟩ := hf it (List.mem_cons_of_mem _ List.mem_cons_self)
    have hl := rv.length
    refine enum_endT (I.ok.hd hc) he hit tp (by simp; omega) fun h1 eb => ⟨rfl, I.turned (t' := s.toks) (fun b o hb q => eb b o hb q) f0 f1 f3 f4 f5⟩
  self := fun A i s Q E st h => let ⟨⟨_, he⟩, _⟩ := st; wpAny_pyIter_enum he h
def iEnumT (K : PySem.W.Frag) (ta : TA) : TI := fun σ H R => ta σ H fun vs H1 => ∃ a xs, vs = [.ref a] ∧ SqT K H1 a xs ∧ R (IteT K a) H1
theorem pi_enumT {X : Cx} {e : Expr} {ta : TA} {p pos tpos : Pos} {elts : List Expr} {kk : Nat} (hg : Gl X "enumerate") (hm : X.mg "enumerate" = none) (ha : PA X [e] ta) (hs : starEach [e] X.env = [(false, eval e X.env)] := by rfl) :
    PI X (.Tuple elts kk tpos) (.Call (.Name "enumerate" p) [e] [] pos) (iEnumT X.K ta) := by
  refine ⟨fun pins s σ H R I h => Call_ (ld_blt I hg hm boot_enumerate (PyProof.Rows.callWith_type1 (thn (ha.run pos pins s σ H _ I h) fun us s1 ⟨vs, H1, I1, r1, a, xs, ex, hq, q⟩ => ?_) hs rfl))⟩
  subst ex
  obtain ⟨u, rfl, rx⟩ := vals1 r1
  cases rx
  obtain ⟨its, rv, tp, hz⟩ := I1.tuple hq
  refine call_enum1 (PySem.begins_tuple a its.toArray) tp fun hh he hit hsz hk => wpAny_pyIter_enum he ?_
  have J : Inv X pins σ H1 { s1 with heap := hh } := I1.kept (t' := s1.toks) hk
  refine ⟨s1.heap.objs.size + 1, [s1.heap.objs.size + 1, s1.heap.objs.size], _, _, H1, rfl, J, turn_enumT a (s1.heap.objs.size + 1) s1.heap.objs.size, ⟨⟨.none, he⟩, ⟨_, hit, rfl, rfl⟩, Nat.succ_ne_self _⟩, fun b hb => ?_, q⟩
  have hle : s1.heap.objs.size ≤ b := by
    rcases List.mem_cons.mp hb with z | z
    · rw [z]; exact Nat.le_succ _
    · rw [List.mem_singleton.mp z]; exact Nat.le_refl _
  exact I1.fpOk hle (I1.hok.fresh hle)
end GX

-- text K1O
set_option maxRecDepth 100000
set_option maxHeartbeats 4000000
namespace K1
open PySem PySem.Spec PyProof.Rows L2 LamX GX
section
variable {P : Program} {w : World} {K : PySem.W.Frag} {mg : Str → Option Value} {base : Heap}
/-! ### the law's least -/
def pick (cs : List Int) (k j : Nat) : List Int := (cs.zipIdx.filter fun p => decide (p.2 ≠ k ∧ p.2 ≠ j)).map (·.1)
def sortI (xs : List Int) : List Int := xs.mergeSort fun a b => decide (a ≤ b)
def at0 (cs : List Int) (k : Nat) : Int := cs.getD k 0
def pairV (f : List Int → Int) (cs : List Int) (k j : Nat) : Int := at0 cs k + at0 cs j + f (sortI (pick cs k j ++ [at0 cs k + at0 cs j]))
def rowV (f : List Int → Int) (cs : List Int) (k m : Nat) : List Int := (List.range m).map fun i => pairV f cs k (k + 1 + i)
def allV (f : List Int → Int) (cs : List Int) (n : Nat) : List Int := ((List.range n).map fun k => rowV f cs k (cs.length - (k + 1))).flatten
def lower (b : Option Int) (x : Int) : Option Int := match b with
  | none => some x
  | some y => some (if x < y then x else y)
def minO (l : List Int) : Option Int := l.foldl lower none
def leastF : Nat → List Int → Int
  | 0, _ => 0
  | n + 1, cs => (minO (allV (leastF n) cs cs.length)).getD 0
theorem minO_snoc (l : List Int) (x : Int) : minO (l ++ [x]) = lower (minO l) x := by unfold minO; rw [List.foldl_append]; rfl
theorem rowV_snoc (f : List Int → Int) (cs : List Int) (k m : Nat) : rowV f cs k (m + 1) = rowV f cs k m ++ [pairV f cs k (k + 1 + m)] := by unfold rowV; rw [List.range_succ, List.map_append]; rfl
theorem allV_snoc (f : List Int → Int) (cs : List Int) (n : Nat) : allV f cs (n + 1) = allV f cs n ++ rowV f cs n (cs.length - (n + 1)) := by
  unfold allV
  rw [List.range_succ, List.map_append, List.flatten_append]
  simp
theorem minO_some {l : List Int} (h : l ≠ []) : ∃ x, minO l = some x := by
  rcases List.eq_nil_or_concat l with z | ⟨r, x, rfl⟩
  · exact absurd z h
  · rw [List.concat_eq_append, minO_snoc]
    unfold lower
    cases minO r with
    | none => exact ⟨_, rfl⟩
    | some y => exact ⟨_, rfl⟩
theorem erase0 : ∀ (r : List Int) (o m m2 : Nat), m < o → m2 < o → ((r.zipIdx o).filter fun p => decide (p.2 ≠ m ∧ p.2 ≠ m2)).map (·.1) = r
  | [], _, _, _, _, _ => rfl
  | c :: r, o, m, m2, h1, h2 => by
    rw [List.zipIdx_cons, List.filter_cons_of_pos (by simp; omega), List.map_cons, erase0 r (o + 1) m m2 (by omega) (by omega)]
theorem erase1 : ∀ (r : List Int) (o m j : Nat), m < o → ((r.zipIdx o).filter fun p => decide (p.2 ≠ m ∧ p.2 ≠ o + j)).map (·.1) = r.eraseIdx j
  | [], _, _, _, _ => rfl
  | c :: r, o, m, 0, h => by
    rw [List.zipIdx_cons, List.filter_cons_of_neg (by simp)]
    exact erase0 r (o + 1) m (o + 0) (by omega) (by omega)
  | c :: r, o, m, j + 1, h => by
    rw [List.zipIdx_cons, List.filter_cons_of_pos (by simp; omega), List.map_cons, show o + (j + 1) = (o + 1) + j by omega, erase1 r (o + 1) m j (by omega)]
    rfl
theorem erase2 : ∀ (r : List Int) (o k j : Nat), k < j → ((r.zipIdx o).filter fun p => decide (p.2 ≠ o + k ∧ p.2 ≠ o + j)).map (·.1) = (r.eraseIdx j).eraseIdx k
  | [], _, _, _, _ => rfl
  | c :: r, o, 0, j + 1, h => by
    rw [List.zipIdx_cons, List.filter_cons_of_neg (by simp), show o + (j + 1) = (o + 1) + j by omega]
    exact erase1 r (o + 1) (o + 0) j (by omega)
  | c :: r, o, k + 1, j + 1, h => by
    rw [List.zipIdx_cons, List.filter_cons_of_pos (by simp), List.map_cons, show o + (j + 1) = (o + 1) + j by omega, show o + (k + 1) = (o + 1) + k by omega, erase2 r (o + 1) k j (by omega)]
    rfl
theorem pick_erase {cs : List Int} {k j : Nat} (h : k < j) : pick cs k j = (cs.eraseIdx j).eraseIdx k := by
  have := erase2 cs 0 k j h
  simpa [pick] using this
theorem pick_len {cs : List Int} {k j : Nat} (h : k < j) (hj : j < cs.length) : (pick cs k j).length = cs.length - 2 := by
  rw [pick_erase h, List.length_eraseIdx_of_lt (by rw [List.length_eraseIdx_of_lt hj]; omega), List.length_eraseIdx_of_lt hj]
  omega
def oI : Option Int → V
  | none => .non
  | some x => .int x
def spLeast (K : PySem.W.Frag) (n : Nat) : Sp := fun vs H Q _ => ∃ (t : Addr) (cs : List Int), vs = [.ref t] ∧ SqT K H t (cs.map V.int) ∧ Tabs (T K) H ∧ cs.length = n + 1 ∧ n < 60 ∧ ∀ H', Le (T K) H H' → Q (.int (leastF n cs)) H'
theorem int_eq {i k : Nat} : (((k : Nat) : Int) == ((i : Nat) : Int)) = decide (k = i) := by
  by_cases h : k = i
  · rw [h, decide_eq_true rfl]; exact beq_self_eq_true _
  · rw [decide_eq_false h]; exact beq_false_of_ne fun z => h (by omega)
theorem ints_at {cs : List Int} {k : Nat} (h : k < cs.length) : (cs.map V.int)[k]? = some (V.int (at0 cs k)) := by
  unfold at0
  rw [List.getElem?_map, List.getElem?_eq_getElem h, List.getD_eq_getElem?_getD, List.getElem?_eq_getElem h]; rfl
theorem ok_least (C : Ctx K mg base) : ∀ n, CalX P w K mg base (n + 1) "_law_least" ["counts"] (spLeast K n)
  | 0 => by
    obtain ⟨fd, F⟩ := C.d.d_l_least
    refine ⟨_, fd, ?_, F.funD.bindsN fun _ _ _ _ _ _ us hl => (match us, hl with | [_], _ => rfl), F.kp, C.t.m_l_least⟩
    refine F.ok sc_l_least (fun vs H Q E h => ?_) (fun A outer s H vs Q E hr h => ?_)
    · obtain ⟨t, cs, rfl, _⟩ := h
      rfl
    · obtain ⟨t, cs, rfl, ht, hT, hn, _, hq⟩ := h
      refine ⟨_, pss_cons (ps_if (pt_cmpR op_eq (pe_callB call_len_seq (by rfl) C.t.b_len PySem.boot_len (pa_cons (pv 0) pa_nil)) pe_int (nomark _)) (pss_one (ps_ret pe_int)) pss_nil) (pss_cons ps_never (pss_cons ps_never (pss_one ps_never))), ?_⟩
      refine ⟨_, rfl, t, _, rfl, .inr ht, rfl, _, rfl, ?_⟩
      rw [List.length_map, decide_eq_true (show V.int ((cs.length : Nat) : Int) = V.int 1 by rw [hn]; rfl)]
      exact iteT (hq _ (Le.refl hT))
  | n + 1 => by
    have IH := ok_least C n
    obtain ⟨fd, F⟩ := C.d.d_l_least
    refine ⟨_, fd, ?_, F.funD.bindsN fun _ _ _ _ _ _ us hl => (match us, hl with | [_], _ => rfl), F.kp, C.t.m_l_least⟩
    refine F.ok sc_l_least (fun vs H Q E h => ?_) (fun A outer s H vs Q E hr h => ?_)
    · obtain ⟨t, cs, rfl, _⟩ := h
      rfl
    · obtain ⟨t, cs, rfl, ht, hT, hn, h60, hq⟩ := h
      have nn := sc_l_least.nd
      refine ⟨_, pss_cons (ps_if (pt_cmpR op_eq (pe_callB call_len_seq (by rfl) C.t.b_len PySem.boot_len (pa_cons (pv 0) pa_nil)) pe_int (nomark _)) (pss_one (ps_ret pe_int)) pss_nil)
        (pss_cons (ps_set (i := 1) nn rfl (Or.inl rfl) pe_non)
        (pss_cons (ps_for ownsA rfl (pi_range1 (by rfl) C.t.b_range (pa_cons (pe_callB call_len_seq (by rfl) C.t.b_len PySem.boot_len (pa_cons (pv 0) pa_nil)) pa_nil)) (pg_name (i := 2) nn rfl (Or.inr rfl))
          (pss_one (ps_for ownsA rfl (pi_range2 (by rfl) C.t.b_range (pa_cons (pe_op op_add (pv 2) pe_int) (pa_cons (pe_callB call_len_seq (by rfl) C.t.b_len PySem.boot_len (pa_cons (pv 0) pa_nil)) pa_nil))) (pg_name (i := 3) nn rfl (Or.inr rfl))
            (pss_cons (ps_set (i := 4) nn rfl (Or.inl rfl) (pe_op op_cat
                (pe_lc (own := [("place", 6), ("one", 7)]) (g := gTup K 2 (gCons (gName 6) (gCons (gName 7) gNil))) rfl nn (pi_enumT (by rfl) C.t.b_enumerate (pa_cons (pv 0) pa_nil)) (blkOk_by (N := n_l_least) (sc := defScope s_l_least) (by decide +kernel))
                  (fun _ _ _ _ _ => by exact pg_tup rfl (pgs_cons (pg_name (i := 6) nn rfl (Or.inl rfl)) (pgs_cons (pg_name (i := 7) nn rfl (Or.inl rfl)) pgs_nil)))
                  (fun _ _ _ _ _ => pts_one (pt_cmpR (r := rIn K true) op_notIn_seq (pv 6) (pe_lst (pa_cons (pv 2) (pa_cons (pv 3) pa_nil))) rfl)) (fun _ _ _ _ _ => pv 7))
                (pe_lst (pa_cons (pe_op op_add (pe_ix ix_tup (pv 0) (pv 2) (fun _ _ => rfl)) (pe_ix ix_tup (pv 0) (pv 3) (fun _ _ => rfl))) pa_nil))))
            (pss_cons (ps_set (i := 5) nn rfl (Or.inl rfl) (pe_op op_add (pe_op op_add (pe_ix ix_tup (pv 0) (pv 2) (fun _ _ => rfl)) (pe_ix ix_tup (pv 0) (pv 3) (fun _ _ => rfl)))
                (pe_cx (IH : CalX P w K mg base (n + 1) "_law_least" ["counts"] (spLeast K n)) hr (Nat.le_refl _) rfl passA (pa_cons (pe_callTy call_tuple_of (by rfl) C.t.b_tuple (by decide +kernel) (pa_cons (pe_callB cr_sorted (by rfl) C.t.b_sorted (by decide +kernel) (pa_cons (pv 4) pa_nil)) pa_nil)) pa_nil))))
            (pss_one (ps_set (i := 1) nn rfl (Or.inl rfl) (pe_ifExp (PW.pt (pw_or (pt_cmpR op_isN (pv 1) pe_non (nomark _)) (pw_or1 (pt_cmpR op_lt (pv 5) (pv 1) (nomark _))))) (pv 5) (pv 1))))))))
          )
        (pss_one (ps_ret (pv 1))))), ?_⟩
      refine ⟨_, rfl, t, _, rfl, .inr ht, rfl, _, rfl, ?_⟩
      rw [List.length_map, decide_eq_false (show ¬ V.int ((cs.length : Nat) : Int) = V.int 1 from fun z => by injection z with z; omega)]
      refine iteF ?_
      refine ⟨_, rfl, t, _, rfl, .inr ht, _, rfl, by rw [List.length_map]; omega, by rw [List.length_map]; omega, ?_⟩
      rw [List.length_map]
      have leng : ∀ {H' : Hp}, Le (T K) H H' → SqT K H' t (cs.map V.int) := fun L => L.seqT ht
      refine for_range (lo := 0) (n := cs.length) (fun k σ H' => Le (T K) H H' ∧ ∃ a2 a3 a4 a5, σ = [some (.ref t), some (oI (minO (allV (leastF n) cs k))), a2, a3, a4, a5, none, none]) ⟨Le.refl hT, none, none, none, none, rfl⟩ (fun k σ H1 hk ⟨L1, a2, a3, a4, a5, hσ⟩ => ?_) (fun σ H1 ⟨L1, a2, a3, a4, a5, hσ⟩ => ?_)
      · subst hσ
        rw [show (0 : Int) + (k : Nat) = (k : Nat) from Int.zero_add _]
        refine ⟨_, rfl, _, _, rfl, rfl, _, rfl, t, _, rfl, .inr (leng L1), _, _, rfl, ⟨by omega, by omega, by rw [List.length_map]; omega, by rw [List.length_map]; omega⟩, ?_⟩
        rw [List.length_map, show (((cs.length : Nat) : Int) - ((k : Nat) + 1)).toNat = cs.length - (k + 1) by omega, show ((k : Nat) : Int) + 1 = ((k + 1 : Nat) : Int) by omega]
        refine for_range (lo := ((k + 1 : Nat) : Int)) (n := cs.length - (k + 1)) (fun i σ H' => Le (T K) H H' ∧ ∃ a3 a4 a5, σ = [some (.ref t), some (oI (minO (allV (leastF n) cs k ++ rowV (leastF n) cs k i))), some (.int (k : Nat)), a3, a4, a5, none, none])
          ⟨L1, a3, a4, a5, by show _ = [_, some (oI (minO (allV (leastF n) cs k ++ []))), _, _, _, _, _, _]; rw [List.append_nil]; rfl⟩ (fun i σ H2 hi ⟨L2, a3, a4, a5, hσ⟩ => ?_) (fun σ H2 ⟨L2, a3, a4, a5, hσ⟩ => ?_)
        · subst hσ
          rw [show ((k + 1 : Nat) : Int) + (i : Nat) = ((k + 1 + i : Nat) : Int) by omega]
          have hj : k + 1 + i < cs.length := by omega
          generalize hjj : k + 1 + i = j at hj
          refine ⟨_, rfl, t, _, rfl, leng L2, fun D hD => ?_⟩
          refine lc_n cs.length (fun p H' => Le (T K) H2 H' ∧ H' D = some (.lst ((((cs.zipIdx.take p).filter fun p => decide (p.2 ≠ k ∧ p.2 ≠ j)).map (·.1)).map V.int))) ⟨(Le.refl L2.tab).new hD, upd_same⟩ (fun p H3 hp ⟨L3, h3⟩ => ⟨⟨_, V.int cs[p], leng (L2.trans L3), by rw [List.getElem?_map, List.getElem?_eq_getElem hp]; rfl⟩, ?_⟩) (fun H3 ⟨L3, h3⟩ => ⟨⟨_, leng (L2.trans L3), by rw [List.length_map]; exact Nat.le_refl _⟩, ?_⟩)
          · rintro x H4 ⟨q, y, rfl, hqn, rfl, hy⟩
            obtain ⟨v, hv, rfl⟩ := get_map (hy _ (leng (L2.trans L3)))
            refine ⟨q, _, rfl, SqT.of upd_same, rfl, _, _, rfl, _, _, rfl, rfl, rfl, ?_⟩
            have hz : cs.zipIdx[p]? = some (v, p) := by rw [List.getElem?_zipIdx, hv]; simp
            have L4 := L3.new (o := .tup [.int (p : Nat), .int v]) hqn
            have h4 : upd H3 q (.tup [.int (p : Nat), .int v]) D = some (.lst _) := (upd_ne (ne_of_none h3 hqn)).trans h3
            generalize upd H3 q (.tup [.int (p : Nat), .int v]) = H4 at L4 h4
            refine ⟨_, rfl, _, rfl, _, rfl, by show 2 ≤ sizeLine; decide, fun e he => ?_⟩
            have L5 := L4.new (o := .lst [.int (k : Nat), .int (j : Nat)]) he
            have h5 : upd H4 e (.lst [.int (k : Nat), .int (j : Nat)]) D = some (.lst _) := (upd_ne (ne_of_none h4 he)).trans h4
            refine ⟨e, _, rfl, .inl (SqL.of upd_same), rfl, rfl, _, rfl, ?_⟩
            show (if (!((((k : Nat) : Int) == ((p : Nat) : Int)) || ((((j : Nat) : Int) == ((p : Nat) : Int)) || false))) = true then _ else _)
            rw [int_eq, int_eq, take_snoc hz, List.filter_append]
            by_cases hpk : p ≠ k ∧ p ≠ j
            · rw [decide_eq_false (show ¬ k = p from fun z => hpk.1 z.symm), decide_eq_false (show ¬ j = p from fun z => hpk.2 z.symm)]
              refine iteT ⟨_, rfl, _, h5, ?_, L5.set hD h5, ?_⟩
              · rw [List.length_map, List.length_map]
                exact Nat.lt_of_le_of_lt (Nat.le_trans (List.length_filter_le _ _) (by rw [List.length_take]; exact Nat.le_trans (Nat.min_le_left _ _) (show p ≤ 64 by omega))) (by decide)
              · rw [upd_same]
                simp [hpk.1, hpk.2]
            · have : (!(decide (k = p) || (decide (j = p) || false))) = false := by
                by_cases z : k = p
                · simp [z]
                · have : j = p := by
                    by_cases z2 : j = p
                    · exact z2
                    · exact absurd ⟨fun q => z q.symm, fun q => z2 q.symm⟩ hpk
                  simp [this]
              rw [this]
              refine iteF ⟨L5, h5.trans ?_⟩
              rw [List.filter_cons_of_neg (by simpa using hpk)]
              simp
          · rw [List.take_of_length_le (by rw [List.length_zipIdx]; exact Nat.le_refl _)] at h3
            have h3 : H3 D = some (.lst ((pick cs k j).map V.int)) := h3
            have lp : (pick cs k j).length ≤ cs.length := by
              unfold pick
              rw [List.length_map]
              exact Nat.le_trans (List.length_filter_le _ _) (by rw [List.length_zipIdx]; exact Nat.le_refl _)
            have L23 := L2.trans L3
            refine ⟨_, rfl, _, rfl, t, _, _, _, rfl, rfl, leng L23, atI_nat (j := k) (ints_at hk), _, rfl, _, rfl, t, _, _, _, rfl, rfl, leng L23, atI_nat (j := j) (ints_at hj), _, _, rfl, rfl, by show 1 ≤ sizeLine; decide, fun e he => ?_⟩
            refine ⟨D, e, _, _, rfl, rfl, (upd_ne (ne_of_none h3 he)).trans h3, upd_same, by rw [List.length_map]; exact Nat.le_trans (show (pick cs k j).length + 1 ≤ 64 by omega) (by decide), fun q hqn => ?_⟩
            have L6 := (L23.new (o := .lst [.int (at0 cs k + at0 cs j)]) he).new (o := .lst ((pick cs k j).map V.int ++ [.int (at0 cs k + at0 cs j)])) hqn
            have h6 : upd (upd H3 e (.lst [.int (at0 cs k + at0 cs j)])) q (.lst ((pick cs k j).map V.int ++ [.int (at0 cs k + at0 cs j)])) q = some (.lst ((pick cs k j ++ [at0 cs k + at0 cs j]).map V.int)) := by rw [upd_same, List.map_append]; rfl
            generalize upd (upd H3 e (.lst [.int (at0 cs k + at0 cs j)])) q (.lst ((pick cs k j).map V.int ++ [.int (at0 cs k + at0 cs j)])) = H6 at L6 h6
            refine ⟨_, rfl, _, rfl, t, _, _, _, rfl, rfl, leng L6, atI_nat (j := k) (ints_at hk), _, rfl, _, rfl, t, _, _, _, rfl, rfl, leng L6, atI_nat (j := j) (ints_at hj), _, _, rfl, rfl, ?_⟩
            refine ⟨_, rfl, q, _, rfl, SqL.of h6, by rw [List.length_append, List.length_singleton]; omega, fun ns p hperm hris hpn => ?_⟩
            have ens : ns = sortI (pick cs k j ++ [at0 cs k + at0 cs j]) := by
              refine ints_uniq hris ?_ (hperm.trans (List.mergeSort_perm _ _).symm)
              have := List.pairwise_mergeSort (le := fun a b : Int => decide (a ≤ b)) (fun a b c h1 h2 => by simp at h1 h2 ⊢; omega) (fun a b => by simp; omega) (pick cs k j ++ [at0 cs k + at0 cs j])
              exact this.imp fun h => by simpa using h
            subst ens
            refine ⟨p, _, rfl, .inl ⟨SqL.of upd_same, fun r hrn => ?_⟩⟩
            have L8 := (L6.new (o := .lst ((sortI (pick cs k j ++ [at0 cs k + at0 cs j])).map V.int)) hpn).new (o := .tup ((sortI (pick cs k j ++ [at0 cs k + at0 cs j])).map V.int)) hrn
            refine ⟨r, _, rfl, SqT.of upd_same, L8.tab, ?_, by omega, fun H9 L9 => ?_⟩
            · unfold sortI
              rw [List.length_mergeSort, List.length_append, pick_len (by omega) hj, List.length_singleton]
              omega
            · have LF := L8.trans L9
              have ev : minO (allV (leastF n) cs k ++ rowV (leastF n) cs k (i + 1)) = lower (minO (allV (leastF n) cs k ++ rowV (leastF n) cs k i)) (pairV (leastF n) cs k j) := by
                rw [rowV_snoc, hjj, ← List.append_assoc, minO_snoc]
              refine ⟨_, _, rfl, rfl, _, rfl, rfl, _, rfl, ?_⟩
              rw [ev]
              cases minO (allV (leastF n) cs k ++ rowV (leastF n) cs k i) with
              | none =>
                rw [decide_eq_true (show oI none = V.non from rfl)]
                exact iteT (iteT ⟨_, rfl, LF, _, _, _, rfl⟩)
              | some b =>
                rw [decide_eq_false (show ¬ oI (some b) = V.non from fun z => by cases z)]
                refine iteF ⟨_, rfl, _, rfl, _, _, rfl, rfl, _, rfl, ?_⟩
                show (if decide (pairV (leastF n) cs k j < b) = true then _ else _)
                by_cases hlt : pairV (leastF n) cs k j < b
                · rw [decide_eq_true hlt]
                  refine iteT ⟨_, rfl, LF, some (.int (j : Nat)), some (.ref q), some (.int (pairV (leastF n) cs k j)), ?_⟩
                  show _ = [_, some (oI (some (if pairV (leastF n) cs k j < b then pairV (leastF n) cs k j else b))), _, _, _, _, _, _]
                  rw [if_pos hlt]
                  rfl
                · rw [decide_eq_false hlt]
                  refine iteF ⟨_, rfl, LF, some (.int (j : Nat)), some (.ref q), some (.int (pairV (leastF n) cs k j)), ?_⟩
                  show _ = [_, some (oI (some (if pairV (leastF n) cs k j < b then pairV (leastF n) cs k j else b))), _, _, _, _, _, _]
                  rw [if_neg hlt]
                  rfl
        · subst hσ
          rw [← allV_snoc]
          exact ⟨L2, _, _, _, _, rfl⟩
      · subst hσ
        have hne : allV (leastF n) cs cs.length ≠ [] := fun z => by
          unfold allV at z
          have h1 := List.flatten_eq_nil_iff.mp z (rowV (leastF n) cs 0 (cs.length - (0 + 1))) (List.mem_map.mpr ⟨0, List.mem_range.mpr (by omega), rfl⟩)
          have h2 := congrArg List.length h1
          unfold rowV at h2
          rw [List.length_map, List.length_range] at h2
          simp at h2
          omega
        obtain ⟨x, hx⟩ := minO_some hne
        have e : leastF (n + 1) cs = x := by
          show (minO (allV (leastF n) cs cs.length)).getD 0 = x
          rw [hx]; rfl
        have := hq _ L1
        rw [e] at this
        rw [hx]
        exact ⟨_, rfl, this⟩
end
end K1

-- text LamV
set_option maxRecDepth 100000
set_option maxHeartbeats 4000000
/-! LamV: lambdas without parameters as values, and a def that is handed one of them from within a list comprehension. -/
namespace GX
open PySem PySem.Spec PyProof.Rows L2 LamX
/-- the object at f is that lambda -/
def LamO (f : Addr) (q : Str) (params : Arguments) (body : Expr) (scope : Scope) (cl : List (Str × Addr)) (c : Addr) : HO :=
  .ext fun h => ∃ pm ctv : Value, h.get? f = some (PySem.W.kla_obj "<lambda>" q params body scope cl pm c ctv)
section
variable {X : Cx} {pins : List (Addr × Obj)} {σ : L2.St} {H HZ : Hp} {s : Shared}
theorem inv_lamO {q : Str} {params : Arguments} {body : Expr} {scope : Scope} {cl : List (Str × Addr)} {pm ctv : Value} {c' : Addr} {t' : Nat} (I : Inv X pins σ H s) :
    Inv X pins σ (upd H s.heap.objs.size (LamO s.heap.objs.size q params body scope cl c')) { s with heap := s.heap.push (PySem.W.kla_obj "<lambda>" q params body scope cl pm c' ctv), toks := t' } := by
  refine I.laid (a := s.heap.objs.size) (fun b u e => Heap.get?_push_of_some _ e) (Nat.le_refl _) ?_
  have e : (s.heap.push (PySem.W.kla_obj "<lambda>" q params body scope cl pm c' ctv)).get? s.heap.objs.size = some (PySem.W.kla_obj "<lambda>" q params body scope cl pm c' ctv) := Heap.get?_push_size _ rfl
  exact ⟨⟨pm, ctv, e⟩, ⟨_, e⟩, fun h1 h2 ⟨pm, ctv, z⟩ st => ⟨pm, ctv, st _ z⟩⟩
/-- the reading of a lambda as a value -/
def tLamV (X : Cx) (T : List (Addr × Str)) (params : Arguments) (body : Expr) (scope : Scope) : TE := fun _ H Q => Tabs T H ∧ ∀ (f c' : Addr) (H1 : Hp), Le T H H1 → H f = none →
  H1 f = some (LamO f (X.env.qual ++ "<lambda>") params body scope (cloFrom X.env.cells scope.names []) c') → H1 c' = some (CodeO c' (X.env.qual ++ "<lambda>")) → Q (.ref f) H1
theorem pe_lam {T : List (Addr × Str)} {c P : Addr} {params : Arguments} {body : Expr} {scope : Scope} {pos : Pos} (TB : TabB X.base X.mg c P) (hcode : X.env.code = .ref c) (hmT : (P, X.env.qual ++ "<lambda>") ∈ T) (hu : ∀ p ∈ T, p.1 = P → p.2 = X.env.qual ++ "<lambda>")
    (L : LamS X.env.scope scope) (hdef : defaultsOf params X.env = ([], [])) : PE X (.Lambda params body scope pos) (tLamV X T params body scope) := by
  refine ⟨fun pins s σ H Q I h => ?_⟩
  obtain ⟨hT, h⟩ := h
  obtain ⟨ps, hP, ht, ha⟩ := hT _ hmT
  refine PySem.W.kla_eval hdef ?_
  have bP : s.heap.BuiltinsAt X.mg P := TB.bm.keeps I.bk
  have hP' : s.heap.get? P = some { cls := .none, data := .fields ps } := I.hok P _ hP
  cases hc : codeAmong pos ps.toList with
  | none =>
    refine PySem.W.kla_makeFunction (mg := X.mg) (c := c) (P := P) (ps := ps) (closure_ok (L.has I.ok)) I.ok.glob (I.mod.glob.keeps I.bk) hcode (TB.code.keeps I.bk) hP' ht hc TB.gP bP fun c' ctv h' tk hx hge hlt hrec htb => ?_
    obtain ⟨c2, oc, vs, t, e2, hoc, hd, hv⟩ := hrec
    cases e2
    have nC : H c' = none := I.hok.fresh hge
    have I1 := inv_table (t' := tk) (more := #[rawInt pos.line, rawInt pos.col, .ref c']) (h' := h') I hP (fun b o hb e => hx b o hb e) htb hge ⟨oc, vs, t, hoc, hd, hv⟩
    have hE : ExtN H (upd (upd H P (.tbl (ps ++ #[rawInt pos.line, rawInt pos.col, .ref c']))) c' (CodeO c' (X.env.qual ++ "<lambda>"))) := fun b o e n => by
      rw [upd_ne (ne_of_none e nC), upd_ne (fun z => n ps (Option.some.inj (e.symm.trans (by rw [z]; exact hP))))]
      exact e
    have eL : (ps ++ #[rawInt pos.line, rawInt pos.col, .ref c']).toList = ps.toList ++ [rawInt pos.line, rawInt pos.col, .ref c'] := by simp
    have T1 : Tabs T (upd (upd H P (.tbl (ps ++ #[rawInt pos.line, rawInt pos.col, .ref c']))) c' (CodeO c' (X.env.qual ++ "<lambda>"))) := fun p hp => by
      by_cases hb : p.1 = P
      · rw [hu p hp hb, hb]
        refine ⟨_, by rw [upd_ne (ne_of_none hP nC), upd_same], by rw [eL]; exact PySem.TriplesOk_snoc _ _ _ _ ht, fun p' cv hcv => ?_⟩
        rw [eL] at hcv
        rcases among_app _ ht hcv with z | z
        · obtain ⟨c0, e1, e2⟩ := ha p' cv z
          exact ⟨c0, e1, hE _ _ e2 codeO_ne⟩
        · exact ⟨c', z, upd_same⟩
      · obtain ⟨ps', a1, a2, a3⟩ := hT p hp
        refine ⟨ps', by rw [upd_ne (ne_of_none a1 nC), upd_ne hb]; exact a1, a2, fun p' cv hcv => ?_⟩
        obtain ⟨c0, e1, e2⟩ := a3 p' cv hcv
        exact ⟨c0, e1, hE _ _ e2 codeO_ne⟩
    have nF := I1.hok.fresh (Nat.le_refl _)
    have L1 : Le T H (upd (upd H P (.tbl (ps ++ #[rawInt pos.line, rawInt pos.col, .ref c']))) c' (CodeO c' (X.env.qual ++ "<lambda>"))) := ⟨hE, T1, fun b e => by
      have e1 : upd H P (.tbl (ps ++ #[rawInt pos.line, rawInt pos.col, .ref c'])) b = none := upd_none2 e
      exact upd_none2 e1⟩
    refine ⟨.ref h'.objs.size, _, inv_lamO (t' := tk) I1, rfl, h h'.objs.size c' _ (L1.new nF) (I.hok.fresh (Nat.le_trans hge (Nat.le_of_lt hlt))) upd_same ?_⟩
    exact (upd_ne (Nat.ne_of_lt hlt)).trans upd_same
  | some cv =>
    obtain ⟨c', e, hco⟩ := ha pos cv hc
    subst e
    refine PySem.W.kla_makeFunctionHit (mg := X.mg) (c := c) (P := P) (ps := ps) (closure_ok (L.has I.ok)) I.ok.glob (I.mod.glob.keeps I.bk) hcode (TB.code.keeps I.bk) hP' ht hc bP fun ctv h' tk hx hsz => ?_
    have I1 : Inv X pins σ H { s with heap := h', toks := tk } := I.kept hx
    have nF : H h'.objs.size = none := I1.hok.fresh (Nat.le_refl _)
    refine ⟨.ref h'.objs.size, _, inv_lamO (t' := tk) I1, rfl, h h'.objs.size c' _ ((Le.refl hT).new nF) nF upd_same ?_⟩
    exact (upd_ne (ne_of_none hco nF)).trans hco
/-- x(), in the def that got the lambda, the lambda's object known -/
theorem pe_actV {CXg : CXT} {Eg : XK} {Ng : List Str} {qg : Str} {sg : Scope} {g f c' : Addr} {cdg : Value} {params : Arguments} {body : Expr} {scope : Scope} {k i : Nat} {a : Str} {pn : List (Addr × Obj)} {xe : Value → Shared → Prop} {W : WX} {E : XK} {tb : TE} {p1 p2 : Pos}
    (I : Inv X pins σ H s) (L : LamS X.env.scope scope) (hbind : ∀ pm ctv, bindArgs (PySem.W.kla_fn "<lambda>" (X.env.qual ++ "<lambda>") params body scope (cloFrom X.env.cells scope.names []) pm (.ref c') ctv) ⟨[], []⟩ = pure [])
    (tk : L2.Takes ((cxOf CXg X.prog X.w X.K X.mg X.base Ng qg sg g cdg X.A X.stack s H Eg).tr pn xe) W) (hW : ∀ cls d σ' H', E cls d H' → W cls d σ' H') (hr : Room (k + 1) (X.A.deeper (envOfC qg sg s.heap.objs.size g cdg)))
    (hbody : ∀ (A : Around) (outer : List Env) (s : Shared) (H : Hp), Room k (A.deeper (lamEnv X scope s.heap.objs.size f c')) → PE (lamCx X A outer s H E scope f c') body tb)
    (hN : Ng[i]? = some a) (hv : Vis sg a) (hd : (a == ("__debug__" : Str)) = false := by decide) (hcd : (a == ("__classdict__" : Str)) = false := by decide) :
    PE ((cxOf CXg X.prog X.w X.K X.mg X.base Ng qg sg g cdg X.A X.stack s H Eg).tr pn xe) (.Call (.Name a p1) [] [] p2)
      (fun σZ HZ Q => σZ[i]? = some (some (.ref f)) ∧ HZ c' = some (CodeO c' (X.env.qual ++ "<lambda>")) ∧ HZ f = some (LamO f (X.env.qual ++ "<lambda>") params body scope (cloFrom X.env.cells scope.names []) c') ∧ tb σ HZ Q) := by
  refine ⟨fun pinsZ sZ σZ HZ Q IZ h => ?_⟩
  obtain ⟨hs, hc, hl, ht⟩ := h
  refine wpAny_Call_Name_kw (thn ((pe_var (pos := p1) (i := i) hN hv hd hcd).run pinsZ sZ σZ HZ (fun v H1 => v = .ref f ∧ H1 = HZ) IZ ⟨.ref f, hs, rfl, rfl⟩) fun u s1 ⟨v, H1, I1, r1, ev, eH⟩ => ?_)
  subst ev
  rw [eH] at I1
  obtain rfl : u = Value.ref f := r1
  obtain ⟨⟨pm, ctv, of1⟩, _, _⟩ := I1.hok f _ hl
  refine PySem.W.callWith_F0 ⟨_, _, _, _, of1⟩ ?_
  obtain ⟨⟨oc, vs, t, hoc, hdc, hvc⟩, _, _⟩ := I1.hok c' _ hc
  have rc : codeAny (model X.prog X.w) (X.A.deeper (envOfC qg sg s.heap.objs.size g cdg)) (.call (.ref f) ⟨[], []⟩) (CR (L2.CX X.prog X.w) (envOfC qg sg s.heap.objs.size g cdg :: X.stack) X.prog X.w HZ s1 Q E) s1 := by
    refine PySem.W.kla_callFunE hr.depth of1 rfl L.co L.gen rfl ⟨c', oc, vs, t, rfl, hoc, hdc, hvc⟩ ?_
    rw [hbind]
    refine wpAny_pure (wpAny_newFunctionEnv (fun y hy => (L.own y hy).2) (fun y hy => absurd hy (by simp)) (fun h₁ hns hsb => ⟨I1.nolimit.fresh _ hsb, ?_⟩) L.kind)
    show codeAny _ _ (.expr body (lamEnv X scope s1.heap.objs.size f c')) _ _
    have J := lam_start2 (E := E) (f := f) (c' := c') (tk := s1.toks + ([] : List (Str × Value)).length) I L I1.env0 hr.hd I1.base hns fun b o e => hsb.extBut b o (Nat.ne_of_lt (Heap.lt_size e)) (Heap.get?_push_of_some _ e)
    refine PySem.W.kla_codeExpr (wpAny_mono ((hbody _ _ s1 HZ (hr.deeper _)).run [] _ _ HZ Q J ht) (fun v s' hq => ?_) fun e s' hq => hq)
    obtain ⟨w', H', J', rv, q⟩ := hq
    exact ⟨w', H', J'.os, J'.bare, J'.base, J'.hok, rv, q⟩
  have hx : Passes (L2.CX X.prog X.w) ((cxOf CXg X.prog X.w X.K X.mg X.base Ng qg sg g cdg X.A X.stack s H Eg).tr pn xe) E := L2.passes_call tk hW
  refine wpAny_call (codeAny_mono rc fun r s' hq => ?_)
  match r, hq with
  | .error e, hq => exact hx pinsZ σZ HZ s1 e s' I1 hq
  | .ok (.ret u), hq => exact I1.after hq
  | .ok .next, hq => exact False.elim hq
  | .ok .brk, hq => exact False.elim hq
  | .ok .cont, hq => exact False.elim hq
end
/-- a lambda's words, and what its body's reading is when E is let out -/
structure LamD where
  params : Arguments
  body : Expr
  scope : Scope
  t : XK → TE
section
variable {X : Cx}
abbrev lamAt (X : Cx) (d : LamD) (f c' : Addr) : HO := LamO f (X.env.qual ++ "<lambda>") d.params d.body d.scope (cloFrom X.env.cells d.scope.names []) c'
/-- the reading of told(f), f one of the lambdas Fam; σ the outer def's names -/
def tTold (X : Cx) (Fam : List LamD) (TT : (XK → Hp → VK → Prop) → Hp → VK → Prop) (σ : L2.St) (j : Nat) : TE := fun σb H Q => ∃ (f c' : Addr) (d : LamD), σb[j]? = some (some (.ref f)) ∧ d ∈ Fam ∧ H f = some (lamAt X d f c') ∧ H c' = some (CodeO c' (X.env.qual ++ "<lambda>")) ∧
  TT (fun E H' Q' => H' f = some (lamAt X d f c') ∧ d.t E σ H' Q') H Q
/-- what is asked of each lambda -/
structure LamOk (X : Cx) (k : Nat) (d : LamD) : Prop where
  s : LamS X.env.scope d.scope
  bind : ∀ (q : Str) (cl : List (Str × Addr)) (pm cv ctv : Value), bindArgs (PySem.W.kla_fn "<lambda>" q d.params d.body d.scope cl pm cv ctv) ⟨[], []⟩ = pure []
  run : ∀ (A : Around) (outer : List Env) (s : Shared) (H : Hp) (E : XK) (f c' : Addr), Room k (A.deeper (lamEnv X d.scope s.heap.objs.size f c')) → PE (lamCx X A outer s H E d.scope f c') d.body (d.t E)
theorem pe_toldV {s0 : Shared} {H0 : Hp} {scope0 : Scope} {ce : Env} {fp : List Addr} {σ : L2.St} {Fam : List LamD} {TT : (XK → Hp → VK → Prop) → Hp → VK → Prop} {x a fn : Str} {g : Addr} {k j : Nat} {pg : Arguments} {bg : List Stmt} {sg : Scope} {dV kV doc pm cdv ct oc : Value} {an od : Option Addr} {osl : Array (Option Value)} {Ng : List Str} {p p2 pos : Pos}
    (back : ∀ pn σ' H' z, Inv (X.blk s0 H0 scope0 ce fp) pn σ' H' z → ∃ ps, Inv X ps σ H' z) (hF : ∀ d ∈ Fam, LamOk X k d)
    (hg : Gl (X.blk s0 H0 scope0 ce fp) x) (hm : X.mg x = some (.ref g)) (hk : PySem.W.keepIn X.K (.ref g) = true)
    (lk : X.K.lookup g = some ⟨oc, od, .func (PySem.W.fnOf x x pg bg sg dV kV doc pm an cdv ct), osl⟩) (hcg : PySem.W.codeIn X.K cdv x = true) (hb : L2.Binds X.K (PySem.W.fnOf x x pg bg sg dV kV doc pm an cdv ct) [a] []) (Sg : FnScope Ng [a] sg) (hNg : Ng[0]? = some a) (hva : Vis sg a)
    (hG : GivesTo X Ng x sg g cdv bg a (X.env.qual ++ "<lambda>") TT) (hr : Room (k + 2) X.A) (hN : X.N[j]? = some fn) (hv : Vis ce.scope fn)
    (hdb : (x == ("__debug__" : Str)) = false := by decide) (hd : (a == ("__debug__" : Str)) = false := by decide) (hcd : (a == ("__classdict__" : Str)) = false := by decide) (hd2 : (fn == ("__debug__" : Str)) = false := by decide) (hcd2 : (fn == ("__classdict__" : Str)) = false := by decide) :
    PE (X.blk s0 H0 scope0 ce fp) (.Call (.Name x p) [.Name fn p2] [] pos) (tTold X Fam TT σ j) := by
  refine ⟨fun pins s σb H Q I h => ?_⟩
  obtain ⟨f, c', d, hs, hdF, hl, hco, h⟩ := h
  have D := hF d hdF
  refine wpAny_Call_Name_kw (ld_glob I hg hm ?_ hdb)
  refine PySem.W.callWith_K (h₀ := X.base) I.ok.mod.kin hk ?_ (by rfl) (by rfl)
  show wpAny _ _ (spliced ((false, eval (.Name fn p2) ce) :: backTo pos (starEach [] ce))) _ _ s
  refine Calls.spliced_cons (thn ((pe_var (X := X.blk s0 H0 scope0 ce fp) (pos := p2) (i := j) hN hv hd2 hcd2).run pins s σb H (fun v H1 => v = .ref f ∧ H1 = H) I ⟨.ref f, hs, rfl, rfl⟩) fun u s1 ⟨v, H1, I1, r1, ev, eH⟩ => ?_)
  subst ev
  rw [eH] at I1
  obtain rfl : u = Value.ref f := r1
  refine Calls.spliced_nil ⟨I1.kIn, ?_⟩
  obtain ⟨ps, IX⟩ := back _ _ _ _ I1
  have rc : codeAny (model X.prog X.w) X.A (.call (.ref g) ⟨[.ref f], []⟩) (CR C8.CX0 X.stack X.prog X.w H s1 Q C8.E0) s1 := by
    refine run_ofS (N := Ng) (ps := [a]) (us := [.ref f]) (vs := [.ref f]) lk hcg Sg hr I1.env0 (hb s1 [.ref f] I1.kIn rfl) (.cons rfl .nil) rfl fun hr' => ?_
    obtain ⟨t', ht', hq'⟩ := hG f c' s1 H Q (fun E H' Q' => H' f = some (lamAt X d f c') ∧ d.t E σ H' Q') (fun W pn xe E p1 p2 tk hW => pe_actV (i := 0) IX D.s (fun _ _ => D.bind _ _ _ _ _) tk hW hr' (fun A outer s H hr2 => D.run A outer s H E f c' hr2) hNg hva hd hcd) hco h
    exact ⟨t', ht'.nox, hq'⟩
  refine wpAny_call (codeAny_mono rc fun r s2 hq => ?_)
  match r, hq with
  | .error e, hq => exact (show False from hq).elim
  | .ok (.ret u), hq => exact I1.after hq
  | .ok .next, hq => exact False.elim hq
  | .ok .brk, hq => exact False.elim hq
  | .ok .cont, hq => exact False.elim hq
end
end GX

-- text K1Q
set_option maxRecDepth 100000
set_option maxHeartbeats 4000000
namespace K1
open PySem PySem.Spec PyProof.Rows L2 LamX GX
section
variable {P : Program} {w : World} {K : PySem.W.Frag} {mg : Str → Option Value} {base : Heap}
/-! ### what cannot be -/
/-- the lambdas of the law's plain part, in their order -/
def elts : Stmt → List Expr
  | .Assign _ (.List es _) _ => es
  | _ => []
def lamE (i : Nat) : Expr := match defBody s_l_plain with
  | _ :: st :: _ => (elts st)[i]?.getD (.Constant .none 0 default)
  | _ => .Constant .none 0 default
theorem takesL {X : Cx} {A : Around} {outer : List Env} {s : Shared} {H : Hp} {E : XK} {scope : Scope} {f c' : Addr} : L2.Takes (lamCx X A outer s H E scope f c') (fun cls d _ H => E cls d H) := takes_of rfl rfl rfl rfl
theorem passL {X : Cx} {A : Around} {outer : List Env} {s : Shared} {H : Hp} {E : XK} {scope : Scope} {f c' : Addr} : Passes (L2.CX X.prog X.w) (lamCx X A outer s H E scope f c') E := passes_call takesL fun _ _ _ _ h => h
def wsP : List (List Nat) := [[97], [98], [97, 98]]
/-- the lambda lets CodeError out -/
def LamR (K : PySem.W.Frag) (X : Cx) (e : Expr) : Prop := match e with
  | .Lambda params body scope _ => ∃ t : XK → TE, LamOk X 6 ⟨params, body, scope, t⟩ ∧ ∀ (E : XK) (σ : L2.St) (H : Hp) (Q : VK) (b : Addr), σ[0]? = some (some (.ref b)) → isBook K H b 2 wsP → Tabs (T K) H → (∀ H', Le (T K) H H' → E (.ref (aCE K)) none H') → t E σ H Q
  | _ => False
abbrev XP (P : Program) (w : World) (K : PySem.W.Frag) (mg : Str → Option Value) (base : Heap) (f : Addr) (cd : Value) (A : Around) (outer : List Env) (s : Shared) (H : Hp) (E : XK) : Cx := XA P w K mg base n_l_plain "_law_plain" (defScope s_l_plain) f cd A outer s H E
theorem mk_bad {H1 : Hp} {a : Addr} {n : Int} {ws : List (List Nat)} {Q : VK} {E : XK} (hT : Tabs (T K) H1) (ha : SqL K H1 a (ws.map sV)) (hb : bookBad n ws) (hw : ws.length ≤ 1000) (hE : ∀ H', Le (T K) H1 H' → E (.ref (aCE K)) none H') :
    ∀ x dx, H1 x = none → H1 dx = none → dx ≠ x → spBook K (.ref x :: ([.int n, .ref a] ++ [])) (upd (upd H1 dx (.own x)) x (.ins (aBk K) dx [])) Q E := fun x dx hx hdx hne => by
  have L1 := (Le.refl hT).new (o := .own x) hdx
  have hx1 : upd H1 dx (.own x) x = none := (upd_ne (Ne.symm hne)).trans hx
  exact ⟨x, a, dx, n, ws, H1, rfl, upd_same, hx, L1.new hx1, (L1.new hx1).seqL ha, hw, fun _ => hE, fun h => absurd hb h⟩
variable {f : Addr} {cd : Value} {A : Around} {outer : List Env} {s : Shared} {H : Hp} {E : XK}
theorem lam0 (C : Ctx K mg base) : LamR K (XP P w K mg base f cd A outer s H E) (lamE 0) := by
  obtain ⟨fB, fdB, FB, bB, mkB, mgB⟩ := ok_book (P := P) (w := w) C
  refine ⟨fun E => _, ⟨lamS_by (sc := defScope s_l_plain) (by rfl), fun _ _ _ _ _ => rfl, fun A2 outer2 s2 H2 E2 f2 c2 hr2 => pe_make mkB FB (hr2.mono (by decide)) (by rfl) mgB bB .nil passL (pa_cons pe_int (pa_cons (pe_lst (pa_cons pe_str pa_nil)) pa_nil))⟩, fun E σ H Q b hb hbk hT hE => ?_⟩
  refine ⟨by show 1 ≤ sizeLine; decide, fun a ha => ?_⟩
  intro x dx hx hdx hne
  have L1 := (Le.refl hT).new (o := .lst [.str "a"]) ha
  exact mk_bad (n := 0) (ws := [[97]]) L1.tab (SqL.of upd_same) (.inl (by decide)) (by decide) (fun H' L => hE _ (L1.trans L)) x dx hx hdx hne
theorem lam1 (C : Ctx K mg base) : LamR K (XP P w K mg base f cd A outer s H E) (lamE 1) := by
  obtain ⟨fB, fdB, FB, bB, mkB, mgB⟩ := ok_book (P := P) (w := w) C
  refine ⟨fun E => _, ⟨lamS_by (sc := defScope s_l_plain) (by rfl), fun _ _ _ _ _ => rfl, fun A2 outer2 s2 H2 E2 f2 c2 hr2 => pe_make mkB FB (hr2.mono (by decide)) (by rfl) mgB bB .nil passL (pa_cons pe_int (pa_cons (pe_lst (pa_cons pe_str pa_nil)) pa_nil))⟩, fun E σ H Q b hb hbk hT hE => ?_⟩
  refine ⟨by show 1 ≤ sizeLine; decide, fun a ha => ?_⟩
  intro x dx hx hdx hne
  have L1 := (Le.refl hT).new (o := .lst [.str "a"]) ha
  exact mk_bad (n := 11) (ws := [[97]]) L1.tab (SqL.of upd_same) (.inl (by decide)) (by decide) (fun H' L => hE _ (L1.trans L)) x dx hx hdx hne
theorem lam2 (C : Ctx K mg base) : LamR K (XP P w K mg base f cd A outer s H E) (lamE 2) := by
  obtain ⟨fB, fdB, FB, bB, mkB, mgB⟩ := ok_book (P := P) (w := w) C
  refine ⟨fun E => _, ⟨lamS_by (sc := defScope s_l_plain) (by rfl), fun _ _ _ _ _ => rfl, fun A2 outer2 s2 H2 E2 f2 c2 hr2 => pe_make mkB FB (hr2.mono (by decide)) (by rfl) mgB bB .nil passL (pa_cons pe_int (pa_cons (pe_lst pa_nil) pa_nil))⟩, fun E σ H Q b hb hbk hT hE => ?_⟩
  refine ⟨by show 0 ≤ sizeLine; decide, fun a ha => ?_⟩
  intro x dx hx hdx hne
  have L1 := (Le.refl hT).new (o := .lst []) ha
  exact mk_bad (n := 1) (ws := []) L1.tab (SqL.of upd_same) (.inr (.inl (by decide))) (by decide) (fun H' L => hE _ (L1.trans L)) x dx hx hdx hne
theorem lam3 (C : Ctx K mg base) : LamR K (XP P w K mg base f cd A outer s H E) (lamE 3) := by
  obtain ⟨fB, fdB, FB, bB, mkB, mgB⟩ := ok_book (P := P) (w := w) C
  refine ⟨fun E => _, ⟨lamS_by (sc := defScope s_l_plain) (by rfl), fun _ _ _ _ _ => rfl, fun A2 outer2 s2 H2 E2 f2 c2 hr2 => pe_make mkB FB (hr2.mono (by decide)) (by rfl) mgB bB .nil passL (pa_cons pe_int (pa_cons (pe_lst (pa_cons pe_str (pa_cons pe_str (pa_cons pe_str pa_nil)))) pa_nil))⟩, fun E σ H Q b hb hbk hT hE => ?_⟩
  refine ⟨by show 3 ≤ sizeLine; decide, fun a ha => ?_⟩
  intro x dx hx hdx hne
  have L1 := (Le.refl hT).new (o := .lst [.str "a", .str "b", .str "c"]) ha
  exact mk_bad (n := 1) (ws := [[97], [98], [99]]) L1.tab (SqL.of upd_same) (.inr (.inl (by decide))) (by decide) (fun H' L => hE _ (L1.trans L)) x dx hx hdx hne
theorem lam4 (C : Ctx K mg base) : LamR K (XP P w K mg base f cd A outer s H E) (lamE 4) := by
  obtain ⟨fB, fdB, FB, bB, mkB, mgB⟩ := ok_book (P := P) (w := w) C
  refine ⟨fun E => _, ⟨lamS_by (sc := defScope s_l_plain) (by rfl), fun _ _ _ _ _ => rfl, fun A2 outer2 s2 H2 E2 f2 c2 hr2 => pe_make mkB FB (hr2.mono (by decide)) (by rfl) mgB bB .nil passL (pa_cons pe_int (pa_cons (pe_lst (pa_cons pe_str (pa_cons pe_str pa_nil))) pa_nil))⟩, fun E σ H Q b hb hbk hT hE => ?_⟩
  refine ⟨by show 2 ≤ sizeLine; decide, fun a ha => ?_⟩
  intro x dx hx hdx hne
  have L1 := (Le.refl hT).new (o := .lst [.str "a", .str "a"]) ha
  exact mk_bad (n := 2) (ws := [[97], [97]]) L1.tab (SqL.of upd_same) (.inr (.inr (.inl (by decide)))) (by decide) (fun H' L => hE _ (L1.trans L)) x dx hx hdx hne
theorem lam5 (C : Ctx K mg base) : LamR K (XP P w K mg base f cd A outer s H E) (lamE 5) := by
  obtain ⟨fB, fdB, FB, bB, mkB, mgB⟩ := ok_book (P := P) (w := w) C
  refine ⟨fun E => _, ⟨lamS_by (sc := defScope s_l_plain) (by rfl), fun _ _ _ _ _ => rfl, fun A2 outer2 s2 H2 E2 f2 c2 hr2 => pe_make mkB FB (hr2.mono (by decide)) (by rfl) mgB bB .nil passL (pa_cons pe_int (pa_cons (pe_lst (pa_cons pe_str pa_nil)) pa_nil))⟩, fun E σ H Q b hb hbk hT hE => ?_⟩
  refine ⟨by show 1 ≤ sizeLine; decide, fun a ha => ?_⟩
  intro x dx hx hdx hne
  have L1 := (Le.refl hT).new (o := .lst [.str ""]) ha
  exact mk_bad (n := 2) (ws := [[]]) L1.tab (SqL.of upd_same) (.inr (.inr (.inr ⟨[], by decide, .inl rfl⟩))) (by decide) (fun H' L => hE _ (L1.trans L)) x dx hx hdx hne
theorem lam6 (C : Ctx K mg base) : LamR K (XP P w K mg base f cd A outer s H E) (lamE 6) := by
  obtain ⟨fB, fdB, FB, bB, mkB, mgB⟩ := ok_book (P := P) (w := w) C
  refine ⟨fun E => _, ⟨lamS_by (sc := defScope s_l_plain) (by rfl), fun _ _ _ _ _ => rfl, fun A2 outer2 s2 H2 E2 f2 c2 hr2 => pe_make mkB FB (hr2.mono (by decide)) (by rfl) mgB bB .nil passL (pa_cons pe_int (pa_cons (pe_lst (pa_cons pe_str pa_nil)) pa_nil))⟩, fun E σ H Q b hb hbk hT hE => ?_⟩
  refine ⟨by show 1 ≤ sizeLine; decide, fun a ha => ?_⟩
  intro x dx hx hdx hne
  have L1 := (Le.refl hT).new (o := .lst [.str "a b"]) ha
  exact mk_bad (n := 2) (ws := [[97, 32, 98]]) L1.tab (SqL.of upd_same) (.inr (.inr (.inr ⟨[97, 32, 98], by decide, .inr (by decide)⟩))) (by decide) (fun H' L => hE _ (L1.trans L)) x dx hx hdx hne
theorem lam7 (C : Ctx K mg base) : LamR K (XP P w K mg base f cd A outer s H E) (lamE 7) := by
  obtain ⟨fS, fdS, FS, bS, mS, cS⟩ := ok_sign (P := P) (w := w) C
  refine ⟨fun E => _, ⟨lamS_by (sc := defScope s_l_plain) (by rfl), fun _ _ _ _ _ => rfl, fun A2 outer2 s2 H2 E2 f2 c2 hr2 => pe_meth (pv 0) cS mS FS (hr2.mono (by decide)) bS .nil passL (pa_cons pe_str pa_nil)⟩, fun E σ H Q b hb hbk hT hE => ?_⟩
  obtain ⟨dx, t, ob, k1, k2, k3⟩ := id hbk
  refine ⟨_, hb, b, dx, _, rfl, k1, rfl, ?_⟩
  exact ⟨b, 2, wsP, [122], rfl, hbk, hT, by decide, fun _ H' L => hE _ L, fun p hp => absurd (List.mem_of_getElem? hp) (by decide)⟩
theorem lam8 (C : Ctx K mg base) : LamR K (XP P w K mg base f cd A outer s H E) (lamE 8) := by
  obtain ⟨fS, fdS, FS, bS, mS, cS⟩ := ok_word (P := P) (w := w) C
  refine ⟨fun E => _, ⟨lamS_by (sc := defScope s_l_plain) (by rfl), fun _ _ _ _ _ => rfl, fun A2 outer2 s2 H2 E2 f2 c2 hr2 => pe_meth (pv 0) cS mS FS (hr2.mono (by decide)) bS .nil passL (pa_cons pe_str pa_nil)⟩, fun E σ H Q b hb hbk hT hE => ?_⟩
  obtain ⟨dx, t, ob, k1, k2, k3⟩ := id hbk
  refine ⟨_, hb, b, dx, _, rfl, k1, rfl, ?_⟩
  exact ⟨b, 2, wsP, [48], rfl, hbk, hT, by decide, by decide, by decide, fun h => absurd h (by decide), fun _ H' L => hE _ L⟩
theorem lam9 (C : Ctx K mg base) : LamR K (XP P w K mg base f cd A outer s H E) (lamE 9) := by
  obtain ⟨fS, fdS, FS, bS, mS, cS⟩ := ok_word (P := P) (w := w) C
  refine ⟨fun E => _, ⟨lamS_by (sc := defScope s_l_plain) (by rfl), fun _ _ _ _ _ => rfl, fun A2 outer2 s2 H2 E2 f2 c2 hr2 => pe_meth (pv 0) cS mS FS (hr2.mono (by decide)) bS .nil passL (pa_cons pe_str pa_nil)⟩, fun E σ H Q b hb hbk hT hE => ?_⟩
  obtain ⟨dx, t, ob, k1, k2, k3⟩ := id hbk
  refine ⟨_, hb, b, dx, _, rfl, k1, rfl, ?_⟩
  exact ⟨b, 2, wsP, [48, 120], rfl, hbk, hT, by decide, by decide, by decide, fun h => absurd h (by decide), fun _ H' L => hE _ L⟩
theorem lam10 (C : Ctx K mg base) : LamR K (XP P w K mg base f cd A outer s H E) (lamE 10) := by
  obtain ⟨fS, fdS, FS, bS, mS, cS⟩ := ok_word (P := P) (w := w) C
  refine ⟨fun E => _, ⟨lamS_by (sc := defScope s_l_plain) (by rfl), fun _ _ _ _ _ => rfl, fun A2 outer2 s2 H2 E2 f2 c2 hr2 => pe_meth (pv 0) cS mS FS (hr2.mono (by decide)) bS .nil passL (pa_cons pe_str pa_nil)⟩, fun E σ H Q b hb hbk hT hE => ?_⟩
  obtain ⟨dx, t, ob, k1, k2, k3⟩ := id hbk
  refine ⟨_, hb, b, dx, _, rfl, k1, rfl, ?_⟩
  exact ⟨b, 2, wsP, [], rfl, hbk, hT, by decide, by decide, by decide, fun h => absurd h (by decide), fun _ H' L => hE _ L⟩
theorem lam11 (C : Ctx K mg base) : LamR K (XP P w K mg base f cd A outer s H E) (lamE 11) := by
  obtain ⟨fS, fdS, FS, bS, mS, cS⟩ := ok_told (P := P) (w := w) C
  refine ⟨fun E => _, ⟨lamS_by (sc := defScope s_l_plain) (by rfl), fun _ _ _ _ _ => rfl, fun A2 outer2 s2 H2 E2 f2 c2 hr2 => pe_meth (pv 0) cS mS FS (hr2.mono (by decide)) bS .nil passL (pa_cons pe_str pa_nil)⟩, fun E σ H Q b hb hbk hT hE => ?_⟩
  obtain ⟨dx, t, ob, k1, k2, k3⟩ := id hbk
  refine ⟨_, hb, b, dx, _, rfl, k1, rfl, ?_⟩
  exact ⟨b, 2, wsP, [], rfl, hbk, hT, by decide, by decide, by decide, fun h => absurd h (by unfold toldOk; decide), fun _ H' L => hE _ L⟩
theorem lam12 (C : Ctx K mg base) : LamR K (XP P w K mg base f cd A outer s H E) (lamE 12) := by
  obtain ⟨fS, fdS, FS, bS, mS, cS⟩ := ok_told (P := P) (w := w) C
  refine ⟨fun E => _, ⟨lamS_by (sc := defScope s_l_plain) (by rfl), fun _ _ _ _ _ => rfl, fun A2 outer2 s2 H2 E2 f2 c2 hr2 => pe_meth (pv 0) cS mS FS (hr2.mono (by decide)) bS .nil passL (pa_cons pe_str pa_nil)⟩, fun E σ H Q b hb hbk hT hE => ?_⟩
  obtain ⟨dx, t, ob, k1, k2, k3⟩ := id hbk
  refine ⟨_, hb, b, dx, _, rfl, k1, rfl, ?_⟩
  exact ⟨b, 2, wsP, [97, 32, 32, 98], rfl, hbk, hT, by decide, by decide, by decide, fun h => absurd h (by unfold toldOk; decide), fun _ H' L => hE _ L⟩
theorem lam13 (C : Ctx K mg base) : LamR K (XP P w K mg base f cd A outer s H E) (lamE 13) := by
  obtain ⟨fS, fdS, FS, bS, mS, cS⟩ := ok_told (P := P) (w := w) C
  refine ⟨fun E => _, ⟨lamS_by (sc := defScope s_l_plain) (by rfl), fun _ _ _ _ _ => rfl, fun A2 outer2 s2 H2 E2 f2 c2 hr2 => pe_meth (pv 0) cS mS FS (hr2.mono (by decide)) bS .nil passL (pa_cons pe_str pa_nil)⟩, fun E σ H Q b hb hbk hT hE => ?_⟩
  obtain ⟨dx, t, ob, k1, k2, k3⟩ := id hbk
  refine ⟨_, hb, b, dx, _, rfl, k1, rfl, ?_⟩
  exact ⟨b, 2, wsP, [122], rfl, hbk, hT, by decide, by decide, by decide, fun h => absurd h (by unfold toldOk; decide), fun _ H' L => hE _ L⟩
theorem lam14 (C : Ctx K mg base) : LamR K (XP P w K mg base f cd A outer s H E) (lamE 14) := by
  obtain ⟨fS, fdS, FS, bS, mS, cS⟩ := ok_read (P := P) (w := w) C
  refine ⟨fun E => _, ⟨lamS_by (sc := defScope s_l_plain) (by rfl), fun _ _ _ _ _ => rfl, fun A2 outer2 s2 H2 E2 f2 c2 hr2 => pe_meth (pv 0) cS mS FS (hr2.mono (by decide)) bS .nil passL (pa_cons (pe_lst (pa_cons pe_str pa_nil)) pa_nil)⟩, fun E σ H Q b hb hbk hT hE => ?_⟩
  obtain ⟨dx, t, ob, k1, k2, k3⟩ := id hbk
  refine ⟨_, hb, b, dx, _, rfl, k1, rfl, by show 1 ≤ sizeLine; decide, fun a ha => ?_⟩
  have L1 := (Le.refl hT).new (o := .lst [.str "000"]) ha
  exact ⟨b, a, 2, wsP, [[48, 48, 48]], rfl, Le.book L1 hbk, SqL.of upd_same, L1.tab, by decide, by decide, by decide, by decide, fun h => absurd h (by decide), fun _ H' L => hE _ (L1.trans L)⟩
theorem lam15 (C : Ctx K mg base) : LamR K (XP P w K mg base f cd A outer s H E) (lamE 15) := by
  obtain ⟨fS, fdS, FS, bS, mS, cS⟩ := ok_changes (P := P) (w := w) C
  refine ⟨fun E => _, ⟨lamS_by (sc := defScope s_l_plain) (by rfl), fun _ _ _ _ _ => rfl, fun A2 outer2 s2 H2 E2 f2 c2 hr2 => pe_meth (pv 0) cS mS FS (hr2.mono (by decide)) bS .nil passL (pa_cons pe_str pa_nil)⟩, fun E σ H Q b hb hbk hT hE => ?_⟩
  obtain ⟨dx, t, ob, k1, k2, k3⟩ := id hbk
  refine ⟨_, hb, b, dx, _, rfl, k1, rfl, ?_⟩
  exact ⟨b, 2, wsP, [122], rfl, hbk, hT, by decide, by decide, by decide, by decide, fun h => absurd h (by unfold toldOk; decide), fun _ H' L => hE _ L⟩
theorem lam16 (C : Ctx K mg base) : LamR K (XP P w K mg base f cd A outer s H E) (lamE 16) := by
  refine ⟨fun E => _, ⟨lamS_by (sc := defScope s_l_plain) (by rfl), fun _ _ _ _ _ => rfl, fun A2 outer2 s2 H2 E2 f2 c2 hr2 => pe_cx (ok_check (P := P) (w := w) C) (hr2.mono (Nat.le_refl _)) (by decide) (by rfl) passL (pa_cons pe_str pa_nil)⟩, fun E σ H Q b hb hbk hT hE => ?_⟩
  exact ⟨[50], rfl, hT, fun h => absurd h (by decide), fun _ H' L => hE _ L⟩
theorem lam17 (C : Ctx K mg base) : LamR K (XP P w K mg base f cd A outer s H E) (lamE 17) := by
  refine ⟨fun E => _, ⟨lamS_by (sc := defScope s_l_plain) (by rfl), fun _ _ _ _ _ => rfl, fun A2 outer2 s2 H2 E2 f2 c2 hr2 => pe_cx (ok_far (P := P) (w := w) C) (hr2.mono (Nat.le_refl _)) (by decide) (by rfl) passL (pa_cons pe_str (pa_cons pe_str pa_nil))⟩, fun E σ H Q b hb hbk hT hE => ?_⟩
  exact ⟨[48], [48, 48], rfl, hT, by decide, by decide, fun h => absurd h (by decide), fun _ H' L => hE _ L⟩
theorem lam18 (C : Ctx K mg base) : LamR K (XP P w K mg base f cd A outer s H E) (lamE 18) := by
  refine ⟨fun E => _, ⟨lamS_by (sc := defScope s_l_plain) (by rfl), fun _ _ _ _ _ => rfl, fun A2 outer2 s2 H2 E2 f2 c2 hr2 => pe_cx (ok_near (P := P) (w := w) C) (hr2.mono (Nat.le_refl _)) (by decide) (by rfl) passL (pa_cons (pe_lst (pa_cons pe_str pa_nil)) pa_nil)⟩, fun E σ H Q b hb hbk hT hE => ?_⟩
  refine ⟨by show 1 ≤ sizeLine; decide, fun a ha => ?_⟩
  have L1 := (Le.refl hT).new (o := .lst [.str "0"]) ha
  exact ⟨a, [[48]], rfl, SqL.of upd_same, L1.tab, by decide, by decide, fun h => absurd h (by decide), fun _ H' L => hE _ (L1.trans L)⟩
theorem lam19 (C : Ctx K mg base) : LamR K (XP P w K mg base f cd A outer s H E) (lamE 19) := by
  refine ⟨fun E => _, ⟨lamS_by (sc := defScope s_l_plain) (by rfl), fun _ _ _ _ _ => rfl, fun A2 outer2 s2 H2 E2 f2 c2 hr2 => pe_cx (ok_with (P := P) (w := w) C) (hr2.mono (Nat.le_refl _)) (by decide) (by rfl) passL (pa_cons pe_str pa_nil)⟩, fun E σ H Q b hb hbk hT hE => ?_⟩
  exact ⟨[], rfl, hT, by decide, fun h => absurd h (by decide), fun _ H' L => hE _ L⟩
theorem lam20 (C : Ctx K mg base) : LamR K (XP P w K mg base f cd A outer s H E) (lamE 20) := by
  refine ⟨fun E => _, ⟨lamS_by (sc := defScope s_l_plain) (by rfl), fun _ _ _ _ _ => rfl, fun A2 outer2 s2 H2 E2 f2 c2 hr2 => pe_cx (ok_whole (P := P) (w := w) C) (hr2.mono (Nat.le_refl _)) (by decide) (by rfl) passL (pa_cons pe_str pa_nil)⟩, fun E σ H Q b hb hbk hT hE => ?_⟩
  exact ⟨[120], rfl, hT, fun h => absurd h (by decide), fun _ H' L => hE _ L⟩
theorem lam21 (C : Ctx K mg base) : LamR K (XP P w K mg base f cd A outer s H E) (lamE 21) := by
  refine ⟨fun E => _, ⟨lamS_by (sc := defScope s_l_plain) (by rfl), fun _ _ _ _ _ => rfl, fun A2 outer2 s2 H2 E2 f2 c2 hr2 => pe_cx (ok_guard (P := P) (w := w) C) (hr2.mono (Nat.le_refl _)) (by decide) (by rfl) passL (pa_cons pe_str pa_nil)⟩, fun E σ H Q b hb hbk hT hE => ?_⟩
  exact ⟨[48, 48, 48], rfl, hT, by decide, fun h => absurd h (by decide), fun _ H' L => hE _ L⟩
theorem lam22 (C : Ctx K mg base) : LamR K (XP P w K mg base f cd A outer s H E) (lamE 22) := by
  refine ⟨fun E => _, ⟨lamS_by (sc := defScope s_l_plain) (by rfl), fun _ _ _ _ _ => rfl, fun A2 outer2 s2 H2 E2 f2 c2 hr2 => pe_cx (ok_mend (P := P) (w := w) C) (hr2.mono (Nat.le_refl _)) (by decide) (by rfl) passL (pa_cons pe_str pa_nil)⟩, fun E σ H Q b hb hbk hT hE => ?_⟩
  exact ⟨[48, 48, 48, 48], rfl, hT, by decide, fun h => absurd h (by decide), fun h => absurd h (by decide), fun _ H' L => hE _ L⟩
theorem lam23 (C : Ctx K mg base) : LamR K (XP P w K mg base f cd A outer s H E) (lamE 23) := by
  refine ⟨fun E => _, ⟨lamS_by (sc := defScope s_l_plain) (by rfl), fun _ _ _ _ _ => rfl, fun A2 outer2 s2 H2 E2 f2 c2 hr2 => pe_cx (ok_short (P := P) (w := w) C) (hr2.mono (Nat.le_refl _)) (by decide) (by rfl) passL (pa_cons pe_dnewK pa_nil)⟩, fun E σ H Q b hb hbk hT hE => ?_⟩
  intro d hd
  have L1 := (Le.refl hT).new (o := .dK []) hd
  exact ⟨d, [], rfl, upd_same, L1.tab, by decide, List.nodup_nil, fun _ H' L => hE _ (L1.trans L), fun h => absurd (.inl rfl) h⟩
theorem lam24 (C : Ctx K mg base) : LamR K (XP P w K mg base f cd A outer s H E) (lamE 24) := by
  refine ⟨fun E => _, ⟨lamS_by (sc := defScope s_l_plain) (by rfl), fun _ _ _ _ _ => rfl, fun A2 outer2 s2 H2 E2 f2 c2 hr2 => pe_cx (ok_short (P := P) (w := w) C) (hr2.mono (Nat.le_refl _)) (by decide) (by rfl) passL (pa_cons (pe_disp (pps_cons pe_str pe_int pps_nil) (by rfl) (by rfl) (fun z => by cases z) (by decide)) pa_nil)⟩, fun E σ H Q b hb hbk hT hE => ?_⟩
  intro d hd
  refine ⟨upd_same, [(Sum.inr (S [97]), .int 0)], rfl, by decide, ?_⟩
  rw [upd_upd]
  have L1 := (Le.refl hT).new (o := .dK (mergeK [] [(Sum.inr (S [97]), V.int 0)])) hd
  exact ⟨d, [(S [97], 0)], rfl, upd_same, L1.tab, by decide, by decide, fun _ H' L => hE _ (L1.trans L), fun h => absurd (.inr (.inr ⟨_, List.mem_cons_self, by decide⟩)) h⟩
theorem lam25 (C : Ctx K mg base) : LamR K (XP P w K mg base f cd A outer s H E) (lamE 25) := by
  refine ⟨fun E => _, ⟨lamS_by (sc := defScope s_l_plain) (by rfl), fun _ _ _ _ _ => rfl, fun A2 outer2 s2 H2 E2 f2 c2 hr2 => pe_cx (ok_len (P := P) (w := w) C) (hr2.mono (Nat.le_refl _)) (by decide) (by rfl) passL (pa_cons (pe_disp (pps_cons pe_str pe_int pps_nil) (by rfl) (by rfl) (fun z => by cases z) (by decide)) (pa_cons pe_dnewK pa_nil))⟩, fun E σ H Q b hb hbk hT hE => ?_⟩
  intro c hc
  refine ⟨upd_same, [(Sum.inr (S [97]), .int 1)], rfl, by decide, ?_⟩
  rw [upd_upd]
  have L1 := (Le.refl hT).new (o := .dK (mergeK [] [(Sum.inr (S [97]), V.int 1)])) hc
  have hc1 : upd H c (.dK (mergeK [] [(Sum.inr (S [97]), V.int 1)])) c = some (.dK (mergeK [] [(Sum.inr (S [97]), V.int 1)])) := upd_same
  intro d hd
  have hcd := ne_of_none hc1 hd
  have L2 := L1.new (o := .dK []) hd
  exact ⟨c, d, [(S [97], 1)], [], rfl, hcd, (upd_ne hcd).trans hc1, upd_same, L2.tab, by decide, by decide, by decide, fun p hp => by rw [List.mem_singleton.mp hp]; exact ⟨okT_small (by decide), by decide, by decide⟩, fun p hp => by (cases hp), fun h => absurd h.length_eq (by decide), fun _ H' L => hE _ (L2.trans L)⟩
theorem lam26 (C : Ctx K mg base) : LamR K (XP P w K mg base f cd A outer s H E) (lamE 26) := by
  refine ⟨fun E => _, ⟨lamS_by (sc := defScope s_l_plain) (by rfl), fun _ _ _ _ _ => rfl, fun A2 outer2 s2 H2 E2 f2 c2 hr2 => pe_cx (ok_cut (P := P) (w := w) C) (hr2.mono (Nat.le_refl _)) (by decide) (by rfl) passL (pa_cons pe_str (pa_cons (pe_disp (pps_cons pe_str pe_str (pps_cons pe_str pe_str pps_nil)) (by rfl) (by rfl) (fun z => by cases z) (by decide)) pa_nil))⟩, fun E σ H Q b hb hbk hT hE => ?_⟩
  intro d hd
  refine ⟨upd_same, [(Sum.inr (S [97]), sV [48]), (Sum.inr (S [98]), sV [48, 49])], rfl, by decide, ?_⟩
  rw [upd_upd]
  have L1 := (Le.refl hT).new (o := .dK (mergeK [] [(Sum.inr (S [97]), sV [48]), (Sum.inr (S [98]), sV [48, 49])])) hd
  refine ⟨d, [48], [(S [97], [48]), (S [98], [48, 49])], rfl, upd_same, L1.tab, by decide, by decide, by decide, fun p hp => ?_, fun ns hp hs => ⟨fun _ H' L => hE _ (L1.trans L), fun hg => absurd ?_ hg⟩⟩
  · rcases List.mem_cons.mp hp with e | hp
    · rw [e]; exact ⟨okT_small (by decide), by decide⟩
    · rw [List.mem_singleton.mp hp]; exact ⟨okT_small (by decide), by decide⟩
  · exact .inr ⟨S [97], hp.mem_iff.mpr (by decide), S [98], hp.mem_iff.mpr (by decide), by decide, by decide⟩
theorem lam27 (C : Ctx K mg base) : LamR K (XP P w K mg base f cd A outer s H E) (lamE 27) := by
  refine ⟨fun E => _, ⟨lamS_by (sc := defScope s_l_plain) (by rfl), fun _ _ _ _ _ => rfl, fun A2 outer2 s2 H2 E2 f2 c2 hr2 => pe_cx (ok_cut (P := P) (w := w) C) (hr2.mono (Nat.le_refl _)) (by decide) (by rfl) passL (pa_cons pe_str (pa_cons (pe_disp (pps_cons pe_str pe_str pps_nil) (by rfl) (by rfl) (fun z => by cases z) (by decide)) pa_nil))⟩, fun E σ H Q b hb hbk hT hE => ?_⟩
  intro d hd
  refine ⟨upd_same, [(Sum.inr (S [97]), sV [])], rfl, by decide, ?_⟩
  rw [upd_upd]
  have L1 := (Le.refl hT).new (o := .dK (mergeK [] [(Sum.inr (S [97]), sV [])])) hd
  refine ⟨d, [48], [(S [97], [])], rfl, upd_same, L1.tab, by decide, by decide, by decide, fun p hp => ?_, fun ns hp hs => ⟨fun _ H' L => hE _ (L1.trans L), fun hg => absurd ?_ hg⟩⟩
  · rw [List.mem_singleton.mp hp]; exact ⟨okT_small (by decide), by decide⟩
  · exact .inl ⟨S [97], hp.mem_iff.mpr (by decide), by decide⟩
end
end K1

-- text K1R
set_option maxRecDepth 100000
set_option maxHeartbeats 4000000
namespace K1
open PySem PySem.Spec PyProof.Rows L2 LamX GX
section
variable {P : Program} {w : World} {K : PySem.W.Frag} {mg : Str → Option Value} {base : Heap}
/-! ### the law's plain part -/
def tLams (X : Cx) (T : List (Addr × Str)) : List LamD → TA
  | [] => tNil
  | d :: r => tCons (tLamV X T d.params d.body d.scope) (tLams X T r)
theorem lams_run {X : Cx} {T : List (Addr × Str)} : ∀ {ds : List LamD} {σ : L2.St} {H : Hp} {Q : List V → Hp → Prop}, Tabs T H →
    (∀ (fs : List (Addr × Addr)) (H' : Hp), Le T H H' → fs.length = ds.length → (∀ (i : Nat) (d : LamD) (p : Addr × Addr), ds[i]? = some d → fs[i]? = some p → H' p.1 = some (lamAt X d p.1 p.2) ∧ H' p.2 = some (CodeO p.2 (X.env.qual ++ "<lambda>"))) → Q (fs.map fun p => V.ref p.1) H') → tLams X T ds σ H Q
  | [], σ, H, Q, hT, h => h [] H (Le.refl hT) rfl fun i d p hd => by simp at hd
  | d :: r, σ, H, Q, hT, h => ⟨hT, fun f c' H1 L1 hf hl hc => lams_run L1.tab fun fs H2 L2 hlen hall => by
      refine h ((f, c') :: fs) H2 (L1.trans L2) (by rw [List.length_cons, List.length_cons, hlen]) fun i d2 p hd hp => ?_
      cases i with
      | zero =>
        cases Option.some.inj hd
        cases Option.some.inj hp
        exact ⟨L2.ext _ _ hl (fun ps z => by cases z), L2.ext _ _ hc (fun ps z => by cases z)⟩
      | succ i => exact hall i d2 p hd hp⟩
def plainOk : Sp := fun vs H Q _ => True
end
end K1

-- text Sh3
set_option maxRecDepth 100000
set_option maxHeartbeats 400000
namespace K1
open PySem PySem.Spec PyProof.Rows L2 LamX GX
theorem start3 : start [(S [97], 5), (S [98], 2), (S [99], 1)] [S [97], S [98], S [99]] = [(5, 3, [(S [97], [])]), (2, 4, [(S [98], [])]), (1, 5, [(S [99], [])])] := by decide +kernel
theorem ms3 (a b c : Hh) : [a, b, c].mergeSort leH = (([a, b].mergeSort leH).merge [c] leH) := by
  rw [List.mergeSort]
  simp [List.MergeSort.Internal.splitInTwo, List.splitAt, List.splitAt.go]
theorem ms2 (a b : Hh) : [a, b].mergeSort leH = if leH a b then [a, b] else [b, a] := by
  rw [List.mergeSort]
  simp [List.MergeSort.Internal.splitInTwo, List.splitAt, List.splitAt.go, List.merge]
theorem tree3 : tree [(S [97], 5), (S [98], 2), (S [99], 1)] [S [97], S [98], S [99]] = [(8, 1, [(S [99], [48, 48]), (S [98], [48, 49]), (S [97], [49])])] := by
  unfold tree
  rw [start3]
  show join 2 3 _ = _
  simp [join, ms3, ms2, leH, List.merge, pre]
theorem short3 : short [(S [97], 5), (S [98], 2), (S [99], 1)] [S [97], S [98], S [99]] = [(S [97], [49]), (S [98], [48, 49]), (S [99], [48, 48])] := by
  unfold short leaves
  rw [tree3]
  decide +kernel
end K1

-- text K1S
set_option maxRecDepth 100000
set_option maxHeartbeats 600000
namespace K1
open PySem PySem.Spec PyProof.Rows L2 LamX GX
section
variable {P : Program} {w : World} {K : PySem.W.Frag} {mg : Str → Option Value} {base : Heap}
def spPlain (K : PySem.W.Frag) : Sp := fun vs H Q _ => vs = [] ∧ Tabs (T K) H ∧ ∀ H', Le (T K) H H' → Q (.bl true) H'
structure LamP (K : PySem.W.Frag) (X : Cx) (d : LamD) : Prop where
  ok : LamOk X 6 d
  r : ∀ (E : XK) (σ : L2.St) (H : Hp) (Q : VK) (b : Addr), σ[0]? = some (some (.ref b)) → isBook K H b 2 wsP → Tabs (T K) H → (∀ H', Le (T K) H H' → E (.ref (aCE K)) none H') → d.t E σ H Q
def hdefOf (X : Cx) (e : Expr) : Prop := match e with
  | .Lambda params _ _ _ => defaultsOf params X.env = ([], [])
  | _ => False
theorem lamP_of {X : Cx} {e : Expr} {c P : Addr} (h : LamR K X e) (hd : hdefOf X e) (TB : TabB X.base X.mg c P) (hcode : X.env.code = .ref c) (hmT : (P, X.env.qual ++ "<lambda>") ∈ T K) (hu : ∀ p ∈ T K, p.1 = P → p.2 = X.env.qual ++ "<lambda>") :
    ∃ d : LamD, LamP K X d ∧ PE X e (tLamV X (T K) d.params d.body d.scope) := by
  unfold LamR at h
  unfold hdefOf at hd
  split at h
  · obtain ⟨t, h1, h2⟩ := h
    exact ⟨_, ⟨h1, h2⟩, pe_lam TB hcode hmT hu h1.s hd⟩
  · exact h.elim
def tMidA (t : TA) : TA := fun σ H Q => ∃ Mid : List V → Hp → Prop, t σ H Mid ∧ ∀ vs H', Mid vs H' → Q vs H'
theorem pa_midA {X : Cx} {es : List Expr} {t : TA} (h : PA X es t) : PA X es (tMidA t) := by
  refine ⟨fun pos pins s σ H Q I ⟨Mid, hm, hq⟩ => thn (h.run pos pins s σ H Mid I hm) fun v s1 ⟨x, H1, I1, r1, q1⟩ => ⟨x, H1, I1, r1, hq x H1 q1⟩⟩
theorem shaped_codes (ls : List (List Nat)) (h : ∀ l ∈ ls, ∀ c ∈ l, c < 256) : SeqAt.shaped (.tuple ((ls.map S).map PyData.str)) = true := shaped_tuple fun d hd => by
  obtain ⟨z, hz, rfl⟩ := List.mem_map.mp hd
  obtain ⟨l, hl, rfl⟩ := List.mem_map.mp hz
  exact okT_small (h l hl)
theorem eqv_refl_strs (xs : List Str) : PyData.eqv (.tuple (xs.map PyData.str)) (.tuple (xs.map PyData.str)) = true := (eqv_strs xs xs).trans (decide_eq_true rfl)
theorem pa_lam0 {X : Cx} {T : List (Addr × Str)} : PA X [] (tLams X T []) := pa_nil
theorem pa_lam {X : Cx} {T : List (Addr × Str)} {e : Expr} {es : List Expr} {d : LamD} {r : List LamD} (h : PE X e (tLamV X T d.params d.body d.scope)) (hr : PA X es (tLams X T r)) (hs : starEach (e :: es) X.env = (false, eval e X.env) :: starEach es X.env := by rfl) : PA X (e :: es) (tLams X T (d :: r)) := pa_cons h hr hs
theorem ok_plain (C : Ctx K mg base) : CalX P w K mg base 9 "_law_plain" [] (spPlain K) := by
  obtain ⟨fd, F⟩ := C.d.d_l_plain
  refine ⟨_, fd, ?_, F.funD.bindsN fun _ _ _ _ _ _ us hl => (match us, hl with | [], _ => rfl), F.kp, C.t.m_l_plain⟩
  refine F.ok sc_l_plain (fun vs H Q E h => ?_) (fun A outer s H vs Q E hr h => ?_)
  · obtain ⟨rfl, _⟩ := h
    rfl
  · obtain ⟨rfl, hT, hq⟩ := h
    have nn := sc_l_plain.nd
    obtain ⟨t10, i10⟩ := C.t.i_MOST_SHUTTERS
    obtain ⟨t200, i200⟩ := C.t.i_MOST_WORDS
    obtain ⟨fB, fdB, FB, bB, mkB, mgB⟩ := ok_book (P := P) (w := w) C
    obtain ⟨fT, fdT, FT, bT, mT, cT⟩ := ok_told (P := P) (w := w) C
    obtain ⟨fR, fdR, FR, bR, mR, cR⟩ := ok_read (P := P) (w := w) C
    obtain ⟨gd, G⟩ := C.d.d_l_told
    have gb := G.funD.bindsN (ps := ["what"]) fun _ _ _ _ _ _ us hl => (match us, hl with | [_], _ => rfl)
    have gkp := G.kp
    obtain ⟨oc, od, dV, kV, doc, pm, an, ct, osl, ge, glk, ghcd, ghd, ghk⟩ := G.ex
    subst ge
    obtain ⟨d0, p0, v0⟩ := lamP_of (lam0 (P := P) (w := w) (f := He.fAd K ("_law_plain", none)) (cd := Value.ref (He.cT K ("_law_plain", none)).1) (A := A) (outer := outer) (s := s) (H := H) (E := E) C) rfl (C.b _ (tf_mem 7)) rfl (T_mem 7) (T_uniq C.u 7)
    obtain ⟨d1, p1, v1⟩ := lamP_of (lam1 (P := P) (w := w) (f := He.fAd K ("_law_plain", none)) (cd := Value.ref (He.cT K ("_law_plain", none)).1) (A := A) (outer := outer) (s := s) (H := H) (E := E) C) rfl (C.b _ (tf_mem 7)) rfl (T_mem 7) (T_uniq C.u 7)
    obtain ⟨d2, p2, v2⟩ := lamP_of (lam2 (P := P) (w := w) (f := He.fAd K ("_law_plain", none)) (cd := Value.ref (He.cT K ("_law_plain", none)).1) (A := A) (outer := outer) (s := s) (H := H) (E := E) C) rfl (C.b _ (tf_mem 7)) rfl (T_mem 7) (T_uniq C.u 7)
    obtain ⟨d3, p3, v3⟩ := lamP_of (lam3 (P := P) (w := w) (f := He.fAd K ("_law_plain", none)) (cd := Value.ref (He.cT K ("_law_plain", none)).1) (A := A) (outer := outer) (s := s) (H := H) (E := E) C) rfl (C.b _ (tf_mem 7)) rfl (T_mem 7) (T_uniq C.u 7)
    obtain ⟨d4, p4, v4⟩ := lamP_of (lam4 (P := P) (w := w) (f := He.fAd K ("_law_plain", none)) (cd := Value.ref (He.cT K ("_law_plain", none)).1) (A := A) (outer := outer) (s := s) (H := H) (E := E) C) rfl (C.b _ (tf_mem 7)) rfl (T_mem 7) (T_uniq C.u 7)
    obtain ⟨d5, p5, v5⟩ := lamP_of (lam5 (P := P) (w := w) (f := He.fAd K ("_law_plain", none)) (cd := Value.ref (He.cT K ("_law_plain", none)).1) (A := A) (outer := outer) (s := s) (H := H) (E := E) C) rfl (C.b _ (tf_mem 7)) rfl (T_mem 7) (T_uniq C.u 7)
    obtain ⟨d6, p6, v6⟩ := lamP_of (lam6 (P := P) (w := w) (f := He.fAd K ("_law_plain", none)) (cd := Value.ref (He.cT K ("_law_plain", none)).1) (A := A) (outer := outer) (s := s) (H := H) (E := E) C) rfl (C.b _ (tf_mem 7)) rfl (T_mem 7) (T_uniq C.u 7)
    obtain ⟨d7, p7, v7⟩ := lamP_of (lam7 (P := P) (w := w) (f := He.fAd K ("_law_plain", none)) (cd := Value.ref (He.cT K ("_law_plain", none)).1) (A := A) (outer := outer) (s := s) (H := H) (E := E) C) rfl (C.b _ (tf_mem 7)) rfl (T_mem 7) (T_uniq C.u 7)
    obtain ⟨d8, p8, v8⟩ := lamP_of (lam8 (P := P) (w := w) (f := He.fAd K ("_law_plain", none)) (cd := Value.ref (He.cT K ("_law_plain", none)).1) (A := A) (outer := outer) (s := s) (H := H) (E := E) C) rfl (C.b _ (tf_mem 7)) rfl (T_mem 7) (T_uniq C.u 7)
    obtain ⟨d9, p9, v9⟩ := lamP_of (lam9 (P := P) (w := w) (f := He.fAd K ("_law_plain", none)) (cd := Value.ref (He.cT K ("_law_plain", none)).1) (A := A) (outer := outer) (s := s) (H := H) (E := E) C) rfl (C.b _ (tf_mem 7)) rfl (T_mem 7) (T_uniq C.u 7)
    obtain ⟨d10, p10, v10⟩ := lamP_of (lam10 (P := P) (w := w) (f := He.fAd K ("_law_plain", none)) (cd := Value.ref (He.cT K ("_law_plain", none)).1) (A := A) (outer := outer) (s := s) (H := H) (E := E) C) rfl (C.b _ (tf_mem 7)) rfl (T_mem 7) (T_uniq C.u 7)
    obtain ⟨d11, p11, v11⟩ := lamP_of (lam11 (P := P) (w := w) (f := He.fAd K ("_law_plain", none)) (cd := Value.ref (He.cT K ("_law_plain", none)).1) (A := A) (outer := outer) (s := s) (H := H) (E := E) C) rfl (C.b _ (tf_mem 7)) rfl (T_mem 7) (T_uniq C.u 7)
    obtain ⟨d12, p12, v12⟩ := lamP_of (lam12 (P := P) (w := w) (f := He.fAd K ("_law_plain", none)) (cd := Value.ref (He.cT K ("_law_plain", none)).1) (A := A) (outer := outer) (s := s) (H := H) (E := E) C) rfl (C.b _ (tf_mem 7)) rfl (T_mem 7) (T_uniq C.u 7)
    obtain ⟨d13, p13, v13⟩ := lamP_of (lam13 (P := P) (w := w) (f := He.fAd K ("_law_plain", none)) (cd := Value.ref (He.cT K ("_law_plain", none)).1) (A := A) (outer := outer) (s := s) (H := H) (E := E) C) rfl (C.b _ (tf_mem 7)) rfl (T_mem 7) (T_uniq C.u 7)
    obtain ⟨d14, p14, v14⟩ := lamP_of (lam14 (P := P) (w := w) (f := He.fAd K ("_law_plain", none)) (cd := Value.ref (He.cT K ("_law_plain", none)).1) (A := A) (outer := outer) (s := s) (H := H) (E := E) C) rfl (C.b _ (tf_mem 7)) rfl (T_mem 7) (T_uniq C.u 7)
    obtain ⟨d15, p15, v15⟩ := lamP_of (lam15 (P := P) (w := w) (f := He.fAd K ("_law_plain", none)) (cd := Value.ref (He.cT K ("_law_plain", none)).1) (A := A) (outer := outer) (s := s) (H := H) (E := E) C) rfl (C.b _ (tf_mem 7)) rfl (T_mem 7) (T_uniq C.u 7)
    obtain ⟨d16, p16, v16⟩ := lamP_of (lam16 (P := P) (w := w) (f := He.fAd K ("_law_plain", none)) (cd := Value.ref (He.cT K ("_law_plain", none)).1) (A := A) (outer := outer) (s := s) (H := H) (E := E) C) rfl (C.b _ (tf_mem 7)) rfl (T_mem 7) (T_uniq C.u 7)
    obtain ⟨d17, p17, v17⟩ := lamP_of (lam17 (P := P) (w := w) (f := He.fAd K ("_law_plain", none)) (cd := Value.ref (He.cT K ("_law_plain", none)).1) (A := A) (outer := outer) (s := s) (H := H) (E := E) C) rfl (C.b _ (tf_mem 7)) rfl (T_mem 7) (T_uniq C.u 7)
    obtain ⟨d18, p18, v18⟩ := lamP_of (lam18 (P := P) (w := w) (f := He.fAd K ("_law_plain", none)) (cd := Value.ref (He.cT K ("_law_plain", none)).1) (A := A) (outer := outer) (s := s) (H := H) (E := E) C) rfl (C.b _ (tf_mem 7)) rfl (T_mem 7) (T_uniq C.u 7)
    obtain ⟨d19, p19, v19⟩ := lamP_of (lam19 (P := P) (w := w) (f := He.fAd K ("_law_plain", none)) (cd := Value.ref (He.cT K ("_law_plain", none)).1) (A := A) (outer := outer) (s := s) (H := H) (E := E) C) rfl (C.b _ (tf_mem 7)) rfl (T_mem 7) (T_uniq C.u 7)
    obtain ⟨d20, p20, v20⟩ := lamP_of (lam20 (P := P) (w := w) (f := He.fAd K ("_law_plain", none)) (cd := Value.ref (He.cT K ("_law_plain", none)).1) (A := A) (outer := outer) (s := s) (H := H) (E := E) C) rfl (C.b _ (tf_mem 7)) rfl (T_mem 7) (T_uniq C.u 7)
    obtain ⟨d21, p21, v21⟩ := lamP_of (lam21 (P := P) (w := w) (f := He.fAd K ("_law_plain", none)) (cd := Value.ref (He.cT K ("_law_plain", none)).1) (A := A) (outer := outer) (s := s) (H := H) (E := E) C) rfl (C.b _ (tf_mem 7)) rfl (T_mem 7) (T_uniq C.u 7)
    obtain ⟨d22, p22, v22⟩ := lamP_of (lam22 (P := P) (w := w) (f := He.fAd K ("_law_plain", none)) (cd := Value.ref (He.cT K ("_law_plain", none)).1) (A := A) (outer := outer) (s := s) (H := H) (E := E) C) rfl (C.b _ (tf_mem 7)) rfl (T_mem 7) (T_uniq C.u 7)
    obtain ⟨d23, p23, v23⟩ := lamP_of (lam23 (P := P) (w := w) (f := He.fAd K ("_law_plain", none)) (cd := Value.ref (He.cT K ("_law_plain", none)).1) (A := A) (outer := outer) (s := s) (H := H) (E := E) C) rfl (C.b _ (tf_mem 7)) rfl (T_mem 7) (T_uniq C.u 7)
    obtain ⟨d24, p24, v24⟩ := lamP_of (lam24 (P := P) (w := w) (f := He.fAd K ("_law_plain", none)) (cd := Value.ref (He.cT K ("_law_plain", none)).1) (A := A) (outer := outer) (s := s) (H := H) (E := E) C) rfl (C.b _ (tf_mem 7)) rfl (T_mem 7) (T_uniq C.u 7)
    obtain ⟨d25, p25, v25⟩ := lamP_of (lam25 (P := P) (w := w) (f := He.fAd K ("_law_plain", none)) (cd := Value.ref (He.cT K ("_law_plain", none)).1) (A := A) (outer := outer) (s := s) (H := H) (E := E) C) rfl (C.b _ (tf_mem 7)) rfl (T_mem 7) (T_uniq C.u 7)
    obtain ⟨d26, p26, v26⟩ := lamP_of (lam26 (P := P) (w := w) (f := He.fAd K ("_law_plain", none)) (cd := Value.ref (He.cT K ("_law_plain", none)).1) (A := A) (outer := outer) (s := s) (H := H) (E := E) C) rfl (C.b _ (tf_mem 7)) rfl (T_mem 7) (T_uniq C.u 7)
    obtain ⟨d27, p27, v27⟩ := lamP_of (lam27 (P := P) (w := w) (f := He.fAd K ("_law_plain", none)) (cd := Value.ref (He.cT K ("_law_plain", none)).1) (A := A) (outer := outer) (s := s) (H := H) (E := E) C) rfl (C.b _ (tf_mem 7)) rfl (T_mem 7) (T_uniq C.u 7)
    have fam : ∀ d ∈ ([d0, d1, d2, d3, d4, d5, d6, d7, d8, d9, d10, d11, d12, d13, d14, d15, d16, d17, d18, d19, d20, d21, d22, d23, d24, d25, d26, d27] : List LamD), LamP K (XP P w K mg base (He.fAd K ("_law_plain", none)) (Value.ref (He.cT K ("_law_plain", none)).1) A outer s H E) d := by
      intro d hd
      simp only [List.mem_cons, List.not_mem_nil, or_false] at hd
      rcases hd with rfl | rfl | rfl | rfl | rfl | rfl | rfl | rfl | rfl | rfl | rfl | rfl | rfl | rfl | rfl | rfl | rfl | rfl | rfl | rfl | rfl | rfl | rfl | rfl | rfl | rfl | rfl | rfl
      · exact p0
      · exact p1
      · exact p2
      · exact p3
      · exact p4
      · exact p5
      · exact p6
      · exact p7
      · exact p8
      · exact p9
      · exact p10
      · exact p11
      · exact p12
      · exact p13
      · exact p14
      · exact p15
      · exact p16
      · exact p17
      · exact p18
      · exact p19
      · exact p20
      · exact p21
      · exact p22
      · exact p23
      · exact p24
      · exact p25
      · exact p26
      · exact p27
    have hfam : ∀ d ∈ ([d0, d1, d2, d3, d4, d5, d6, d7, d8, d9, d10, d11, d12, d13, d14, d15, d16, d17, d18, d19, d20, d21, d22, d23, d24, d25, d26, d27] : List LamD), LamOk (XP P w K mg base (He.fAd K ("_law_plain", none)) (Value.ref (He.cT K ("_law_plain", none)).1) A outer s H E) 6 d := fun d hd => (fam d hd).ok
    refine ⟨_, pss_cons (ps_set (i := 0) nn rfl (Or.inr rfl) (pe_make mkB FB (hr.mono (by decide)) (by rfl) mgB bB .nil passA (pa_cons pe_int (pa_cons (pe_lst (pa_cons pe_str (pa_cons pe_str (pa_cons pe_str pa_nil)))) pa_nil))))
      (pss_cons (ps_set (i := 1) nn rfl (Or.inl rfl) (pe_lst (pa_midA (pa_lam v0 (pa_lam v1 (pa_lam v2 (pa_lam v3 (pa_lam v4 (pa_lam v5 (pa_lam v6 (pa_lam v7 (pa_lam v8 (pa_lam v9 (pa_lam v10 (pa_lam v11 (pa_lam v12 (pa_lam v13 (pa_lam v14 (pa_lam v15 (pa_lam v16 (pa_lam v17 (pa_lam v18 (pa_lam v19 (pa_lam v20 (pa_lam v21 (pa_lam v22 (pa_lam v23 (pa_lam v24 (pa_lam v25 (pa_lam v26 (pa_lam v27 pa_lam0)))))))))))))))))))))))))))))))
      (pss_cons (ps_if (PW.pt (pw_or (pt_cmpR (op_neD hr.units) (pe_lcB (own := [("f", 2)]) (g := gName 2) rfl nn rfl rfl takesA (pi_list (pv 1)) (blkOk_by (N := n_l_plain) (sc := defScope s_l_plain) (by decide +kernel))
            (fun _ _ _ _ _ => pg_name (i := 2) nn rfl (Or.inl rfl))
            (fun _ _ _ _ _ _ back => pts_one (pt_cmpR op_ne (pe_toldV (j := 2) back hfam (by rfl) C.t.m_l_told gkp glk ghcd gb sc_l_told rfl (.inl rfl) (told_gives (by rfl) C.t.m_CodeError (by decide) fun _ => rfl) (hr.mono (by decide)) rfl (.inl rfl)) pe_str (nomark _)))
            (fun _ _ _ _ _ _ _ _ => pe_int)) (pe_lst pa_nil) (nomark _))
          (pw_or1 (pt_cmpR (op_neD hr.units) (pe_tup (pa_cons (pe_glob (by rfl) i10 (v := .int 10) ⟨_, rfl⟩) (pa_cons (pe_glob (by rfl) i200 (v := .int 200) ⟨_, rfl⟩) pa_nil))) (pe_tup (pa_cons pe_int (pa_cons pe_int pa_nil))) (nomark _)))))
        (pss_one (ps_ret pe_bl)) pss_nil)
      (pss_one (ps_ret
        (pe_and (pe_cmpR (op_eqD hr.units) (pe_meth (pv 0) cT mT FT (hr.mono (by decide)) bT .nil passA (pa_cons pe_str pa_nil)) (pe_tup (pa_cons pe_str (pa_cons pe_str (pa_cons pe_str pa_nil)))) (nomark _))
        (pe_and (pe_cmpR (op_eqD hr.units) (pe_meth (pv 0) cR mR FR (hr.mono (by decide)) bR .nil passA (pa_cons (pe_lst (pa_cons pe_str (pa_cons pe_str pa_nil))) pa_nil)) (pe_tup (pa_cons pe_str (pa_cons pe_str pa_nil))) (nomark _))
        (pe_and (pe_cmpR (op_eq_dictA hr.units0) (pe_cx (ok_short (P := P) (w := w) C) hr (by decide) rfl passA (pa_cons (pe_disp (pps_cons pe_str pe_int (pps_cons pe_str pe_int (pps_cons pe_str pe_int pps_nil))) (by rfl) (by rfl) (fun z => by cases z) (by decide)) pa_nil)) (pe_disp (pps_cons pe_str pe_str (pps_cons pe_str pe_str (pps_cons pe_str pe_str pps_nil))) (by rfl) (by rfl) (fun z => by cases z) (by decide)) (nomark _))
        (pe_and (pe_cmpR (op_eq_dictA hr.units0) (pe_cx (ok_short (P := P) (w := w) C) hr (by decide) rfl passA (pa_cons (pe_disp (pps_cons pe_str pe_int pps_nil) (by rfl) (by rfl) (fun z => by cases z) (by decide)) pa_nil)) (pe_disp (pps_cons pe_str pe_str pps_nil) (by rfl) (by rfl) (fun z => by cases z) (by decide)) (nomark _))
        (pe_and (pe_cmpR op_eq (pe_cx (ok_guard (P := P) (w := w) C) hr (by decide) rfl passA (pa_cons pe_str pa_nil)) pe_str (nomark _))
        (pe_and (pe_cmpR (op_eqD hr.units) (pe_cx (ok_key (P := P) (w := w) C) hr (by decide) rfl passA (pa_cons (pe_tup (pa_cons pe_int (pa_cons pe_int (pa_cons (pe_lst pa_nil) pa_nil)))) pa_nil)) (pe_tup (pa_cons pe_int (pa_cons pe_int pa_nil))) (nomark _))
        (pe_one (pe_cmpR (op_eqD hr.units) (pe_cx (ok_cut (P := P) (w := w) C) hr (by decide) rfl passA (pa_cons pe_str (pa_cons pe_dnewK pa_nil))) (pe_tup pa_nil) (nomark _))))))))))))), ?_⟩
    refine ⟨by show 3 ≤ sizeLine; decide, fun a ha => ?_⟩
    intro x dx hx hdx hne
    have L1 := (Le.refl hT).new (o := .lst [.str "a", .str "b", .str "ab"]) ha
    have hs1 : SqL K (upd H a (.lst [.str "a", .str "b", .str "ab"])) a (wsP.map sV) := SqL.of upd_same
    generalize upd H a (.lst [.str "a", .str "b", .str "ab"]) = H1 at L1 hs1 hx hdx
    have M1 := (Le.refl L1.tab).new (o := .own x) hdx
    have hx1 : upd H1 dx (.own x) x = none := (upd_ne (Ne.symm hne)).trans hx
    refine ⟨x, a, dx, 2, wsP, H1, rfl, upd_same, hx, M1.new hx1, (M1.new hx1).seqL hs1, by decide, fun hb => absurd hb (by unfold bookBad; decide), fun _ H2 L2 hbk => ⟨rfl, ?_⟩⟩
    have hbk : isBook K H2 x 2 wsP := hbk
    have LA := L1.trans L2
    refine ⟨fun vs H3 => ∃ fs : List (Addr × Addr), vs = (fs.map fun p => V.ref p.1) ∧ Le (T K) H2 H3 ∧ fs.length = 28 ∧ ∀ (i : Nat) (p : Addr × Addr), fs[i]? = some p → ∃ d, d ∈ ([d0, d1, d2, d3, d4, d5, d6, d7, d8, d9, d10, d11, d12, d13, d14, d15, d16, d17, d18, d19, d20, d21, d22, d23, d24, d25, d26, d27] : List LamD) ∧ H3 p.1 = some (lamAt (XP P w K mg base (He.fAd K ("_law_plain", none)) (Value.ref (He.cT K ("_law_plain", none)).1) A outer s H E) d p.1 p.2) ∧ H3 p.2 = some (CodeO p.2 ("_law_plain" ++ ".<locals>." ++ "<lambda>")), ?_, ?_⟩
    · refine lams_run LA.tab fun fs H3 L3 hlen hall => ?_
      refine ⟨fs, rfl, L3, hlen, fun i p hp => ?_⟩
      have hi : i < 28 := by
        have := (List.getElem?_eq_some_iff.mp hp).1
        rw [hlen] at this
        exact this
      obtain ⟨d, hd⟩ : ∃ d, ([d0, d1, d2, d3, d4, d5, d6, d7, d8, d9, d10, d11, d12, d13, d14, d15, d16, d17, d18, d19, d20, d21, d22, d23, d24, d25, d26, d27] : List LamD)[i]? = some d := ⟨_, List.getElem?_eq_getElem hi⟩
      exact ⟨d, List.mem_of_getElem? hd, hall i d p hd hp⟩
    rintro vs H3 ⟨fs, rfl, L3, hlen, hall⟩
    refine ⟨by rw [List.length_map, hlen]; show 28 ≤ sizeLine; decide, fun l hl => ?_⟩
    have L4 := LA.trans L3
    have hbk3 := Le.book L3 hbk
    have L5 := L4.new (o := .lst (fs.map fun p => V.ref p.1)) hl
    have e5 := (Le.refl L3.tab).new (o := .lst (fs.map fun p => V.ref p.1)) hl
    have hl5 : upd H3 l (.lst (fs.map fun p => V.ref p.1)) l = some (.lst (fs.map fun p => V.ref p.1)) := upd_same
    have hbk5 := Le.book e5 hbk3
    have hall5 : ∀ (i : Nat) (p : Addr × Addr), fs[i]? = some p → ∃ d, d ∈ ([d0, d1, d2, d3, d4, d5, d6, d7, d8, d9, d10, d11, d12, d13, d14, d15, d16, d17, d18, d19, d20, d21, d22, d23, d24, d25, d26, d27] : List LamD) ∧ upd H3 l (.lst (fs.map fun p => V.ref p.1)) p.1 = some (lamAt (XP P w K mg base (He.fAd K ("_law_plain", none)) (Value.ref (He.cT K ("_law_plain", none)).1) A outer s H E) d p.1 p.2) ∧ upd H3 l (.lst (fs.map fun p => V.ref p.1)) p.2 = some (CodeO p.2 ("_law_plain" ++ ".<locals>." ++ "<lambda>")) := fun i p hp => by
      obtain ⟨d, h1, h2, h3⟩ := hall i p hp
      exact ⟨d, h1, e5.ext _ _ h2 (fun ps z => by cases z), e5.ext _ _ h3 (fun ps z => by cases z)⟩
    clear hall hl L3 e5 hbk3 L4
    generalize upd H3 l (.lst (fs.map fun p => V.ref p.1)) = H5 at L5 hl5 hbk5 hall5
    refine ⟨_, rfl, l, rfl, ⟨_, SqL.of hl5⟩, fun D hD => ?_⟩
    refine lc_list (K := K) (a := l) (xs := fs.map fun p => V.ref p.1) (fun i H' => Le (T K) H5 H' ∧ H' D = some (.lst [])) ⟨(Le.refl L5.tab).new hD, upd_same⟩ (fun i H' _ hP => SqL.of (hP.1.at hl5)) (fun i y H6 hy ⟨L6, h6⟩ => ?_) (fun H6 ⟨L6, h6⟩ => ?_)
    · obtain ⟨p, hp, rfl⟩ := get_map hy
      obtain ⟨d, hd, h1, h2⟩ := hall5 i p hp
      refine ⟨rfl, ?_⟩
      refine ⟨p.1, p.2, d, rfl, hd, L6.ext _ _ h1 (fun ps z => by cases z), L6.ext _ _ h2 (fun ps z => by cases z), L6.ext _ _ h1 (fun ps z => by cases z), (fam d hd).r _ _ H6 _ x rfl (Le.book L6 hbk5) L6.tab fun H7 L7 => ⟨true, C.t.x_CodeError_CodeError, fun _ => ?_, fun z => by cases z⟩⟩
      refine ⟨rfl, _, rfl, ?_⟩
      rw [decide_eq_true (show V.str "CodeError" = V.str "CodeError" from rfl)]
      exact iteF ⟨L6.trans L7, L7.at h6⟩
    · have LB := L5.trans L6
      refine ⟨by show 0 ≤ sizeLine; decide, fun e he => ?_⟩
      have hDe : D ≠ e := ne_of_none h6 he
      refine ⟨.list [], .list [], .lst (SqL.of ((upd_ne hDe).trans h6)) .nil, .lst (SqL.of upd_same) .nil, rfl, rfl, _, rfl, ?_⟩
      have ev0 : PyData.eqv (.list []) (.list []) = true := rfl
      rw [ev0]
      refine iteF ?_
      have L7 := LB.new (o := .lst []) he
      have hbk7 := Le.book ((L6.new (o := .lst []) he)) hbk5
      generalize upd H6 e (.lst []) = H7 at L7 hbk7
      refine ⟨by show 2 ≤ sizeLine; decide, fun p hp => ?_⟩
      refine ⟨by show 2 ≤ sizeLine; decide, fun q hqn => ?_⟩
      have hpq : p ≠ q := ne_of_none upd_same hqn
      refine ⟨.tuple [.int 10, .int 200], .tuple [.int 10, .int 200], .tup (SqT.of ((upd_ne hpq).trans upd_same)) (DpAll.ints [10, 200]), .tup (SqT.of upd_same) (DpAll.ints [10, 200]), rfl, rfl, _, rfl, ?_⟩
      have ev1 : PyData.eqv (.tuple [.int 10, .int 200]) (.tuple [.int 10, .int 200]) = true := by decide
      rw [ev1]
      refine iteF ?_
      have L8 := (L7.new (o := .tup [.int 10, .int 200]) hp).new (o := .tup [.int 10, .int 200]) hqn
      have hbk8 := Le.book (((Le.refl L7.tab).new (o := .tup [.int 10, .int 200]) hp).new (o := .tup [.int 10, .int 200]) hqn) hbk7
      generalize upd (upd H7 p (.tup [.int 10, .int 200])) q (.tup [.int 10, .int 200]) = H8 at L8 hbk8
      obtain ⟨dx8, tw, obw, b1, b2, b3⟩ := id hbk8
      refine ⟨_, rfl, x, dx8, _, rfl, b1, rfl, x, 2, wsP, [97, 98, 32, 98, 97], rfl, hbk8, L8.tab, by decide, by decide, by decide, fun _ H9 p9 L9 hp9 => ?_, fun hn => absurd (by unfold toldOk; decide) hn⟩
      have etold : toldOf wsP 2 [97, 98, 32, 98, 97] = [[49, 48], [48, 49], [48, 48]] := by decide
      rw [etold]
      refine ⟨by show 3 ≤ sizeLine; decide, fun r9 hr9 => ?_⟩
      have h9 : p9 ≠ r9 := ne_of_none upd_same hr9
      refine ⟨.tuple (([[49, 48], [48, 49], [48, 48]].map S).map PyData.str), .tuple (([[49, 48], [48, 49], [48, 48]].map S).map PyData.str), .tup (SqT.of ((upd_ne h9).trans upd_same)) (DpAll.strs ([[49, 48], [48, 49], [48, 48]].map S)), .tup (SqT.of upd_same) (DpAll.strs ([[49, 48], [48, 49], [48, 48]].map S)), shaped_codes _ (by decide), shaped_codes _ (by decide), _, rfl, ?_⟩
      rw [eqv_refl_strs]
      refine iteT ?_
      have L10 := (L9.new (o := .tup ([[49, 48], [48, 49], [48, 48]].map sV)) hp9).new (o := .tup [.str "10", .str "01", .str "00"]) hr9
      have hbk10 := Le.book L10 hbk8
      have LC := L8.trans L10
      generalize upd (upd H9 p9 (.tup ([[49, 48], [48, 49], [48, 48]].map sV))) r9 (.tup [.str "10", .str "01", .str "00"]) = H10 at L10 hbk10 LC
      obtain ⟨dx10, tw10, ob10, c1, c2, c3⟩ := id hbk10
      refine ⟨_, rfl, x, dx10, _, rfl, c1, rfl, by show 2 ≤ sizeLine; decide, fun a10 ha10 => ?_⟩
      have L11 := (Le.refl L10.tab).new (o := .lst [.str "11", .str "00"]) ha10
      refine ⟨x, a10, 2, wsP, [[49, 49], [48, 48]], rfl, Le.book L11 hbk10, SqL.of upd_same, L11.tab, by decide, by decide, by decide, by decide, fun _ H12 p12 L12 hp12 => ?_, fun hn => absurd hn (by decide)⟩
      have L13 := (L11.trans L12).new (o := .tup ([[49, 49], [48, 48]].map (readV wsP))) hp12
      have h12 : upd H12 p12 (.tup ([[49, 49], [48, 48]].map (readV wsP))) p12 = some (.tup (([[63], [97]].map S).map V.str)) := upd_same
      generalize upd H12 p12 (.tup ([[49, 49], [48, 48]].map (readV wsP))) = H13 at L13 h12
      refine ⟨by show 2 ≤ sizeLine; decide, fun r13 hr13 => ?_⟩
      refine ⟨.tuple (([[63], [97]].map S).map PyData.str), .tuple (([[63], [97]].map S).map PyData.str), .tup (SqT.of ((upd_ne (ne_of_none h12 hr13)).trans h12)) (DpAll.strs ([[63], [97]].map S)), .tup (SqT.of upd_same) (DpAll.strs ([[63], [97]].map S)), shaped_codes _ (by decide), shaped_codes _ (by decide), _, rfl, ?_⟩
      rw [eqv_refl_strs]
      refine iteT ?_
      have LD := LC.trans (L13.new (o := .tup [.str "?", .str "a"]) hr13)
      generalize upd H13 r13 (.tup [.str "?", .str "a"]) = H14 at LD
      clear L13 h12 L12 L11 L10 hbk10 c1 c2 c3 LC
      refine fun d hd => ?_
      refine ⟨upd_same, [(Sum.inr (S [97]), .int 5), (Sum.inr (S [98]), .int 2), (Sum.inr (S [99]), .int 1)], rfl, by decide, ?_⟩
      rw [upd_upd]
      have L15 := (Le.refl LD.tab).new (o := .dK (mergeK [] [(Sum.inr (S [97]), V.int 5), (Sum.inr (S [98]), V.int 2), (Sum.inr (S [99]), V.int 1)])) hd
      refine ⟨d, [(S [97], 5), (S [98], 2), (S [99], 1)], rfl, upd_same, L15.tab, by decide, by decide, fun hb => ?_, fun _ ns hperm hsrt H16 p16 L16 hn16 hp16 => ?_⟩
      · rcases hb with z | z | ⟨p, hp, z⟩
        · exact absurd z (by decide)
        · exact absurd z (by decide)
        · simp only [List.mem_cons, List.not_mem_nil, or_false] at hp
          rcases hp with rfl | rfl | rfl <;> exact absurd z (by decide)
      have ens : ns = [S [97], S [98], S [99]] := sorted_uniq hsrt (by decide +kernel) hperm
      subst ens
      rw [short3] at hp16
      refine fun e he => ?_
      have h16 : p16 ≠ e := ne_of_none hp16 he
      refine ⟨upd_same, [(Sum.inr (S [97]), sV [49]), (Sum.inr (S [98]), sV [48, 49]), (Sum.inr (S [99]), sV [48, 48])], rfl, by decide, ?_⟩
      rw [upd_upd]
      refine ⟨p16, e, _, _, rfl, rfl, (upd_ne h16).trans hp16, upd_same, by decide, fun q hq => ?_, ?_⟩
      · have hq : q ∈ [((Sum.inr (S [97]) : _root_.L2.Key), sV [49]), (Sum.inr (S [98]), sV [48, 49]), (Sum.inr (S [99]), sV [48, 48])] := hq
        simp only [List.mem_cons, List.not_mem_nil, or_false] at hq
        rcases hq with rfl | rfl | rfl <;> exact ⟨rfl, rfl⟩
      refine ⟨_, rfl, iteT ?_⟩
      have LE := (LD.trans (L15.trans L16)).new (o := .dK (mergeK [] [(Sum.inr (S [97]), sV [49]), (Sum.inr (S [98]), sV [48, 49]), (Sum.inr (S [99]), sV [48, 48])])) he
      generalize upd H16 e (.dK (mergeK [] [(Sum.inr (S [97]), sV [49]), (Sum.inr (S [98]), sV [48, 49]), (Sum.inr (S [99]), sV [48, 48])])) = H17 at LE
      clear LD L15 L16 hp16
      refine fun d hd => ?_
      refine ⟨upd_same, [(Sum.inr (S [97]), .int 9)], rfl, by decide, ?_⟩
      rw [upd_upd]
      have L18 := (Le.refl LE.tab).new (o := .dK (mergeK [] [(Sum.inr (S [97]), V.int 9)])) hd
      refine ⟨d, [(S [97], 9)], rfl, upd_same, L18.tab, by decide, by decide, fun hb => ?_, fun _ ns hperm hsrt H19 p19 L19 hn19 hp19 => ?_⟩
      · rcases hb with z | z | ⟨p, hp, z⟩
        · exact absurd z (by decide)
        · exact absurd z (by decide)
        · rw [List.mem_singleton.mp hp] at z
          exact absurd z (by decide)
      have ens : ns = [S [97]] := List.perm_singleton.mp hperm
      subst ens
      have hp19 : H19 p19 = some (dS [(S [97], [48])]) := hp19
      refine fun e he => ?_
      have h19 : p19 ≠ e := ne_of_none hp19 he
      refine ⟨upd_same, [(Sum.inr (S [97]), sV [48])], rfl, by decide, ?_⟩
      rw [upd_upd]
      refine ⟨p19, e, _, _, rfl, rfl, (upd_ne h19).trans hp19, upd_same, by decide, fun q hq => ?_, ?_⟩
      · have hq : q ∈ [((Sum.inr (S [97]) : _root_.L2.Key), sV [48])] := hq
        rw [List.mem_singleton.mp hq]
        exact ⟨rfl, rfl⟩
      refine ⟨_, rfl, iteT ?_⟩
      have LF := (LE.trans (L18.trans L19)).new (o := .dK (mergeK [] [(Sum.inr (S [97]), sV [48])])) he
      generalize upd H19 e (.dK (mergeK [] [(Sum.inr (S [97]), sV [48])])) = H20 at LF
      clear LE L18 L19 hp19
      refine ⟨[49, 48, 49, 49], rfl, LF.tab, by decide, fun _ H21 L21 => ?_, fun hn => absurd hn (by decide)⟩
      have eg : grd [49, 48, 49, 49] = [49, 48, 49, 49, 48, 49, 48] := by decide
      rw [eg]
      refine ⟨rfl, _, rfl, ?_⟩
      rw [decide_eq_true (show V.str (S [49, 48, 49, 49, 48, 49, 48]) = V.str "1011010" from rfl)]
      refine iteT ?_
      have LG := LF.trans L21
      clear LF L21
      refine ⟨by show 0 ≤ sizeLine; decide, fun l2 hl2 => ?_⟩
      refine ⟨by show 3 ≤ sizeLine; decide, fun t22 ht22 => ?_⟩
      have L22 := (LG.new (o := .lst []) hl2).new (o := .tup [.int 3, .int 1, .ref l2]) ht22
      have h22 : upd (upd H21 l2 (.lst [])) t22 (.tup [.int 3, .int 1, .ref l2]) t22 = some (.tup [.int 3, .int 1, .ref l2]) := upd_same
      generalize upd (upd H21 l2 (.lst [])) t22 (.tup [.int 3, .int 1, .ref l2]) = H22 at L22 h22
      refine ⟨t22, 3, 1, [.ref l2], rfl, SqT.of h22, L22.tab, fun p23 hp23 => ?_⟩
      refine ⟨by show 2 ≤ sizeLine; decide, fun q23 hq23 => ?_⟩
      refine ⟨.tuple [.int 3, .int 1], .tuple [.int 3, .int 1], .tup (SqT.of ((upd_ne (ne_of_none upd_same hq23)).trans upd_same)) (DpAll.ints [3, 1]), .tup (SqT.of upd_same) (DpAll.ints [3, 1]), rfl, rfl, _, rfl, ?_⟩
      have ev2 : PyData.eqv (.tuple [.int 3, .int 1]) (.tuple [.int 3, .int 1]) = true := by decide
      rw [ev2]
      refine iteT ?_
      have L24 := (L22.new (o := .tup [.int 3, .int 1]) hp23).new (o := .tup [.int 3, .int 1]) hq23
      generalize upd (upd H22 p23 (.tup [.int 3, .int 1])) q23 (.tup [.int 3, .int 1]) = H24 at L24
      clear L22 h22 LG
      refine fun d hd => ?_
      have L25 := (Le.refl L24.tab).new (o := .dK []) hd
      refine ⟨d, [], [], rfl, upd_same, L25.tab, by decide, by decide, List.nodup_nil, fun p hp => by (cases hp), fun ns hperm hsrt => ?_⟩
      have ens : ns = [] := List.perm_nil.mp hperm
      subst ens
      refine ⟨fun hb => ?_, fun _ H26 L26 => ⟨fun hn => absurd hn (by simp [cutUp]), fun out ho p26 hp26 => ?_⟩⟩
      · rcases hb with ⟨n, hn, _⟩ | ⟨n, hn, _⟩ <;> cases hn
      have eo : out = [] := by
        have : cutUp [] [] (([] : List Nat).length + 1) [] = some [] := by simp [cutUp]
        rw [this] at ho
        exact (Option.some.inj ho).symm
      subst eo
      refine ⟨by show 0 ≤ sizeLine; decide, fun q27 hq27 => ?_⟩
      refine ⟨.tuple [], .tuple [], .tup (SqT.of ((upd_ne (ne_of_none upd_same hq27)).trans upd_same)) .nil, .tup (SqT.of upd_same) .nil, rfl, rfl, ?_⟩
      exact hq _ (((L24.trans (L25.trans L26)).new hp26).new hq27)
end
end K1

-- text K1T
set_option maxRecDepth 100000
set_option maxHeartbeats 1000000
namespace K1
open PySem PySem.Spec PyProof.Rows L2 LamX GX
/-! the plain mathematics of signs -/
def qO (q : Nat) : Option Nat := if q = 7 then none else some q
def wrongAt (p q : Nat) : List Nat := flipAt (grd (bits p 4)) (qO q)
theorem ham : ∀ p, p < 16 → ∀ q, q < 8 → menOk (wrongAt p q) = true ∧ places.find? (meets (wrongAt p q)) = some (qO q) ∧ (flipAt (wrongAt p q) (qO q)).take 4 = bits p 4 := by decide +kernel
theorem grd_ok : ∀ p, p < 16 → grdOk (bits p 4) = true := by decide +kernel
theorem val_bits : ∀ n, n < 5 → ∀ p, p < 16 → p < 2 ^ n → valB (bits p n) = p := by decide +kernel
theorem par_even : ∀ p, p < 64 → par (bits p 6 ++ [48 + (par (bits p 6)).toNat]) = 0 := by decide +kernel
end K1

-- text K1La
set_option maxRecDepth 100000
set_option maxHeartbeats 4000000
namespace K1
open PySem PySem.Spec PyProof.Rows L2 LamX GX
section
variable {P : Program} {w : World} {K : PySem.W.Frag} {mg : Str → Option Value} {base : Heap}
/-! ### the law: its state -/
abbrev XL (P : Program) (w : World) (K : PySem.W.Frag) (mg : Str → Option Value) (base : Heap) (f : Addr) (cd : Value) (A : Around) (outer : List Env) (s : Shared) (H : Hp) (E : XK) : Cx := XA P w K mg base n_law "law" (defScope s_law) f cd A outer s H E
def forB : Stmt → List Stmt
  | .For _ _ b _ _ => b
  | _ => []
def LB : List Stmt := match defBody s_law with
  | _ :: st :: _ => forB st
  | _ => []
def ls (i : Nat) : Stmt := (LB[i]?).getD (.Pass default)
theorem LB_len : LB.length = 32 := by decide +kernel
/-- d is the dice: all else in H stands upon B -/
structure Lw (K : PySem.W.Frag) (p0 d : Addr) (B H : Hp) : Prop where
  lp : B p0 = some (.lst [.ref d])
  no : B d = none
  le : Le (T K) B H
  dice : ∃ x y z, H d = some (dV x y z)
def At (σ : L2.St) (i : Nat) (v : V) : Prop := σ[i]? = some (some v)
section
variable {p0 d : Addr} {B H H' : Hp} {p : Addr} {o : HO}
theorem Lw.to (h : Lw K p0 d B H) (l : Le (T K) H H') : Lw K p0 d B H' := by
  obtain ⟨lp, a, b, x, y, z, c⟩ := h
  exact ⟨lp, a, b.trans l, x, y, z, l.at c⟩
theorem Lw.roll (h : Lw K p0 d B H) (x y z : Int) : Lw K p0 d B (upd H d (dV x y z)) := by
  obtain ⟨lp, a, b, x', y', z', c⟩ := h
  exact ⟨lp, a, b.set a c, x, y, z, upd_same⟩
theorem Lw.new (h : Lw K p0 d B H) (n : H p = none) : Lw K p0 d B (upd H p o) := h.to ((Le.refl h.le.tab).new n)
theorem Lw.set (h : Lw K p0 d B H) (hp : B p = none) {u : HO} (h1 : H p = some u) (hu : PlainO u := by trivial) (hne : p ≠ d) : Lw K p0 d B (upd H p o) := by
  obtain ⟨lp, a, b, x, y, z, c⟩ := h
  exact ⟨lp, a, b.set hp h1 hu, x, y, z, (upd_ne (Ne.symm hne)).trans c⟩
theorem Lw.tab (h : Lw K p0 d B H) : Tabs (T K) H := h.le.tab
theorem tabs_hide {T : List (Addr × Str)} (t : Tabs T H) {x y z : Int} (hd : H d = some (dV x y z)) : Tabs T (hide H d) := fun q hq => by
  obtain ⟨ps, h1, h2, h3⟩ := t q hq
  have n1 : q.1 ≠ d := fun e => by rw [e, hd] at h1; cases h1
  refine ⟨ps, hide_at h1 n1, h2, fun pos cv hc => ?_⟩
  obtain ⟨c, e1, e2⟩ := h3 pos cv hc
  have n2 : c ≠ d := fun e => by rw [e, hd] at e2; cases e2
  exact ⟨c, e1, hide_at e2 n2⟩
/-- all that stands now, but the dice, as the ground -/
theorem Lw.rebase (h : Lw K p0 d B H) : Lw K p0 d (hide H d) H ∧ Le (T K) B (hide H d) := by
  obtain ⟨lp, a, b, x, y, z, c⟩ := h
  have th := tabs_hide b.tab c
  refine ⟨⟨hide_at (b.at lp) (ne_of_none lp a), by unfold hide; rw [if_pos rfl], ⟨fun q u e _ => hide_sub q u e, b.tab, fun q e => ?_⟩, x, y, z, c⟩, ⟨fun q u e n => ?_, th, fun q e => ?_⟩⟩
  · unfold hide
    by_cases hq : q = d
    · rw [if_pos hq]
    · rw [if_neg hq]; exact e
  · exact hide_at (b.ext q u e n) (ne_of_none e a)
  · by_cases hq : q = d
    · rw [hq]; exact a
    · unfold hide at e
      rw [if_neg hq] at e
      exact b.no q e
theorem Lw.ne (h : Lw K p0 d B H) {a : Addr} {v : HO} (hv : H a = some v) (hl : ∀ x y z, v ≠ dV x y z) : a ≠ d := fun e => by
  obtain ⟨_, _, _, x, y, z, c⟩ := h
  rw [e, c] at hv
  exact hl x y z (Option.some.inj hv).symm
theorem Lw.ne_new (h : Lw K p0 d B H) {a : Addr} (hv : H a = none) : a ≠ d := fun e => by
  obtain ⟨_, _, _, x, y, z, c⟩ := h
  rw [e, c] at hv
  cases hv
end
theorem ex1 {α : Type} {n : Nat} {l : List α} (h : l.length = n + 1) : ∃ a t, l = a :: t ∧ t.length = n := by
  cases l with
  | nil => cases h
  | cons a t => exact ⟨a, t, rfl, by simpa using h⟩
theorem ex35 {σ : L2.St} (h : σ.length = 35) : ∃ a0 a1 a2 a3 a4 a5 a6 a7 a8 a9 a10 a11 a12 a13 a14 a15 a16 a17 a18 a19 a20 a21 a22 a23 a24 a25 a26 a27 a28 a29 a30 a31 a32 a33 a34, σ = a0 :: a1 :: a2 :: a3 :: a4 :: a5 :: a6 :: a7 :: a8 :: a9 :: a10 :: a11 :: a12 :: a13 :: a14 :: a15 :: a16 :: a17 :: a18 :: a19 :: a20 :: a21 :: a22 :: a23 :: a24 :: a25 :: a26 :: a27 :: a28 :: a29 :: a30 :: a31 :: a32 :: a33 :: a34 :: [] := by
  obtain ⟨a0, t0, rfl, h0⟩ := ex1 h
  obtain ⟨a1, t1, rfl, h1⟩ := ex1 h0
  obtain ⟨a2, t2, rfl, h2⟩ := ex1 h1
  obtain ⟨a3, t3, rfl, h3⟩ := ex1 h2
  obtain ⟨a4, t4, rfl, h4⟩ := ex1 h3
  obtain ⟨a5, t5, rfl, h5⟩ := ex1 h4
  obtain ⟨a6, t6, rfl, h6⟩ := ex1 h5
  obtain ⟨a7, t7, rfl, h7⟩ := ex1 h6
  obtain ⟨a8, t8, rfl, h8⟩ := ex1 h7
  obtain ⟨a9, t9, rfl, h9⟩ := ex1 h8
  obtain ⟨a10, t10, rfl, h10⟩ := ex1 h9
  obtain ⟨a11, t11, rfl, h11⟩ := ex1 h10
  obtain ⟨a12, t12, rfl, h12⟩ := ex1 h11
  obtain ⟨a13, t13, rfl, h13⟩ := ex1 h12
  obtain ⟨a14, t14, rfl, h14⟩ := ex1 h13
  obtain ⟨a15, t15, rfl, h15⟩ := ex1 h14
  obtain ⟨a16, t16, rfl, h16⟩ := ex1 h15
  obtain ⟨a17, t17, rfl, h17⟩ := ex1 h16
  obtain ⟨a18, t18, rfl, h18⟩ := ex1 h17
  obtain ⟨a19, t19, rfl, h19⟩ := ex1 h18
  obtain ⟨a20, t20, rfl, h20⟩ := ex1 h19
  obtain ⟨a21, t21, rfl, h21⟩ := ex1 h20
  obtain ⟨a22, t22, rfl, h22⟩ := ex1 h21
  obtain ⟨a23, t23, rfl, h23⟩ := ex1 h22
  obtain ⟨a24, t24, rfl, h24⟩ := ex1 h23
  obtain ⟨a25, t25, rfl, h25⟩ := ex1 h24
  obtain ⟨a26, t26, rfl, h26⟩ := ex1 h25
  obtain ⟨a27, t27, rfl, h27⟩ := ex1 h26
  obtain ⟨a28, t28, rfl, h28⟩ := ex1 h27
  obtain ⟨a29, t29, rfl, h29⟩ := ex1 h28
  obtain ⟨a30, t30, rfl, h30⟩ := ex1 h29
  obtain ⟨a31, t31, rfl, h31⟩ := ex1 h30
  obtain ⟨a32, t32, rfl, h32⟩ := ex1 h31
  obtain ⟨a33, t33, rfl, h33⟩ := ex1 h32
  obtain ⟨a34, t34, rfl, h34⟩ := ex1 h33
  obtain rfl := List.length_eq_zero_iff.mp h34
  exact ⟨a0, a1, a2, a3, a4, a5, a6, a7, a8, a9, a10, a11, a12, a13, a14, a15, a16, a17, a18, a19, a20, a21, a22, a23, a24, a25, a26, a27, a28, a29, a30, a31, a32, a33, a34, rfl⟩
/-- the law's words -/
def wholeW : List (List Nat) := [[115, 116, 111, 112], [103, 111], [102, 111, 103], [97, 98], [97], [98], [99], [103, 111, 103, 111], [111], [103], [102], [115, 104, 105, 112]]
theorem wholeW_str : (["stop", "go", "fog", "ab", "a", "b", "c", "gogo", "o", "g", "f", "ship"] : List Str) = wholeW.map S := by decide +kernel
/-- n shutters, the first of the law's words -/
structure GoodW (n : Nat) (ws : List (List Nat)) : Prop where
  n1 : 1 ≤ n
  n4 : n ≤ 4
  w : ∃ m, 1 ≤ m ∧ m ≤ 12 ∧ m ≤ 2 ^ n ∧ ws = wholeW.take m
theorem GoodW.len {n : Nat} {ws : List (List Nat)} (g : GoodW n ws) : 1 ≤ ws.length ∧ ws.length ≤ 12 ∧ ws.length ≤ 2 ^ n := by
  obtain ⟨m, h1, h2, h3, rfl⟩ := g.w
  have e : wholeW.length = 12 := rfl
  rw [List.length_take, e]
  omega
theorem GoodW.sub {n : Nat} {ws : List (List Nat)} (g : GoodW n ws) : List.Sublist ws wholeW := by
  obtain ⟨m, h1, h2, h3, rfl⟩ := g.w
  exact List.take_sublist _ _
theorem GoodW.nodup {n : Nat} {ws : List (List Nat)} (g : GoodW n ws) : ws.Nodup := g.sub.nodup (by decide +kernel)
theorem GoodW.word {n : Nat} {ws : List (List Nat)} (g : GoodW n ws) {x : List Nat} (h : x ∈ ws) : x ≠ [] ∧ 32 ∉ x ∧ x.length ≤ 4 ∧ ∀ c ∈ x, c < 256 :=
  (by decide +kernel : ∀ x ∈ wholeW, x ≠ [] ∧ 32 ∉ x ∧ x.length ≤ 4 ∧ ∀ c ∈ x, c < 256) x (g.sub.subset h)
/-- what stands in the law's slots -/
def M0 (K : PySem.W.Frag) (p0 d : Addr) (σ : L2.St) (H : Hp) : Prop := ∃ B wa, σ.length = 35 ∧ At σ 1 (.ref wa) ∧ At σ 2 (.ref d) ∧ Lw K p0 d B H ∧ B wa = some (.lst (wholeW.map sV))
def M1 (K : PySem.W.Frag) (p0 d : Addr) (σ : L2.St) (H : Hp) : Prop := ∃ B wa, ∃ n : Nat, σ.length = 35 ∧ At σ 1 (.ref wa) ∧ At σ 2 (.ref d) ∧ At σ 3 (.int (n : Int)) ∧ 1 ≤ n ∧ n ≤ 4 ∧ Lw K p0 d B H ∧ B wa = some (.lst (wholeW.map sV))
def M2 (K : PySem.W.Frag) (p0 d : Addr) (σ : L2.St) (H : Hp) : Prop := ∃ B wa, ∃ n ws, σ.length = 35 ∧ At σ 2 (.ref d) ∧ At σ 3 (.int (n : Nat)) ∧ At σ 4 (.ref wa) ∧ GoodW n ws ∧ Lw K p0 d B H ∧ B wa = some (.lst (ws.map sV))
def M3 (K : PySem.W.Frag) (p0 d : Addr) (σ : L2.St) (H : Hp) : Prop := ∃ B wa b, ∃ n ws, σ.length = 35 ∧ At σ 2 (.ref d) ∧ At σ 3 (.int (n : Nat)) ∧ At σ 4 (.ref wa) ∧ At σ 5 (.ref b) ∧ GoodW n ws ∧ Lw K p0 d B H ∧ B wa = some (.lst (ws.map sV)) ∧ isBook K B b n ws
/-- one of the law's statements, from M to M' -/
def Step (X : Cx) (st : Stmt) (M M' : L2.St → Hp → Prop) : Prop := ∃ t, PS X st t ∧ ∀ (D : Ends) (σ : L2.St) (H : Hp), M σ H → (∀ σ' H', M' σ' H' → D.nx σ' H') → t D σ H
variable {f : Addr} {cd : Value} {A : Around} {outer : List Env} {s : Shared} {H0 : Hp} {E : XK} {p0 d : Addr}
theorem st0 (C : Ctx K mg base) (hr : Room 9 (XL P w K mg base f cd A outer s H0 E).A) : Step (XL P w K mg base f cd A outer s H0 E) (ls 0) (M0 K p0 d) (M1 K p0 d) := by
  have nn := sc_law.nd
  refine ⟨_, ps_set (i := 3) nn rfl (by first | exact Or.inl rfl | exact Or.inr rfl) (pe_op op_add pe_int (pe_cx (ok_roll (P := P) (w := w) C) hr (by decide) rfl passA (pa_cons (pv 2) (pa_cons pe_int pa_nil)))), fun D σ H hM hq => ?_⟩
  obtain ⟨B, wa, hl, h1, h2, L, hw⟩ := hM
  obtain ⟨a0, a1, a2, a3, a4, a5, a6, a7, a8, a9, a10, a11, a12, a13, a14, a15, a16, a17, a18, a19, a20, a21, a22, a23, a24, a25, a26, a27, a28, a29, a30, a31, a32, a33, a34, rfl⟩ := ex35 hl
  cases h1; cases h2
  obtain ⟨qx, qy, qz, qd⟩ := L.dice
  refine ⟨_, rfl, d, qx, qy, qz, _, rfl, qd, by omega, by omega, fun qx qy qz qr q0 q1 => ?_⟩
  obtain ⟨r, hr, rfl⟩ : ∃ k : Nat, k < 4 ∧ qr = (k : Int) := ⟨qr.toNat, by omega, by omega⟩
  have L1 := L.roll qx qy qz
  have samer : ∀ a, a ≠ d → upd H d (dV qx qy qz) a = H a := fun a n => upd_ne n
  generalize upd H d (dV qx qy qz) = H1 at L1 samer ⊢
  clear q0 q1 qd
  refine ⟨_, _, rfl, rfl, hq _ _ ⟨B, wa, r + 1, rfl, rfl, rfl, ?_, by omega, by omega, L1, hw⟩⟩
  show some (some (V.int (1 + (r : Int)))) = _
  rw [Int.natCast_add, Int.add_comm]
  rfl
end
end K1

-- text K1Lb
set_option maxRecDepth 100000
set_option maxHeartbeats 4000000
namespace K1
open PySem PySem.Spec PyProof.Rows L2 LamX GX
section
variable {P : Program} {w : World} {K : PySem.W.Frag} {mg : Str → Option Value} {base : Heap}
variable {f : Addr} {cd : Value} {A : Around} {outer : List Env} {s : Shared} {H0 : Hp} {E : XK} {p0 d : Addr}
theorem cut_take (l : List (List Nat)) (m : Nat) : cutV (l.map sV) none (some ((m : Nat) : Int)) = (l.take m).map sV := by rw [cutV_take, List.map_take]
theorem st1 (C : Ctx K mg base) (hr : Room 9 (XL P w K mg base f cd A outer s H0 E).A) : Step (XL P w K mg base f cd A outer s H0 E) (ls 1) (M1 K p0 d) (M2 K p0 d) := by
  have nn := sc_law.nd
  refine ⟨_, ps_set (i := 4) nn rfl (by first | exact Or.inl rfl | exact Or.inr rfl) (pe_slice sl_list (pv 1) po_none (po_some (pe_op op_add pe_int (pe_cx (ok_roll (P := P) (w := w) C) hr (by decide) rfl passA
    (pa_cons (pv 2) (pa_cons (pe_callB (call_min2 rfl) (by rfl) C.t.b_min (by decide +kernel) (pa_cons pe_int (pa_cons (pe_op op_shl pe_int (pv 3)) pa_nil))) pa_nil)))))), fun D σ H hM hq => ?_⟩
  obtain ⟨B, wa, n, hl, h1, h2, h3, n1, n4, L, hw⟩ := hM
  obtain ⟨a0, a1, a2, a3, a4, a5, a6, a7, a8, a9, a10, a11, a12, a13, a14, a15, a16, a17, a18, a19, a20, a21, a22, a23, a24, a25, a26, a27, a28, a29, a30, a31, a32, a33, a34, rfl⟩ := ex35 hl
  cases h1; cases h2; cases h3
  have hm : (if (1 : Int) * 2 ^ ((n : Nat) : Int).toNat < 12 then (1 : Int) * 2 ^ ((n : Nat) : Int).toNat else 12) = ((min 12 (2 ^ n) : Nat) : Int) := by
    have : n = 1 ∨ n = 2 ∨ n = 3 ∨ n = 4 := by omega
    rcases this with rfl | rfl | rfl | rfl <;> decide
  have h2n : 1 ≤ 2 ^ n := Nat.one_le_two_pow
  refine ⟨_, rfl, _, rfl, _, rfl, _, _, rfl, rfl, ⟨by omega, by omega, by decide⟩, _, _, rfl, ?_⟩
  rw [hm]
  obtain ⟨qx, qy, qz, qd⟩ := L.dice
  refine ⟨d, qx, qy, qz, _, rfl, qd, by omega, by omega, fun qx qy qz qr q0 q1 => ?_⟩
  obtain ⟨r, hr, rfl⟩ : ∃ k : Nat, k < min 12 (2^n) ∧ qr = (k : Int) := ⟨qr.toNat, by omega, by omega⟩
  have L1 := L.roll qx qy qz
  have samer : ∀ a, a ≠ d → upd H d (dV qx qy qz) a = H a := fun a n => upd_ne n
  generalize upd H d (dV qx qy qz) = H1 at L1 samer ⊢
  clear q0 q1 qd
  refine ⟨_, _, rfl, rfl, _, rfl, wa, _, rfl, SqL.of (L1.le.at hw), fun p hp => ?_⟩
  rw [show (1 : Int) + (r : Int) = ((r + 1 : Nat) : Int) by omega, cut_take]
  have L2 := L1.new (o := .lst ((wholeW.take (r + 1)).map sV)) hp
  obtain ⟨L3, L4⟩ := L2.rebase
  exact hq _ _ ⟨_, p, n, wholeW.take (r + 1), rfl, rfl, rfl, rfl, ⟨n1, n4, r + 1, by omega, by omega, by omega, rfl⟩, L3, hide_at upd_same (L1.ne_new hp)⟩
theorem not_bad {n : Nat} {ws : List (List Nat)} (g : GoodW n ws) : ¬ bookBad (n : Int) ws := by
  obtain ⟨l1, l2, l3⟩ := g.len
  have e1 := g.n1
  have e4 := g.n4
  rintro (z | z | z | ⟨x, hx, z | z⟩)
  · exact z ⟨by omega, by omega⟩
  · exact z ⟨by omega, by omega, by rw [Int.toNat_natCast]; exact l3⟩
  · exact z g.nodup
  · exact (g.word hx).1 z
  · exact (g.word hx).2.1 z
theorem st2 (C : Ctx K mg base) (hr : Room 9 (XL P w K mg base f cd A outer s H0 E).A) : Step (XL P w K mg base f cd A outer s H0 E) (ls 2) (M2 K p0 d) (M3 K p0 d) := by
  have nn := sc_law.nd
  obtain ⟨fB, fdB, FB, bB, mkB, mgB⟩ := ok_book (P := P) (w := w) C
  refine ⟨_, ps_set (i := 5) nn rfl (by first | exact Or.inl rfl | exact Or.inr rfl) (pe_make mkB FB (hr.mono (by decide)) (by rfl) mgB bB .nil passA (pa_cons (pv 3) (pa_cons (pv 4) pa_nil))), fun D σ H hM hq => ?_⟩
  obtain ⟨B, wa, n, ws, hl, h2, h3, h4, g, L, hw⟩ := hM
  obtain ⟨a0, a1, a2, a3, a4, a5, a6, a7, a8, a9, a10, a11, a12, a13, a14, a15, a16, a17, a18, a19, a20, a21, a22, a23, a24, a25, a26, a27, a28, a29, a30, a31, a32, a33, a34, rfl⟩ := ex35 hl
  cases h2; cases h3; cases h4
  obtain ⟨l1, l2, l3⟩ := g.len
  have hs1 : SqL K H wa (ws.map sV) := SqL.of (L.le.at hw)
  refine ⟨_, rfl, _, rfl, ?_⟩
  intro x dx hx hdx hne
  have M1 := (Le.refl L.tab).new (o := .own x) hdx
  have hx1 : upd H dx (.own x) x = none := (upd_ne (Ne.symm hne)).trans hx
  refine ⟨x, wa, dx, n, ws, H, rfl, upd_same, hx, M1.new hx1, (M1.new hx1).seqL hs1, by omega, fun hb => absurd hb (not_bad g), fun _ H2 L2 hbk => ⟨rfl, ?_⟩⟩
  rw [Int.toNat_natCast] at hbk
  have L3 := L.to L2
  obtain ⟨L4, L5⟩ := L3.rebase
  refine hq _ _ ⟨_, wa, x, n, ws, rfl, rfl, rfl, rfl, rfl, g, L4, L5.at hw, ?_⟩
  obtain ⟨dx', t, ob, k1, k2, k3⟩ := hbk
  exact ⟨dx', t, ob, hide_at k1 (L3.ne k1 fun _ _ _ z => by cases z), hide_at k2 (L3.ne k2 fun _ _ _ z => by cases z), k3⟩
end
end K1

-- text K1Lc
set_option maxRecDepth 100000
set_option maxHeartbeats 4000000
namespace K1
open PySem PySem.Spec PyProof.Rows L2 LamX GX
section
variable {P : Program} {w : World} {K : PySem.W.Frag} {mg : Str → Option Value} {base : Heap}
variable {f : Addr} {cd : Value} {A : Around} {outer : List Env} {s : Shared} {H0 : Hp} {E : XK} {p0 d : Addr}
theorem st3 (C : Ctx K mg base) (hr : Room 9 (XL P w K mg base f cd A outer s H0 E).A) : Step (XL P w K mg base f cd A outer s H0 E) (ls 3) (M3 K p0 d) (M3 K p0 d) := by
  have nn := sc_law.nd
  obtain ⟨fS, fdS, FS, bS, mS, cS⟩ := ok_sign (P := P) (w := w) C
  obtain ⟨fW, fdW, FW, bW, mW, cW⟩ := ok_word (P := P) (w := w) C
  refine ⟨_, ps_for ownsA rfl (pi_enum (by rfl) C.t.b_enumerate (pa_cons (pv 4) pa_nil)) (pg_tup rfl (pgs_cons (pg_name (i := 6) nn rfl (by first | exact Or.inl rfl | exact Or.inr rfl)) (pgs_cons (pg_name (i := 7) nn rfl (by first | exact Or.inl rfl | exact Or.inr rfl)) pgs_nil)))
    (pss_one (ps_if (PW.pt (pw_or (pt_cmpR op_ne (pe_meth (pv 5) cS mS FS (hr.mono (by decide)) bS .nil passA (pa_cons (pv 7) pa_nil)) (pe_cx (ok_lsign (P := P) (w := w) C) hr (by decide) rfl passA (pa_cons (pv 6) (pa_cons (pv 3) pa_nil))) (nomark _))
       (pw_or1 (pt_cmpR op_ne (pe_meth (pv 5) cW mW FW (hr.mono (by decide)) bW .nil passA (pa_cons (pe_cx (ok_lsign (P := P) (w := w) C) hr (by decide) rfl passA (pa_cons (pv 6) (pa_cons (pv 3) pa_nil))) pa_nil)) (pv 7) (nomark _))))) (pss_one (ps_ret pe_bl)) pss_nil)), fun D σ H hM hq => ?_⟩
  obtain ⟨B, wa, b, n, ws, hl, h2, h3, h4, h5, g, L, hw, hbk⟩ := hM
  obtain ⟨l1, l2, l3⟩ := g.len
  have n4 := g.n4
  have ent : ∃ x, σ[4]? = some (some x) ∧ x = .ref wa := ⟨_, h4, rfl⟩
  refine ⟨_, h4, wa, _, rfl, SqL.of (L.le.at hw), ?_⟩
  refine for_n ws.length (fun i σ H' => σ.length = 35 ∧ At σ 2 (.ref d) ∧ At σ 3 (.int (n : Nat)) ∧ At σ 4 (.ref wa) ∧ At σ 5 (.ref b) ∧ Lw K p0 d B H') ⟨hl, h2, h3, h4, h5, L⟩ (fun i σ H1 hi ⟨hl, h2, h3, h4, h5, L⟩ => ⟨⟨_, sV ws[i], SqL.of (L.le.at hw), by rw [List.getElem?_map, List.getElem?_eq_getElem hi]; rfl⟩, ?_⟩)
    (fun σ H1 ⟨hl, h2, h3, h4, h5, L⟩ => ⟨⟨_, SqL.of (L.le.at hw), by rw [List.length_map]; exact Nat.le_refl _⟩, hq _ _ ⟨B, wa, b, n, ws, hl, h2, h3, h4, h5, g, L, hw, hbk⟩⟩)
  rintro x H2 ⟨t, y, rfl, ht, rfl, hy⟩
  obtain ⟨x, hx, rfl⟩ := get_map (hy _ (SqL.of (L.le.at hw)))
  have hm := List.mem_of_getElem? hx
  obtain ⟨a0, a1, a2, a3, a4, a5, a6, a7, a8, a9, a10, a11, a12, a13, a14, a15, a16, a17, a18, a19, a20, a21, a22, a23, a24, a25, a26, a27, a28, a29, a30, a31, a32, a33, a34, rfl⟩ := ex35 hl
  cases h2; cases h3; cases h4; cases h5
  refine ⟨t, _, rfl, SqT.of upd_same, rfl, _, _, rfl, _, _, rfl, rfl, ?_⟩
  have L2 := L.new (o := .tup [.int (i : Nat), sV x]) ht
  generalize upd H1 t (.tup [.int (i : Nat), sV x]) = H2 at L2
  have hbk2 := Le.book L2.le hbk
  obtain ⟨dx, tw, ob, hb, _, _⟩ := id hbk2
  have hi2 : i < 2 ^ n := by omega
  have hi16 : i < 16 := by omega
  refine ⟨_, rfl, b, dx, _, rfl, hb, rfl, _, rfl, b, n, ws, x, rfl, hbk2, L2.tab, by omega, fun z => absurd hm z, fun p hp _ H3 L3 => ?_⟩
  have ep : p = i := by
    obtain ⟨q1, q2⟩ := List.getElem?_eq_some_iff.mp hp
    obtain ⟨q3, q4⟩ := List.getElem?_eq_some_iff.mp hx
    exact (List.getElem_inj g.nodup).mp (q2.trans q4.symm)
  subst ep
  refine ⟨_, rfl, _, rfl, p, n, rfl, by omega, rfl, _, rfl, ?_⟩
  refine iteNS rfl ?_
  have hbk3 := Le.book L3 hbk2
  refine ⟨_, rfl, b, dx, _, rfl, L3.at hb, rfl, _, rfl, _, rfl, p, n, rfl, by omega, b, n, ws, bits p n, rfl, hbk3, L3.tab, by omega, by rw [bits_len]; omega, by omega, fun _ H4 L4 => ?_, fun z => ?_⟩
  · have ev : wordV ws (bits p n) = sV x := by
      unfold wordV
      rw [val_bits n (by omega) p hi16 hi2, hx]
    rw [ev]
    refine ⟨_, rfl, rfl, _, rfl, ?_⟩
    refine iteNS rfl ?_
    exact ⟨rfl, rfl, rfl, rfl, rfl, (L2.to L3).to L4⟩
  · have : wordOk n (bits p n) = true := by
      unfold wordOk
      rw [okS_bits g.n1, bits_len]
      simp
    rw [this] at z
    cases z
/-- drawn places -/
def goodP (n : Nat) (ps : List Nat) : Prop := ps.length ≤ 5 ∧ ∀ p ∈ ps, p < 2 ^ n
def sgs (n : Nat) (ps : List Nat) : List (List Nat) := ps.map fun p => bits p n
def M4 (K : PySem.W.Frag) (p0 d : Addr) (σ : L2.St) (H : Hp) : Prop := ∃ B wa b sa n ws ps, σ.length = 35 ∧ At σ 2 (.ref d) ∧ At σ 3 (.int (n : Nat)) ∧ At σ 4 (.ref wa) ∧ At σ 5 (.ref b) ∧ At σ 8 (.ref sa) ∧ GoodW n ws ∧ Lw K p0 d B H ∧ B wa = some (.lst (ws.map sV)) ∧ isBook K B b n ws ∧ B sa = some (.lst ((sgs n ps).map sV)) ∧ goodP n ps
theorem st4 (C : Ctx K mg base) (hr : Room 9 (XL P w K mg base f cd A outer s H0 E).A) : Step (XL P w K mg base f cd A outer s H0 E) (ls 4) (M3 K p0 d) (M4 K p0 d) := by
  have nn := sc_law.nd
  refine ⟨_, ps_setLcX (i := 8) (own := [("k", 12)]) (g := gName 12) rfl nn rfl rfl takesA rfl rfl (sw_true rfl rfl rfl (by decide +kernel)) (pi_range1 (by rfl) C.t.b_range (pa_cons (pe_cx (ok_roll (P := P) (w := w) C) hr (by decide) rfl passA (pa_cons (pv 2) (pa_cons pe_int pa_nil))) pa_nil)) (blkOk_by (N := n_law) (sc := defScope s_law) (by decide +kernel))
     (fun _ _ _ _ _ => pg_name (i := 12) nn rfl (Or.inl rfl)) (fun _ _ _ _ _ => pts_nil)
     (fun _ _ _ _ _ _ _ px => pe_cx (ok_lsign (P := P) (w := w) C) hr (by decide) rfl px (pa_cons (pe_cx (ok_roll (P := P) (w := w) C) hr (by decide) rfl px (pa_cons (pv 2) (pa_cons (pe_op op_shl pe_int (pv 3)) pa_nil))) (pa_cons (pv 3) pa_nil))), fun D σ H hM hq => ?_⟩
  obtain ⟨B, wa, b, n, ws, hl, h2, h3, h4, h5, g, L, hw, hbk⟩ := hM
  have n4 := g.n4
  obtain ⟨a0, a1, a2, a3, a4, a5, a6, a7, a8, a9, a10, a11, a12, a13, a14, a15, a16, a17, a18, a19, a20, a21, a22, a23, a24, a25, a26, a27, a28, a29, a30, a31, a32, a33, a34, rfl⟩ := ex35 hl
  cases h2; cases h3; cases h4; cases h5
  obtain ⟨qx, qy, qz, qd⟩ := L.dice
  refine ⟨_, rfl, d, qx, qy, qz, _, rfl, qd, by omega, by omega, fun qx qy qz qr q0 q1 => ?_⟩
  obtain ⟨r, hr, rfl⟩ : ∃ k : Nat, k < 6 ∧ qr = (k : Int) := ⟨qr.toNat, by omega, by omega⟩
  have L1 := L.roll qx qy qz
  have samer : ∀ a, a ≠ d → upd H d (dV qx qy qz) a = H a := fun a n => upd_ne n
  generalize upd H d (dV qx qy qz) = H1 at L1 samer ⊢
  clear q0 q1 qd
  refine ⟨_, rfl, by omega, by omega, fun D1 hD => ?_⟩
  have hDd : D1 ≠ d := L1.ne_new hD
  have hDB : B D1 = none := L1.le.no D1 hD
  refine lc_range (lo := 0) (n := r) (fun i H' => Lw K p0 d B H' ∧ ∃ ps : List Nat, ps.length = i ∧ (∀ p ∈ ps, p < 2 ^ n) ∧ H' D1 = some (.lst ((sgs n ps).map sV))) ⟨L1.new hD, [], rfl, (fun p hp => by cases hp), upd_same⟩ (fun i H2 hi ⟨L2, ps, e1, e2, e3⟩ => ?_) (fun H2 ⟨L2, ps, e1, e2, e3⟩ => ?_)
  · refine ⟨rfl, ?_⟩
    refine yes_ ?_
    refine iteT ?_
    have h2n : 1 ≤ 2 ^ n := Nat.one_le_two_pow
    have h16 : 2 ^ n ≤ 2 ^ 4 := Nat.pow_le_pow_right (by decide) n4
    refine ⟨_, rfl, _, rfl, _, _, rfl, rfl, ⟨by omega, by omega, by decide⟩, ?_⟩
    have ep : (2 : Int) ^ ((n : Nat) : Int).toNat = ((2 ^ n : Nat) : Int) := by rw [Int.toNat_natCast]; simp
    obtain ⟨m2, hm2⟩ : ∃ m2 : Nat, m2 = 2 ^ n := ⟨_, rfl⟩
    rw [← hm2] at ep h2n h16
    obtain ⟨qx, qy, qz, qd⟩ := L2.dice
    refine ⟨d, qx, qy, qz, _, rfl, qd, by omega, by omega, fun qx qy qz qr q0 q1 => ?_⟩
    obtain ⟨p, hp, rfl⟩ : ∃ k : Nat, k < m2 ∧ qr = (k : Int) := ⟨qr.toNat, by omega, by omega⟩
    have L3 := L2.roll qx qy qz
    have samep : ∀ a, a ≠ d → upd H2 d (dV qx qy qz) a = H2 a := fun a n => upd_ne n
    generalize upd H2 d (dV qx qy qz) = H3 at L3 samep ⊢
    clear q0 q1 qd
    rw [hm2] at hp
    refine ⟨_, rfl, p, n, rfl, by omega, ?_⟩
    have e4 := (samep D1 hDd).trans e3
    refine ⟨_, e4, ?_, L3.set hDB e4 (hne := hDd), ps ++ [p], by rw [List.length_append, e1]; rfl, fun q hq2 => ?_, ?_⟩
    · unfold sgs
      rw [List.length_map, List.length_map, e1]
      exact Nat.lt_of_lt_of_le (show i < 64 by omega) (by decide)
    · rcases List.mem_append.mp hq2 with hq2 | hq2
      · exact e2 q hq2
      · rw [List.mem_singleton.mp hq2]; exact hp
    · rw [upd_same]
      unfold sgs
      rw [List.map_append, List.map_append]
      rfl
  · obtain ⟨L4, L5⟩ := L2.rebase
    exact hq _ _ ⟨_, wa, b, D1, n, ws, ps, rfl, rfl, rfl, rfl, rfl, rfl, g, L4, L5.at hw, Le.book L5 hbk, hide_at e3 hDd, by omega, e2⟩
end
end K1

-- text K1Ld
set_option maxRecDepth 100000
set_option maxHeartbeats 4000000
namespace K1
open PySem PySem.Spec PyProof.Rows L2 LamX GX
section
variable {P : Program} {w : World} {K : PySem.W.Frag} {mg : Str → Option Value} {base : Heap}
variable {f : Addr} {cd : Value} {A : Around} {outer : List Env} {s : Shared} {H0 : Hp} {E : XK} {p0 d : Addr}
theorem gmap {α β : Type} {f : α → β} {xs : List α} {i : Nat} {v : β} (h : (xs.map f)[i]? = some v) : ∃ x, xs[i]? = some x ∧ v = f x := by
  rw [List.getElem?_map] at h
  cases e : xs[i]? with
  | none => rw [e] at h; cases h
  | some x => rw [e] at h; exact ⟨x, rfl, (Option.some.inj h).symm⟩
def M5 (K : PySem.W.Frag) (p0 d : Addr) (σ : L2.St) (H : Hp) : Prop := ∃ B wa b sa n ws ps q, σ.length = 35 ∧ At σ 2 (.ref d) ∧ At σ 3 (.int (n : Nat)) ∧ At σ 4 (.ref wa) ∧ At σ 5 (.ref b) ∧ At σ 8 (.ref sa) ∧ At σ 9 (.ref q) ∧ GoodW n ws ∧ Lw K p0 d B H ∧ B wa = some (.lst (ws.map sV)) ∧ isBook K B b n ws ∧ B sa = some (.lst ((sgs n ps).map sV)) ∧ goodP n ps ∧ q ≠ d ∧ B q = none ∧ H q = some (.lst [])
theorem st5 (C : Ctx K mg base) (hr : Room 9 (XL P w K mg base f cd A outer s H0 E).A) : Step (XL P w K mg base f cd A outer s H0 E) (ls 5) (M4 K p0 d) (M5 K p0 d) := by
  have nn := sc_law.nd
  refine ⟨_, ps_set (i := 9) nn rfl (by first | exact Or.inl rfl | exact Or.inr rfl) (pe_lst pa_nil), fun D σ H hM hq => ?_⟩
  obtain ⟨B, wa, b, sa, n, ws, ps, hl, h2, h3, h4, h5, h8, g, L, hw, hbk, hs, gp⟩ := hM
  obtain ⟨a0, a1, a2, a3, a4, a5, a6, a7, a8, a9, a10, a11, a12, a13, a14, a15, a16, a17, a18, a19, a20, a21, a22, a23, a24, a25, a26, a27, a28, a29, a30, a31, a32, a33, a34, rfl⟩ := ex35 hl
  cases h2; cases h3; cases h4; cases h5; cases h8
  refine ⟨by show 0 ≤ sizeLine; decide, fun q hqn => hq _ _ ⟨B, wa, b, sa, n, ws, ps, q, rfl, rfl, rfl, rfl, rfl, rfl, rfl, g, L.new hqn, hw, hbk, hs, gp, L.ne_new hqn, L.le.no q hqn, upd_same⟩⟩
/-- the powers that a sign's open shutters tell -/
def pw (n p i : Nat) : List Int := ((List.range i).filter fun k => (bits p n).getD (n - 1 - k) 0 == 49).map fun k => (2 : Int) ^ k
theorem pw_sum : ∀ n, n < 5 → ∀ p, p < 16 → p < 2 ^ n → (pw n p n).sum = (p : Int) := by decide +kernel
theorem pw_succ (n p i : Nat) : pw n p (i + 1) = if (bits p n).getD (n - 1 - i) 0 = 49 then pw n p i ++ [(2 : Int) ^ i] else pw n p i := by
  unfold pw
  rw [List.range_succ, List.filter_append, List.map_append]
  by_cases h : (bits p n).getD (n - 1 - i) 0 = 49
  · rw [if_pos h, List.filter_cons_of_pos (by simpa using h)]; rfl
  · rw [if_neg h, List.filter_cons_of_neg (by simpa using h)]; simp
theorem pw_len (n p i : Nat) : (pw n p i).length ≤ i := by
  unfold pw
  rw [List.length_map]
  exact Nat.le_trans (List.length_filter_le _ _) (by rw [List.length_range]; exact Nat.le_refl _)
def due (ws : List (List Nat)) (n : Nat) (ps : List Nat) : List V := (sgs n ps).map (readV ws)
def M6 (K : PySem.W.Frag) (p0 d : Addr) (σ : L2.St) (H : Hp) : Prop := ∃ B wa b sa n ws ps q, σ.length = 35 ∧ At σ 2 (.ref d) ∧ At σ 3 (.int (n : Nat)) ∧ At σ 4 (.ref wa) ∧ At σ 5 (.ref b) ∧ At σ 8 (.ref sa) ∧ At σ 9 (.ref q) ∧ GoodW n ws ∧ Lw K p0 d B H ∧ B wa = some (.lst (ws.map sV)) ∧ isBook K B b n ws ∧ B sa = some (.lst ((sgs n ps).map sV)) ∧ goodP n ps ∧ B q = some (.lst (due ws n ps))
theorem st6 (C : Ctx K mg base) (hr : Room 9 (XL P w K mg base f cd A outer s H0 E).A) : Step (XL P w K mg base f cd A outer s H0 E) (ls 6) (M5 K p0 d) (M6 K p0 d) := by
  have nn := sc_law.nd
  refine ⟨_, ps_for ownsA rfl (pi_list (pv 8)) (pg_name (i := 10) nn rfl (by first | exact Or.inl rfl | exact Or.inr rfl))
    (pss_cons (ps_set (i := 6) nn rfl (by first | exact Or.inl rfl | exact Or.inr rfl) (pe_callB (cr_sum rfl) (by rfl) C.t.b_sum (by decide +kernel) (pa_cons (pe_lc (own := [("k", 12)]) (g := gName 12) rfl nn (pi_range1 (by rfl) C.t.b_range (pa_cons (pv 3) pa_nil)) (blkOk_by (N := n_law) (sc := defScope s_law) (by decide +kernel))
        (fun _ _ _ _ _ => pg_name (i := 12) nn rfl (Or.inl rfl)) (fun _ _ _ _ _ => pts_one (pt_cmpR op_eq (pe_ix ix_str (pv 10) (pe_op op_sub (pe_op op_sub (pv 3) pe_int) (pv 12)) (fun _ _ => rfl)) pe_str (nomark _))) (fun _ _ _ _ _ => pe_op op_shl pe_int (pv 12))) pa_nil)))
    (pss_one (ps_expr (pe_bm PySem.F.plainAttrs_list PySem.F.slot_list_append PySem.F.type_list_append mt_append (pv 9) (pa_cons (pe_ifExp (pt_cmpR op_lt (pv 6) (pe_callB call_len_seq (by rfl) C.t.b_len PySem.boot_len (pa_cons (pv 4) pa_nil)) (nomark _)) (pe_ix ix_list (pv 4) (pv 6) (fun _ _ => rfl)) pe_str) pa_nil))))), fun D σ H hM hq => ?_⟩
  obtain ⟨B, wa, b, sa, n, ws, ps, q, hl, h2, h3, h4, h5, h8, h9, g, L, hw, hbk, hs, gp, hqd, hqB, hqH⟩ := hM
  obtain ⟨l1, l2, l3⟩ := g.len
  have n1 := g.n1
  have n4 := g.n4
  refine ⟨_, h8, sa, rfl, ⟨_, SqL.of (L.le.at hs)⟩, ?_⟩
  refine for_list (xs := (sgs n ps).map sV) (fun i σ H' => σ.length = 35 ∧ At σ 2 (.ref d) ∧ At σ 3 (.int (n : Nat)) ∧ At σ 4 (.ref wa) ∧ At σ 5 (.ref b) ∧ At σ 8 (.ref sa) ∧ At σ 9 (.ref q) ∧ Lw K p0 d B H' ∧ H' q = some (.lst (((sgs n ps).take i).map (readV ws))))
    ⟨hl, h2, h3, h4, h5, h8, h9, L, hqH⟩ (fun i σ H' _ hP => SqL.of (hP.2.2.2.2.2.2.2.1.le.at hs)) (fun i x σ H1 hx ⟨hl, h2, h3, h4, h5, h8, h9, L1, hq1⟩ => ?_) (fun σ H1 ⟨hl, h2, h3, h4, h5, h8, h9, L1, hq1⟩ => ?_)
  · obtain ⟨y, hx1, rfl⟩ := GX.get_map hx
    obtain ⟨p, hp, rfl⟩ := gmap (f := fun p => bits p n) hx1
    have hpm := List.mem_of_getElem? hp
    have hp2 := gp.2 p hpm
    have h16 : 2 ^ n ≤ 2 ^ 4 := Nat.pow_le_pow_right (by decide) n4
    have hil : i < ps.length := (List.getElem?_eq_some_iff.mp hp).1
    have gp1 := gp.1
    obtain ⟨a0, a1, a2, a3, a4, a5, a6, a7, a8, a9, a10, a11, a12, a13, a14, a15, a16, a17, a18, a19, a20, a21, a22, a23, a24, a25, a26, a27, a28, a29, a30, a31, a32, a33, a34, rfl⟩ := ex35 hl
    cases h2; cases h3; cases h4; cases h5; cases h8; cases h9
    refine ⟨_, rfl, _, rfl, by omega, by omega, fun D1 hD => ?_⟩
    have hDq : D1 ≠ q := fun z => by rw [z, hq1] at hD; cases hD
    refine lc_range (lo := 0) (n := n) (fun k H' => Le (T K) H1 H' ∧ H' D1 = some (.lst ((pw n p k).map V.int))) ⟨(Le.refl L1.tab).new hD, upd_same⟩ (fun k H2 hk ⟨L2, hD2⟩ => ?_) (fun H2 ⟨L2, hD2⟩ => ?_)
    · refine ⟨rfl, ?_⟩
      have hb : (bits p n)[n - 1 - k]? = some ((bits p n).getD (n - 1 - k) 0) := by
        rw [List.getD_eq_getElem?_getD]
        have : n - 1 - k < (bits p n).length := by rw [bits_len]; omega
        rw [List.getElem?_eq_getElem this]; rfl
      have hat : atI (S (bits p n)).cps.toList (((n : Nat) : Int) - 1 - (0 + (k : Int))) = some ((bits p n).getD (n - 1 - k) 0) := by
        rw [show ((n : Nat) : Int) - 1 - (0 + (k : Int)) = ((n - 1 - k : Nat) : Int) by omega]
        exact atS hb
      refine ⟨_, rfl, _, rfl, _, _, rfl, rfl, _, rfl, _, _, rfl, rfl, _, _, _, rfl, rfl, lenS_le (n := 10) (by rw [bits_len]; omega) (by decide), hat, rfl, _, rfl, ?_⟩
      · clear hat
        generalize hc : (bits p n).getD (n - 1 - k) 0 = c at hb
        have hps := pw_succ n p k
        rw [hc] at hps
        have hlen := pw_len n p k
        by_cases h49 : c = 49
        · subst h49
          rw [if_pos rfl] at hps
          rw [decide_eq_true (show V.str ⟨#[49]⟩ = V.str "1" by decide)]
          refine iteT ⟨_, rfl, _, _, rfl, rfl, ⟨by omega, by omega, by decide⟩, _, hD2, ?_, L2.set hD hD2, ?_⟩
          · rw [List.length_map]
            exact Nat.lt_of_le_of_lt hlen (Nat.lt_of_lt_of_le (show k < 64 by omega) (by decide))
          · rw [upd_same, hps, List.map_append, Int.zero_add]
            show some (HO.lst ((pw n p k).map V.int ++ [V.int (1 * 2 ^ ((k : Nat) : Int).toNat)])) = _
            rw [Int.toNat_natCast, Int.one_mul]
            rfl
        · rw [if_neg h49] at hps
          rw [decide_eq_false (show ¬ V.str ⟨#[c]⟩ = V.str "1" from fun z => h49 (by
            have z := V.str.inj z
            have : ("1" : Str) = S [49] := by decide +kernel
            rw [this] at z
            exact List.head_eq_of_cons_eq (S_inj (a := [c]) (b := [49]) z)))]
          exact iteF ⟨L2, by rw [hps]; exact hD2⟩
    · refine ⟨D1, _, rfl, SqL.of hD2, ?_⟩
      rw [pw_sum n (by omega) p (by omega) hp2]
      have L3 := L1.to L2
      have hq3 := L2.at hq1
      have hw3 := L3.le.at hw
      have hpost : ∀ (σ' : _root_.L2.St), σ'.length = 35 ∧ At σ' 2 (.ref d) ∧ At σ' 3 (.int (n : Nat)) ∧ At σ' 4 (.ref wa) ∧ At σ' 5 (.ref b) ∧ At σ' 8 (.ref sa) ∧ At σ' 9 (.ref q) → σ'.length = 35 ∧ At σ' 2 (.ref d) ∧ At σ' 3 (.int (n : Nat)) ∧ At σ' 4 (.ref wa) ∧ At σ' 5 (.ref b) ∧ At σ' 8 (.ref sa) ∧ At σ' 9 (.ref q) ∧ Lw K p0 d B (upd H2 q (.lst (((sgs n ps).take i).map (readV ws) ++ [readV ws (bits p n)]))) ∧
          upd H2 q (.lst (((sgs n ps).take i).map (readV ws) ++ [readV ws (bits p n)])) q = some (.lst (((sgs n ps).take (i + 1)).map (readV ws))) := fun σ' ⟨e1, e2, e3, e4, e5, e6, e7⟩ => ⟨e1, e2, e3, e4, e5, e6, e7, L3.set hqB hq3 (hne := hqd), by rw [upd_same, take_snoc hx1, List.map_append]; rfl⟩
      have hsz : (((sgs n ps).take i).map (readV ws)).length < sizeLine := by
        rw [List.length_map, List.length_take]
        exact Nat.lt_of_le_of_lt (Nat.min_le_left _ _) (Nat.lt_of_lt_of_le (show i < 64 by omega) (by decide))
      have hval : valB (bits p n) = p := val_bits n (by omega) p (by omega) hp2
      refine ⟨_, rfl, .inl ⟨rfl, _, SqL.of hq3⟩, _, rfl, _, rfl, wa, _, rfl, .inl (SqL.of hw3), _, _, rfl, rfl, _, rfl, ?_⟩
      rw [List.length_map]
      by_cases hlt : p < ws.length
      · rw [decide_eq_true (show ((p : Nat) : Int) < ((ws.length : Nat) : Int) by omega)]
        have er : readV ws (bits p n) = sV ws[p] := by unfold readV; rw [hval, List.getElem?_eq_getElem hlt]
        rw [er] at hpost
        exact iteT ⟨_, rfl, _, rfl, wa, _, _, _, rfl, rfl, SqL.of hw3, atI_nat (j := p) (by rw [List.getElem?_map, List.getElem?_eq_getElem hlt]; rfl), q, _, _, rfl, rfl, hq3, hsz, hpost _ ⟨rfl, rfl, rfl, rfl, rfl, rfl, rfl⟩⟩
      · rw [decide_eq_false (show ¬ ((p : Nat) : Int) < ((ws.length : Nat) : Int) by omega)]
        have er : readV ws (bits p n) = V.str "?" := by unfold readV; rw [hval, List.getElem?_eq_none (by omega)]; decide +kernel
        rw [er] at hpost
        exact iteF ⟨q, _, _, rfl, rfl, hq3, hsz, hpost _ ⟨rfl, rfl, rfl, rfl, rfl, rfl, rfl⟩⟩
  · rw [List.length_map, List.take_of_length_le (Nat.le_refl _)] at hq1
    obtain ⟨L2, L3⟩ := L1.rebase
    exact hq _ _ ⟨_, wa, b, sa, n, ws, ps, q, hl, h2, h3, h4, h5, h8, h9, g, L2, L3.at hw, Le.book L3 hbk, L3.at hs, gp, hide_at hq1 hqd⟩
end
end K1

-- text K1Le
set_option maxRecDepth 100000
set_option maxHeartbeats 4000000
namespace K1
open PySem PySem.Spec PyProof.Rows L2 LamX GX
section
variable {P : Program} {w : World} {K : PySem.W.Frag} {mg : Str → Option Value} {base : Heap}
variable {f : Addr} {cd : Value} {A : Around} {outer : List Env} {s : Shared} {H0 : Hp} {E : XK} {p0 d : Addr}
theorem pe_weak {X : Cx} {e : Expr} {t t' : TE} (h : PE X e t) (m : ∀ σ H Q, t' σ H Q → t σ H Q) : PE X e t' := ⟨fun pins s σ H Q I g => h.run pins s σ H Q I (m σ H Q g)⟩
/-- len([1 for x, y in zip(a, b) if x != y]) -/
def tDist (K : PySem.W.Frag) (ta : TA) : TE := fun σ H Q => σ.length = 35 ∧ ta σ H fun vs H1 => ∃ a b : List Nat, vs = [.str (S a), .str (S b)] ∧ a.length ≤ 1000 ∧ Tabs (T K) H1 ∧ ∀ H', Le (T K) H1 H' → Q (.int (dist a b : Nat)) H'
theorem lc_dist {σ : _root_.L2.St} {H1 : Hp} {D1 : Addr} {a b : List Nat} {Qd : Hp → Prop} (hl : σ.length = 35) (la : a.length ≤ 1000) (hT : Tabs (T K) H1) (hD : H1 D1 = none)
    (hq : ∀ H' (acc : List V), Le (T K) H1 H' → H' D1 = some (.lst acc) → acc.length = dist a b → Qd H') :
    ∃ W : Nat → Nat → Hp → Prop, (∃ m, W 0 m (upd H1 D1 (.lst []))) ∧ ∀ i m H, W i m H →
      ((Itzs (S a) (S b)).stop i H ∧ Qd H) ∨ ((Itzs (S a) (S b)).go i H ∧ ∃ Nx : Hp → Prop, (∀ H', Nx H' → ∃ m', m' < m ∧ W (i + 1) m' H') ∧ ∀ x H', (Itzs (S a) (S b)).yld i H x H' → gTup K 2 (gCons (gName 31) (gCons (gName 32) gNil)) x (wipe σ [31, 32]) H' fun σ2 H2 => wipe σ2 [31, 32] = wipe σ [31, 32] ∧ tTest (tOp rNe (tVar 31) (tVar 32)) σ2 H2 fun b H3 =>
        if b = true then tC (.int 1) σ2 H3 fun y H4 => ∃ acc, H4 D1 = some (.lst acc) ∧ acc.length < sizeLine ∧ Nx (upd H4 D1 (.lst (acc ++ [y]))) else Nx H3) := by
  obtain ⟨a0, a1, a2, a3, a4, a5, a6, a7, a8, a9, a10, a11, a12, a13, a14, a15, a16, a17, a18, a19, a20, a21, a22, a23, a24, a25, a26, a27, a28, a29, a30, a31, a32, a33, a34, rfl⟩ := ex35 hl
  refine lc_n (min a.length b.length) (fun i H' => ∃ acc : List V, H' D1 = some (.lst acc) ∧ acc.length = (((a.zip b).take i).filter fun p => p.1 != p.2).length ∧ acc.length ≤ i ∧ Le (T K) H1 H') ⟨[], upd_same, by simp, Nat.le_refl _, (Le.refl hT).new hD⟩ (fun i H3 hi ⟨acc, hD3, hal, hai, L3⟩ => ⟨?_, ?_⟩) (fun H3 ⟨acc, hD3, hal, hai, L3⟩ => ⟨?_, ?_⟩)
  · show i < min (S a).cps.size (S b).cps.size
    simp only [S, List.size_toArray]
    exact hi
  · rintro x H4 ⟨t, c, d, rfl, ht, rfl, hc, hd⟩
    have hc' : a[i]? = some c := by simpa [S] using hc
    have hd' : b[i]? = some d := by simpa [S] using hd
    have hz : (a.zip b)[i]? = some (c, d) := List.getElem?_zip_eq_some.mpr ⟨hc', hd'⟩
    have htk : (a.zip b).take (i + 1) = (a.zip b).take i ++ [(c, d)] := by rw [List.take_add_one, hz]; rfl
    have hDt : D1 ≠ t := ne_of_none hD3 ht
    refine ⟨t, _, rfl, SqT.of upd_same, rfl, _, _, rfl, _, _, rfl, rfl, rfl, _, rfl, _, rfl, rfl, ?_⟩
    by_cases hcd : c = d
    · rw [decide_eq_true (show V.str ⟨#[c]⟩ = V.str ⟨#[d]⟩ by rw [hcd])]
      refine ⟨_, rfl, iteF ?_⟩
      refine ⟨acc, (upd_ne hDt).trans hD3, ?_, by omega, L3.new ht⟩
      rw [htk, List.filter_append, List.length_append, hal]
      simp [hcd]
    · rw [decide_eq_false (show ¬ V.str ⟨#[c]⟩ = V.str ⟨#[d]⟩ from fun z => hcd (by have := V.str.inj z; have := congrArg Str.cps this; simpa using this))]
      refine ⟨_, rfl, iteT ?_⟩
      refine ⟨acc, (upd_ne hDt).trans hD3, Nat.lt_of_le_of_lt (Nat.le_trans hai (show i ≤ 1000 by omega)) (by decide), acc ++ [.int 1], upd_same, ?_, ?_, ?_⟩
      · rw [htk, List.filter_append, List.length_append, List.length_append, hal]
        have : (c != d) = true := by simpa using hcd
        simp [this]
      · rw [List.length_append, List.length_singleton]; omega
      · exact (L3.new ht).set hD ((upd_ne hDt).trans hD3)
  · show min (S a).cps.size (S b).cps.size ≤ min a.length b.length
    simp only [S, List.size_toArray]
    exact Nat.le_refl _
  · refine hq H3 acc L3 hD3 ?_
    rw [hal, List.take_of_length_le (by rw [List.length_zip]; exact Nat.le_refl _)]
    rfl
theorem pe_dist {X : Cx} {K : PySem.W.Frag} (hK : X.K = K) {e e2 : Expr} {ta : TA} {scope : Scope} {q1 q3 q4 q5 q7 q8 q9 q10 q11 q12 q13 q14 : Pos} {q2 q6 : Nat} (hN : X.N.Nodup) (h31 : X.N[31]? = some ("x" : Str)) (h32 : X.N[32]? = some ("y" : Str)) (hc : X.calm = true) (hgl : Gl X "len") (hml : X.mg "len" = none) (hgz : Gl X "zip") (hmz : X.mg "zip" = none)
    (ok : BlkOk X.N X.env.scope scope [("x", 31), ("y", 32)]) (hx : scope.names.lookup ("x" : Str) = some .local) (hy : scope.names.lookup ("y" : Str) = some .local) (ha : PA X [e, e2] ta)
    (hm : ∀ σ H P P', (∀ vs H', P vs H' → P' vs H') → ta σ H P → ta σ H P')
    (hs : starEach [e, e2] X.env = (false, eval e X.env) :: starEach [e2] X.env) (hpl : (backTo q9 (starEach [e2] X.env)).any (·.1) = false) :
    PE X (.Call (.Name "len" q1) [.ListComp (.Constant (.int 1) q2 q3) [⟨.Tuple [.Name "x" q4, .Name "y" q5] q6 q7, .Call (.Name "zip" q8) [e, e2] [] q9, [.Compare (.Name "x" q10) [.NotEq] [.Name "y" q11] q12], 0⟩] scope q13] [] q14) (tDist K ta) := by
  subst hK
  refine pe_weak (pe_callB call_len_seq hgl hml PySem.boot_len (pa_cons (pe_lc (own := [("x", 31), ("y", 32)]) (g := gTup X.K 2 (gCons (gName 31) (gCons (gName 32) gNil))) hc hN (pi_zipS hgz hmz ha hs hpl) ok
    (fun _ _ _ _ _ => by exact pg_tup hc (pgs_cons (pg_name (i := 31) hN h31 (Or.inl (lookup_relabel_local hx)) (Or.inr (lookup_relabel_local hx))) (pgs_cons (pg_name (i := 32) hN h32 (Or.inl (lookup_relabel_local hy)) (Or.inr (lookup_relabel_local hy))) pgs_nil)))
    (fun _ _ _ _ _ => pts_one (pt_cmpR op_ne (pe_var (i := 31) h31 (Or.inl (lookup_relabel_local hx))) (pe_var (i := 32) h32 (Or.inl (lookup_relabel_local hy))) (nomark _))) (fun _ _ _ _ _ => pe_int)) pa_nil)) fun σ H Q ⟨hl, h⟩ => ?_
  refine hm _ _ _ _ (fun vs H1 g => ?_) h
  obtain ⟨a, b, rfl, la, hT, hq⟩ := g
  exact ⟨_, _, rfl, fun D1 hD => lc_dist hl la hT hD fun H' acc L' hD' hacc => ⟨D1, _, rfl, .inl (SqL.of hD'), by rw [hacc]; exact hq H' L'⟩⟩
theorem blk_any {N : List Str} {sc sc' scope : Scope} {own : List (Str × Nat)} (h : BlkOk N sc scope own) (nf : ∀ y ∈ scope.names, y.2 ≠ .free) : BlkOk N sc' scope own := ⟨h.kind, h.uniq, h.ix, fun y hy e => absurd e (nf y hy), h.own⟩
def M7 (K : PySem.W.Frag) (p0 d : Addr) (σ : _root_.L2.St) (H : Hp) : Prop := ∃ B wa b sa n ws ps q e, σ.length = 35 ∧ At σ 2 (.ref d) ∧ At σ 3 (.int (n : Nat)) ∧ At σ 4 (.ref wa) ∧ At σ 5 (.ref b) ∧ At σ 8 (.ref sa) ∧ At σ 9 (.ref q) ∧ At σ 11 (.ref e) ∧ GoodW n ws ∧ Lw K p0 d B H ∧ B wa = some (.lst (ws.map sV)) ∧ isBook K B b n ws ∧ B sa = some (.lst ((sgs n ps).map sV)) ∧ goodP n ps ∧ B q = some (.lst (due ws n ps)) ∧ B e = some (.lst [])
theorem st7 (C : Ctx K mg base) (hr : Room 9 (XL P w K mg base f cd A outer s H0 E).A) : Step (XL P w K mg base f cd A outer s H0 E) (ls 7) (M6 K p0 d) (M7 K p0 d) := by
  have nn := sc_law.nd
  refine ⟨_, ps_set (i := 11) nn rfl (by first | exact Or.inl rfl | exact Or.inr rfl) (pe_lst pa_nil), fun D σ H hM hq => ?_⟩
  obtain ⟨B, wa, b, sa, n, ws, ps, q, hl, h2, h3, h4, h5, h8, h9, g, L, hw, hbk, hs, gp, hdu⟩ := hM
  obtain ⟨a0, a1, a2, a3, a4, a5, a6, a7, a8, a9, a10, a11, a12, a13, a14, a15, a16, a17, a18, a19, a20, a21, a22, a23, a24, a25, a26, a27, a28, a29, a30, a31, a32, a33, a34, rfl⟩ := ex35 hl
  cases h2; cases h3; cases h4; cases h5; cases h8; cases h9
  refine ⟨by show 0 ≤ sizeLine; decide, fun e he => ?_⟩
  have L1 := L.new (o := .lst []) he
  obtain ⟨L2, L3⟩ := L1.rebase
  exact hq _ _ ⟨_, wa, b, sa, n, ws, ps, q, e, rfl, rfl, rfl, rfl, rfl, rfl, rfl, rfl, g, L2, L3.at hw, Le.book L3 hbk, L3.at hs, gp, L3.at hdu, hide_at upd_same (L.ne_new he)⟩
def M8 (K : PySem.W.Frag) (p0 d : Addr) (σ : _root_.L2.St) (H : Hp) : Prop := ∃ B wa b sa n ws ps q e, σ.length = 35 ∧ At σ 2 (.ref d) ∧ At σ 3 (.int (n : Nat)) ∧ At σ 4 (.ref wa) ∧ At σ 5 (.ref b) ∧ At σ 8 (.ref sa) ∧ At σ 9 (.ref q) ∧ At σ 11 (.ref e) ∧ GoodW n ws ∧ Lw K p0 d B H ∧ B wa = some (.lst (ws.map sV)) ∧ isBook K B b n ws ∧ B sa = some (.lst ((sgs n ps).map sV)) ∧ goodP n ps ∧ B q = some (.lst (due ws n ps)) ∧ B e = some (.lst ((pds (sgs n ps)).map V.int))
theorem pdsT_bound (ls : List (List Nat)) : ∀ i, (pdsT ls i).length ≤ i * ls.length
  | 0 => Nat.zero_le _
  | i + 1 => by
    rw [pdsT_succ, List.length_append, List.length_map, List.length_drop, Nat.succ_mul]
    have := pdsT_bound ls i
    omega
theorem st8 (C : Ctx K mg base) (hr : Room 9 (XL P w K mg base f cd A outer s H0 E).A) : Step (XL P w K mg base f cd A outer s H0 E) (ls 8) (M7 K p0 d) (M8 K p0 d) := by
  have nn := sc_law.nd
  refine ⟨_, ps_for ownsA rfl (pi_enum (by rfl) C.t.b_enumerate (pa_cons (pv 8) pa_nil)) (pg_tup rfl (pgs_cons (pg_name (i := 12) nn rfl (by first | exact Or.inl rfl | exact Or.inr rfl)) (pgs_cons (pg_name (i := 13) nn rfl (by first | exact Or.inl rfl | exact Or.inr rfl)) pgs_nil)))
    (pss_one (ps_set (i := 11) nn rfl (by first | exact Or.inl rfl | exact Or.inr rfl) (pe_op op_cat (pv 11) (pe_lc (own := [("other", 30)]) (g := gName 30) rfl nn (pi_list (pe_slice sl_list (pv 8) (po_some (pe_op op_add (pv 12) pe_int)) po_none)) (blkOk_by (N := n_law) (sc := defScope s_law) (by decide +kernel)) (fun _ _ _ _ _ => (pg_name (i := 30) nn rfl (by first | exact Or.inl rfl | exact Or.inr rfl))) (fun _ _ _ _ _ => pts_nil)
      (fun _ _ _ _ _ => by exact pe_dist (K := K) (ta := tCons (tVar 13) (tCons (tVar 30) tNil)) rfl nn rfl rfl rfl (by rfl) C.t.b_len (by rfl) C.t.b_zip (blk_any (blkOk_by (N := n_law) (sc := defScope s_law) (by decide +kernel)) (by decide +kernel)) rfl rfl (pa_cons (pv 13) (pa_cons (pv 30) pa_nil)) (fun σ H P P' m ⟨v, e1, w, e2, h⟩ => ⟨v, e1, w, e2, m _ _ h⟩) rfl rfl))))), fun D σ H hM hq => ?_⟩
  obtain ⟨B, wa, b, sa, n, ws, ps, q, e, hl, h2, h3, h4, h5, h8, h9, h11, g, L, hw, hbk, hs, gp, hdu, he⟩ := hM
  have n4 := g.n4
  have gp1 := gp.1
  have lsg : (sgs n ps).length = ps.length := by unfold sgs; rw [List.length_map]
  have small : ∀ l ∈ sgs n ps, l.length ≤ 4 := fun l hl => by
    obtain ⟨p, _, rfl⟩ := List.mem_map.mp hl
    rw [bits_len]; exact n4
  generalize hS : sgs n ps = S0 at hs lsg small
  refine ⟨_, h8, sa, _, rfl, SqL.of (L.le.at hs), ?_⟩
  refine for_n S0.length (fun i σ H' => σ.length = 35 ∧ At σ 2 (.ref d) ∧ At σ 3 (.int (n : Nat)) ∧ At σ 4 (.ref wa) ∧ At σ 5 (.ref b) ∧ At σ 8 (.ref sa) ∧ At σ 9 (.ref q) ∧ Lw K p0 d B H' ∧ ∃ e, At σ 11 (.ref e) ∧ H' e = some (.lst ((pdsT S0 i).map V.int)) ∧ e ≠ d)
    ⟨hl, h2, h3, h4, h5, h8, h9, L, e, h11, L.le.at he, ne_of_none he L.no⟩ (fun i σ H1 hi ⟨hl, h2, h3, h4, h5, h8, h9, L1, e, h11, he1, hed⟩ => ⟨⟨_, sV S0[i], SqL.of (L1.le.at hs), by rw [List.getElem?_map, List.getElem?_eq_getElem hi]; rfl⟩, ?_⟩)
    (fun σ H1 ⟨hl, h2, h3, h4, h5, h8, h9, L1, e, h11, he1, hed⟩ => ⟨⟨_, SqL.of (L1.le.at hs), by rw [List.length_map]; exact Nat.le_refl _⟩, ?_⟩)
  · rintro x H2 ⟨t, y, rfl, ht, rfl, hy⟩
    obtain ⟨x, hx, rfl⟩ := GX.get_map (hy _ (SqL.of (L1.le.at hs)))
    have hxm := List.mem_of_getElem? hx
    obtain ⟨a0, a1, a2, a3, a4, a5, a6, a7, a8, a9, a10, a11, a12, a13, a14, a15, a16, a17, a18, a19, a20, a21, a22, a23, a24, a25, a26, a27, a28, a29, a30, a31, a32, a33, a34, rfl⟩ := ex35 hl
    cases h2; cases h3; cases h4; cases h5; cases h8; cases h9; cases h11
    refine ⟨t, _, rfl, SqT.of upd_same, rfl, _, _, rfl, _, _, rfl, rfl, ?_⟩
    have he2 : upd H1 t (.tup [.int (i : Nat), sV x]) e = some (.lst ((pdsT S0 i).map V.int)) := (upd_ne (ne_of_none he1 ht)).trans he1
    have L2 := L1.new (o := .tup [.int (i : Nat), sV x]) ht
    generalize upd H1 t (.tup [.int (i : Nat), sV x]) = H2 at L2 he2
    refine ⟨_, rfl, _, rfl, _, rfl, _, _, rfl, rfl, _, rfl, sa, _, rfl, SqL.of (L2.le.at hs), fun p hp => ?_⟩
    rw [show ((i : Nat) : Int) + 1 = ((i + 1 : Nat) : Int) by omega, cutV_drop, ← List.map_drop]
    have hp3 : upd H2 p (.lst ((S0.drop (i + 1)).map sV)) p = some (.lst ((S0.drop (i + 1)).map sV)) := upd_same
    have L3 := L2.new (o := .lst ((S0.drop (i + 1)).map sV)) hp
    have he3 : upd H2 p (.lst ((S0.drop (i + 1)).map sV)) e = some (.lst ((pdsT S0 i).map V.int)) := (upd_ne (ne_of_none he2 hp)).trans he2
    generalize upd H2 p (.lst ((S0.drop (i + 1)).map sV)) = H3 at L3 he3 hp3
    refine ⟨_, rfl, ⟨_, SqL.of hp3⟩, fun D1 hD => ?_⟩
    refine lc_list (K := K) (a := p) (xs := (S0.drop (i + 1)).map sV) (fun j H' => Le (T K) H3 H' ∧ H' D1 = some (.lst ((((S0.drop (i + 1)).take j).map fun b => (dist x b : Int)).map V.int))) ⟨(Le.refl L3.tab).new hD, upd_same⟩ (fun j H' _ hP => SqL.of (hP.1.at hp3)) (fun j y H4 hy4 ⟨L4, h4⟩ => ?_) (fun H4 ⟨L4, h4⟩ => ?_)
    · obtain ⟨y, hy5, rfl⟩ := GX.get_map hy4
      refine ⟨rfl, ?_⟩
      refine yes_ ?_
      refine iteT ?_
      refine ⟨rfl, _, rfl, _, rfl, x, y, rfl, by have := small x hxm; omega, L4.tab, fun H5 L5 => ?_⟩
      have h5 := L5.at h4
      refine ⟨_, h5, ?_, (L4.trans L5).set hD h5, ?_⟩
      · rw [List.length_map, List.length_map, List.length_take, List.length_drop]
        exact Nat.lt_of_le_of_lt (Nat.min_le_right _ _) (Nat.lt_of_lt_of_le (show S0.length - (i + 1) < 64 by omega) (by decide))
      · rw [upd_same, take_snoc hy5, List.map_append, List.map_append]
        rfl
    · rw [List.length_map, List.take_of_length_le (Nat.le_refl _)] at h4
      have he4 := L4.at he3
      have hb := pdsT_bound S0 i
      have hb2 : i * S0.length ≤ 5 * 5 := Nat.mul_le_mul (by omega) (by omega)
      refine ⟨e, D1, _, _, rfl, rfl, he4, h4, ?_, fun r hr => ?_⟩
      · rw [List.length_map, List.length_map, List.length_map, List.length_drop]
        exact Nat.le_trans (show (pdsT S0 i).length + (S0.length - (i + 1)) ≤ 64 by omega) (by decide)
      · refine ⟨rfl, rfl, rfl, rfl, rfl, rfl, rfl, (L3.to L4).new hr, r, rfl, ?_, (L3.to L4).ne_new hr⟩
        rw [upd_same, pdsT_succ, List.map_append, show S0.getD i [] = x from getD_of hx]
  · rw [pdsT_all] at he1
    obtain ⟨L2, L3⟩ := L1.rebase
    rw [← hS] at he1 hs
    exact hq _ _ ⟨_, wa, b, sa, n, ws, ps, q, e, hl, h2, h3, h4, h5, h8, h9, h11, g, L2, L3.at hw, Le.book L3 hbk, L3.at hs, gp, L3.at hdu, hide_at he1 hed⟩
end
end K1

-- text K1Lf
set_option maxRecDepth 100000
set_option maxHeartbeats 4000000
namespace K1
open PySem PySem.Spec PyProof.Rows L2 LamX GX
section
variable {P : Program} {w : World} {K : PySem.W.Frag} {mg : Str → Option Value} {base : Heap}
variable {f : Addr} {cd : Value} {A : Around} {outer : List Env} {s : Shared} {H0 : Hp} {E : XK} {p0 d : Addr}
def readS (ws : List (List Nat)) (l : List Nat) : List Nat := match ws[valB l]? with
  | some w => w
  | none => [63]
theorem readV_S (ws : List (List Nat)) (l : List Nat) : readV ws l = sV (readS ws l) := by
  unfold readV readS
  cases ws[valB l]? <;> rfl
theorem due_S (ws : List (List Nat)) (n : Nat) (ps : List Nat) : due ws n ps = (((sgs n ps).map (readS ws)).map S).map V.str := by
  unfold due
  rw [List.map_map, List.map_map]
  exact List.map_congr_left fun l _ => readV_S ws l
theorem readS_small {n : Nat} {ws : List (List Nat)} (g : GoodW n ws) (l : List Nat) : ∀ c ∈ readS ws l, c < 256 := by
  unfold readS
  cases h : ws[valB l]? with
  | some w => exact (g.word (List.mem_of_getElem? h)).2.2.2
  | none => intro c hc; rw [List.mem_singleton.mp hc]; decide
theorem wordOk_bits {n : Nat} (h : 1 ≤ n) (p : Nat) : wordOk n (bits p n) = true := by
  unfold wordOk
  rw [okS_bits h, bits_len]
  simp
theorem st9 (C : Ctx K mg base) (hr : Room 9 (XL P w K mg base f cd A outer s H0 E).A) : Step (XL P w K mg base f cd A outer s H0 E) (ls 9) (M8 K p0 d) (M3 K p0 d) := by
  have nn := sc_law.nd
  obtain ⟨fR, fdR, FR, bR, mR, cR⟩ := ok_read (P := P) (w := w) C
  refine ⟨_, ps_if (PW.pt (pw_or (pt_cmpR (op_neD hr.units) (pe_callTy call_list_of (by rfl) C.t.b_list (by decide +kernel) (pa_cons (pe_meth (pv 5) cR mR FR (hr.mono (by decide)) bR .nil passA (pa_cons (pv 8) pa_nil)) pa_nil)) (pv 9) (nomark _))
    (pw_or1 (PW.pt (pw_and (pt_cmpR op_gt (pe_callB call_len_seq (by rfl) C.t.b_len PySem.boot_len (pa_cons (pv 8) pa_nil)) pe_int (nomark _))
      (pw_and1 (pt_cmpR op_ne (pe_cx (ok_near (P := P) (w := w) C) hr (by decide) rfl passA (pa_cons (pv 8) pa_nil)) (pe_callB (cr_min rfl) (by rfl) C.t.b_min (by decide +kernel) (pa_cons (pv 11) pa_nil)) (nomark _))))))))
    (pss_one (ps_ret pe_bl)) pss_nil, fun D σ H hM hq => ?_⟩
  obtain ⟨B, wa, b, sa, n, ws, ps, q, e, hl, h2, h3, h4, h5, h8, h9, h11, g, L, hw, hbk, hs, gp, hdu, he⟩ := hM
  obtain ⟨l1, l2, l3⟩ := g.len
  have n1 := g.n1
  have n4 := g.n4
  have gp1 := gp.1
  have lsg : (sgs n ps).length = ps.length := by unfold sgs; rw [List.length_map]
  have mem : ∀ l ∈ sgs n ps, ∃ p ∈ ps, l = bits p n := fun l hl => by
    obtain ⟨p, hp, rfl⟩ := List.mem_map.mp hl
    exact ⟨p, hp, rfl⟩
  have small : ∀ l ∈ sgs n ps, l.length ≤ 1000 := fun l hl => by
    obtain ⟨p, _, rfl⟩ := mem l hl
    rw [bits_len]; omega
  have post : ∀ H', Lw K p0 d B H' → D.nx σ H' := fun H' L' => hq _ _ ⟨B, wa, b, n, ws, hl, h2, h3, h4, h5, g, L', hw, hbk⟩
  have hbk1 := Le.book L.le hbk
  obtain ⟨dx, tw, ob, hb, _, _⟩ := id hbk1
  refine ⟨_, h5, b, dx, _, rfl, hb, rfl, _, h8, b, sa, n, ws, sgs n ps, rfl, hbk1, SqL.of (L.le.at hs), L.tab, by omega, by omega, small, by omega, fun _ H1 p L1 hp => ?_, fun ⟨l, hl2, z⟩ => ?_⟩
  · have LA := L.to L1
    refine ⟨p, _, rfl, .inr (SqT.of upd_same), fun l hln => ?_⟩
    have LB := (LA.new (o := .tup ((sgs n ps).map (readV ws))) hp).new (o := .lst ((sgs n ps).map (readV ws))) hln
    have hl3 : upd (upd H1 p (.tup ((sgs n ps).map (readV ws)))) l (.lst ((sgs n ps).map (readV ws))) l = some (.lst (due ws n ps)) := upd_same
    generalize upd (upd H1 p (.tup ((sgs n ps).map (readV ws)))) l (.lst ((sgs n ps).map (readV ws))) = H2 at LB hl3
    have hq2 := LB.le.at hdu
    rw [due_S] at hq2 hl3
    have sh : SeqAt.shaped (.list ((((sgs n ps).map (readS ws)).map S).map PyData.str)) = true := shaped_names fun x hx => by
      obtain ⟨y, hy, rfl⟩ := List.mem_map.mp hx
      obtain ⟨z, _, rfl⟩ := List.mem_map.mp hy
      exact okT_small (readS_small g z)
    refine ⟨_, h9, _, _, .lst (SqL.of hl3) (DpAll.strs _), .lst (SqL.of hq2) (DpAll.strs _), sh, sh, _, rfl, ?_⟩
    have ev : PyData.eqv (.list ((((sgs n ps).map (readS ws)).map S).map PyData.str)) (.list ((((sgs n ps).map (readS ws)).map S).map PyData.str)) = true := (eqv_strs _ _).trans (decide_eq_true rfl)
    rw [ev]
    refine iteF ?_
    refine ⟨_, h8, sa, _, rfl, .inl (SqL.of (LB.le.at hs)), _, _, rfl, rfl, _, rfl, ?_⟩
    rw [List.length_map]
    by_cases h1 : 1 < (sgs n ps).length
    · rw [decide_eq_true (show (1 : Int) < (((sgs n ps).length : Nat) : Int) by omega)]
      refine iteT ?_
      refine ⟨_, h8, sa, sgs n ps, rfl, SqL.of (LB.le.at hs), LB.tab, by omega, small, fun _ => ⟨fun x hx y hy => ?_, fun m hm hmin H3 L3 => ?_⟩, fun z => absurd z (by omega)⟩
      · obtain ⟨p1, _, rfl⟩ := mem x hx
        obtain ⟨p2, _, rfl⟩ := mem y hy
        unfold farOk
        rw [okS_bits n1, okS_bits n1, bits_len, bits_len]
        simp
      · have LC := LB.to L3
        refine ⟨_, h11, e, _, rfl, SqL.of (LC.le.at he), pds_pos (by omega), fun m' hm' hmin' => ?_⟩
        refine ⟨rfl, _, rfl, ?_⟩
        have : m = m' := Int.le_antisymm (hmin _ hm') (hmin' _ hm)
        refine iteNS (by rw [this]) ?_
        exact post _ LC
    · rw [decide_eq_false (show ¬ (1 : Int) < (((sgs n ps).length : Nat) : Int) by omega)]
      exact iteF (iteF (post _ LB))
  · obtain ⟨p, _, rfl⟩ := mem l hl2
    rw [wordOk_bits n1] at z
    cases z
/-- the law's texts -/
def poolT : List (List Nat) := [[115, 116, 111, 112], [103, 111], [102, 111, 103], [97, 98], [97, 98, 99], [103, 111, 102], [115, 104, 105, 112], [97]]
theorem poolT_ok : ∀ x ∈ poolT, x.length ≤ 4 ∧ ∀ c ∈ x, c < 256 := by decide +kernel
theorem joinL_ok : ∀ xs : List (List Nat), (∀ x ∈ xs, x ∈ poolT) → (TL.joinL [32] xs).length ≤ xs.length * 5 ∧ ∀ c ∈ TL.joinL [32] xs, c < 256
  | [], _ => ⟨Nat.zero_le _, fun c hc => by cases hc⟩
  | [x], h => by
    obtain ⟨h1, h2⟩ := poolT_ok x (h x List.mem_cons_self)
    exact ⟨by show x.length ≤ 1 * 5; omega, h2⟩
  | x :: y :: r, h => by
    obtain ⟨h1, h2⟩ := poolT_ok x (h x List.mem_cons_self)
    obtain ⟨h3, h4⟩ := joinL_ok (y :: r) fun z hz => h z (List.mem_cons_of_mem _ hz)
    show (x ++ ([32] ++ TL.joinL [32] (y :: r))).length ≤ _ ∧ ∀ c ∈ x ++ ([32] ++ TL.joinL [32] (y :: r)), c < 256
    refine ⟨?_, fun c hc => ?_⟩
    · rw [List.length_append, List.length_append]
      simp only [List.length_cons, List.length_nil] at h3 ⊢
      omega
    · rcases List.mem_append.mp hc with hc | hc
      · exact h2 c hc
      · rcases List.mem_append.mp hc with hc | hc
        · rw [List.mem_singleton.mp hc]; decide
        · exact h4 c hc
def M10 (K : PySem.W.Frag) (p0 d : Addr) (σ : _root_.L2.St) (H : Hp) : Prop := ∃ B wa b n ws l, σ.length = 35 ∧ At σ 2 (.ref d) ∧ At σ 3 (.int (n : Nat)) ∧ At σ 4 (.ref wa) ∧ At σ 5 (.ref b) ∧ At σ 14 (.str (S l)) ∧ GoodW n ws ∧ Lw K p0 d B H ∧ B wa = some (.lst (ws.map sV)) ∧ isBook K B b n ws ∧ l.length ≤ 20 ∧ ∀ c ∈ l, c < 256
theorem st10 (C : Ctx K mg base) (hr : Room 9 (XL P w K mg base f cd A outer s H0 E).A) : Step (XL P w K mg base f cd A outer s H0 E) (ls 10) (M3 K p0 d) (M10 K p0 d) := by
  have nn := sc_law.nd
  refine ⟨_, ps_set (i := 14) nn rfl (by first | exact Or.inl rfl | exact Or.inr rfl) (pe_join pe_str (pe_lcX (own := [("k", 12)]) (g := gName 12) rfl nn rfl rfl takesA (pi_range1 (by rfl) C.t.b_range (pa_cons (pe_op op_add pe_int (pe_cx (ok_roll (P := P) (w := w) C) hr (by decide) rfl passA (pa_cons (pv 2) (pa_cons pe_int pa_nil)))) pa_nil)) (blkOk_by (N := n_law) (sc := defScope s_law) (by decide +kernel))
     (fun _ _ _ _ _ => pg_name (i := 12) nn rfl (Or.inl rfl)) (fun _ _ _ _ _ => pts_nil)
     (fun _ _ _ _ _ _ _ px => pe_ix (r := rIxL K) ix_list (pe_lst (pa_cons pe_str (pa_cons pe_str (pa_cons pe_str (pa_cons pe_str (pa_cons pe_str (pa_cons pe_str (pa_cons pe_str (pa_cons pe_str pa_nil)))))))))
       (pe_cx (ok_roll (P := P) (w := w) C) hr (by decide) rfl px (pa_cons (pv 2) (pa_cons pe_int pa_nil))) (fun _ _ => rfl)))), fun D σ H hM hq => ?_⟩
  obtain ⟨B, wa, b, n, ws, hl, h2, h3, h4, h5, g, L, hw, hbk⟩ := hM
  obtain ⟨a0, a1, a2, a3, a4, a5, a6, a7, a8, a9, a10, a11, a12, a13, a14, a15, a16, a17, a18, a19, a20, a21, a22, a23, a24, a25, a26, a27, a28, a29, a30, a31, a32, a33, a34, rfl⟩ := ex35 hl
  cases h2; cases h3; cases h4; cases h5
  refine ⟨⟨_, rfl⟩, ?_⟩
  obtain ⟨qx, qy, qz, qd⟩ := L.dice
  refine ⟨_, rfl, d, qx, qy, qz, _, rfl, qd, by omega, by omega, fun qx qy qz qr q0 q1 => ?_⟩
  obtain ⟨r, hr, rfl⟩ : ∃ k : Nat, k < 4 ∧ qr = (k : Int) := ⟨qr.toNat, by omega, by omega⟩
  have L1 := L.roll qx qy qz
  have samer : ∀ a, a ≠ d → upd H d (dV qx qy qz) a = H a := fun a n => upd_ne n
  generalize upd H d (dV qx qy qz) = H1 at L1 samer ⊢
  clear q0 q1 qd
  refine ⟨_, _, rfl, rfl, _, rfl, by omega, by omega, fun D1 hD => ?_⟩
  have hDd : D1 ≠ d := L1.ne_new hD
  have hDB : B D1 = none := L1.le.no D1 hD
  rw [show ((1 : Int) + (r : Int)).toNat = r + 1 by omega]
  refine lc_range (lo := 0) (n := r + 1) (fun i H' => Lw K p0 d B H' ∧ ∃ xs : List (List Nat), xs.length = i ∧ (∀ x ∈ xs, x ∈ poolT) ∧ H' D1 = some (.lst ((xs.map S).map V.str))) ⟨L1.new hD, [], rfl, (fun p hp => by cases hp), upd_same⟩ (fun i H2 hi ⟨L2, xs, e1, e2, e3⟩ => ?_) (fun H2 ⟨L2, xs, e1, e2, e3⟩ => ?_)
  · refine ⟨rfl, ?_⟩
    refine yes_ ?_
    refine iteT ?_
    refine ⟨by show 8 ≤ sizeLine; decide, fun u hu => ?_⟩
    have hDu : D1 ≠ u := ne_of_none e3 hu
    have hud : u ≠ d := L2.ne_new hu
    have e4 : upd H2 u (.lst [.str "stop", .str "go", .str "fog", .str "ab", .str "abc", .str "gof", .str "ship", .str "a"]) D1 = _ := (upd_ne hDu).trans e3
    have hu3 : upd H2 u (.lst [.str "stop", .str "go", .str "fog", .str "ab", .str "abc", .str "gof", .str "ship", .str "a"]) u = some (.lst (poolT.map sV)) := upd_same
    have L3 := L2.new (o := .lst [.str "stop", .str "go", .str "fog", .str "ab", .str "abc", .str "gof", .str "ship", .str "a"]) hu
    show tCons _ _ _ (upd H2 u (.lst [.str "stop", .str "go", .str "fog", .str "ab", .str "abc", .str "gof", .str "ship", .str "a"])) _
    generalize upd H2 u (.lst [.str "stop", .str "go", .str "fog", .str "ab", .str "abc", .str "gof", .str "ship", .str "a"]) = H3 at e4 hu3 L3
    obtain ⟨qx, qy, qz, qd⟩ := L3.dice
    refine ⟨_, rfl, d, qx, qy, qz, _, rfl, qd, by omega, by omega, fun qx qy qz qr q0 q1 => ?_⟩
    obtain ⟨k, hk, rfl⟩ : ∃ k : Nat, k < 8 ∧ qr = (k : Int) := ⟨qr.toNat, by omega, by omega⟩
    have L4 := L3.roll qx qy qz
    have samek : ∀ a, a ≠ d → upd H3 d (dV qx qy qz) a = H3 a := fun a n => upd_ne n
    generalize upd H3 d (dV qx qy qz) = H4 at L4 samek ⊢
    clear q0 q1 qd
    have e5 := (samek D1 hDd).trans e4
    have hu4 := (samek u hud).trans hu3
    have hk8 : k < poolT.length := hk
    refine ⟨u, _, _, _, rfl, rfl, SqL.of hu4, atI_nat (j := k) (by rw [List.getElem?_map, List.getElem?_eq_getElem hk8]; rfl), _, e5, ?_, L4.set hDB e5 (hne := hDd), xs ++ [poolT[k]], by rw [List.length_append, e1]; rfl, fun x hx => ?_, ?_⟩
    · rw [List.length_map, List.length_map, e1]
      exact Nat.lt_of_lt_of_le (show i < 64 by omega) (by decide)
    · rcases List.mem_append.mp hx with hx | hx
      · exact e2 x hx
      · rw [List.mem_singleton.mp hx]; exact List.getElem_mem hk8
    · rw [upd_same, List.map_append, List.map_append]
      rfl
  · obtain ⟨j1, j2⟩ := joinL_ok xs e2
    have hsum : ((xs.map S).map (·.length)).sum + (xs.map S).length * (S [32]).length ≤ 16777216 := by
      have : ∀ ys : List (List Nat), (∀ x ∈ ys, x ∈ poolT) → ((ys.map S).map (·.length)).sum ≤ ys.length * 4 := by
        intro ys
        induction ys with
        | nil => intro _; exact Nat.zero_le _
        | cons y r ih =>
          intro h
          have h1 := ih fun z hz => h z (List.mem_cons_of_mem _ hz)
          have h2 := (poolT_ok y (h y List.mem_cons_self)).1
          rw [List.map_cons, List.map_cons, List.sum_cons, S_len, List.length_cons]
          omega
      have h1 := this xs e2
      rw [List.length_map, S_len]
      simp only [List.length_cons, List.length_nil]
      omega
    refine ⟨S [32], D1, xs.map S, rfl, rfl, .inl (SqL.of e3), hsum, ?_⟩
    have ej : Txt.join (S [32]) (xs.map S) = S (TL.joinL [32] xs) := SX.join_S [32] xs
    rw [ej]
    obtain ⟨L4, L5⟩ := L2.rebase
    exact hq _ _ ⟨_, wa, b, n, ws, TL.joinL [32] xs, rfl, rfl, rfl, rfl, rfl, rfl, g, L4, L5.at hw, Le.book L5 hbk, by omega, j2⟩
end
end K1

-- text K1Lg
set_option maxRecDepth 100000
set_option maxHeartbeats 4000000
namespace K1
open PySem PySem.Spec PyProof.Rows L2 LamX GX
section
variable {P : Program} {w : World} {K : PySem.W.Frag} {mg : Str → Option Value} {base : Heap}
variable {f : Addr} {cd : Value} {A : Around} {outer : List Env} {s : Shared} {H0 : Hp} {E : XK} {p0 d : Addr}
theorem pe_bmK {X : Cx} {K : PySem.W.Frag} {o e : Expr} {es : List Expr} {to : TE} {t : TA} {name : Str} {apos cpos : Pos} {T id : String} {r : V → List V → Hp → VK → Prop} (hK : X.K = K) (pa : PlainAttrs T) (slot : Slot T name id) (hty : typeOf (.builtin id) = pure (.type "method_descriptor")) (hm : MtR X id r) (ho : PE X o to) (ha : PA X (e :: es) t)
    (hbase : attributeBase o name X.env (eval o X.env) = eval o X.env := by rfl)
    (hfew : ((backTo cpos (starEach (e :: es) X.env)).all (fun x => !x.1) && (backToKw cpos (keywordEach [] X.env)).all (fun x => x.1.isSome)
      && decide ((e :: es).length + ([] : List Keyword).length + (if ([] : List Keyword).isEmpty then 0 else 1) < 30)) = true := by rfl)
    (hline : (apos.endLine == cpos.line) = true := by rfl) (hs : starEach (e :: es) X.env = (false, eval e X.env) :: starEach es X.env := by rfl) (hplain : (backTo cpos (starEach es X.env)).any (·.1) = false := by rfl) :
    PE X (.Call (.Attribute o name apos) (e :: es) [] cpos) (tBM K T r to t) := by
  subst hK
  exact pe_bm pa slot hty hm ho ha hbase hfew hline hs hplain
def M11 (K : PySem.W.Frag) (p0 d : Addr) (σ : _root_.L2.St) (H : Hp) : Prop := ∃ B wa b n ws l, σ.length = 35 ∧ At σ 2 (.ref d) ∧ At σ 3 (.int (n : Nat)) ∧ At σ 4 (.ref wa) ∧ At σ 5 (.ref b) ∧ At σ 14 (.str (S l)) ∧ GoodW n ws ∧ Lw K p0 d B H ∧ B wa = some (.lst (ws.map sV)) ∧ isBook K B b n ws ∧ l.length ≤ 20 ∧ (∀ c ∈ l, c < 256) ∧
  ((partsBad ws l ∧ At σ 15 .non) ∨ (¬ partsBad ws l ∧ ∃ pa, At σ 15 (.ref pa) ∧ B pa = some (.lst ((allParts ws l).map sV))))
theorem st11 (C : Ctx K mg base) (hr : Room 9 (XL P w K mg base f cd A outer s H0 E).A) : Step (XL P w K mg base f cd A outer s H0 E) (ls 11) (M10 K p0 d) (M11 K p0 d) := by
  have nn := sc_law.nd
  refine ⟨_, ps_set (i := 15) nn rfl (by first | exact Or.inl rfl | exact Or.inr rfl) (pe_cx (ok_parts (P := P) (w := w) C) hr (by decide) rfl passA (pa_cons (pv 4) (pa_cons (pv 14) pa_nil))), fun D σ H hM hq => ?_⟩
  obtain ⟨B, wa, b, n, ws, l, hl, h2, h3, h4, h5, h14, g, L, hw, hbk, hll, h256⟩ := hM
  obtain ⟨a0, a1, a2, a3, a4, a5, a6, a7, a8, a9, a10, a11, a12, a13, a14, a15, a16, a17, a18, a19, a20, a21, a22, a23, a24, a25, a26, a27, a28, a29, a30, a31, a32, a33, a34, rfl⟩ := ex35 hl
  cases h2; cases h3; cases h4; cases h5; cases h14
  refine ⟨_, rfl, _, rfl, wa, ws, l, rfl, SqL.of (L.le.at hw), L.tab, by omega, fun hb H1 L1 => ?_, fun hb H1 p L1 hp hp1 => ?_⟩
  · exact hq _ _ ⟨B, wa, b, n, ws, l, rfl, rfl, rfl, rfl, rfl, rfl, g, L.to L1, hw, hbk, hll, h256, .inl ⟨hb, rfl⟩⟩
  · obtain ⟨L2, L3⟩ := (L.to L1).rebase
    exact hq _ _ ⟨_, wa, b, n, ws, l, rfl, rfl, rfl, rfl, rfl, rfl, g, L2, L3.at hw, Le.book L3 hbk, hll, h256, .inr ⟨hb, p, rfl, hide_at hp1 (L.ne_new hp)⟩⟩
def M12 (K : PySem.W.Frag) (p0 d : Addr) (σ : _root_.L2.St) (H : Hp) : Prop := ∃ B b n ws l ga gs, σ.length = 35 ∧ At σ 2 (.ref d) ∧ At σ 3 (.int (n : Nat)) ∧ At σ 5 (.ref b) ∧ At σ 14 (.str (S l)) ∧ At σ 16 (.ref ga) ∧ GoodW n ws ∧ Lw K p0 d B H ∧ isBook K B b n ws ∧ l.length ≤ 20 ∧ (∀ c ∈ l, c < 256) ∧ B ga = some (.lst (gs.map sV)) ∧ gs.length ≤ 500 ∧ (∀ x ∈ gs, x.length = n) ∧
  ((partsBad ws l ∧ At σ 15 .non) ∨ (¬ partsBad ws l ∧ (∃ pa, At σ 15 (.ref pa)) ∧ gs = toldOf ws n l))
theorem flat_sV (ws : List (List Nat)) : (ws.map sV).all flatV = true := flat_words ws
theorem eq_sV {x y : List Nat} : eqV (sV y) (sV x) = decide (x = y) := by
  show ((S y : Str) == S x) = _
  by_cases h : x = y
  · rw [h, decide_eq_true rfl]; exact beq_self_eq_true _
  · rw [decide_eq_false h]
    exact beq_false_of_ne fun z => h (S_inj z).symm
theorem sgn_len (ws : List (List Nat)) (n : Nat) (x : List Nat) : (sgn ws n x).length = n := bits_len _ _
theorem st12 (C : Ctx K mg base) (hr : Room 9 (XL P w K mg base f cd A outer s H0 E).A) : Step (XL P w K mg base f cd A outer s H0 E) (ls 12) (M11 K p0 d) (M12 K p0 d) := by
  have nn := sc_law.nd
  refine ⟨_, ps_set (i := 16) nn rfl (by first | exact Or.inl rfl | exact Or.inr rfl) (pe_ifExp (pt_cmpR op_notN (pv 15) pe_non (nomark _)) (pe_lcX (own := [("part", 33)]) (g := gName 33) rfl nn rfl rfl takesA (pi_list (pv 15)) (blkOk_by (N := n_law) (sc := defScope s_law) (by decide +kernel))
     (fun _ _ _ _ _ => pg_name (i := 33) nn rfl (Or.inl rfl)) (fun _ _ _ _ _ => pts_nil)
     (fun _ _ _ _ _ _ _ px => pe_cx (ok_lsign (P := P) (w := w) C) hr (by decide) rfl px (pa_cons (pe_bmK (K := K) (r := rIndex K) rfl PySem.F.plainAttrs_list PySem.F.slot_list_index PySem.F.type_list_index mt_index (pv 4) (pa_cons (pv 33) pa_nil)) (pa_cons (pv 3) pa_nil)))) (pe_lst pa_nil)), fun D σ H hM hq => ?_⟩
  obtain ⟨B, wa, b, n, ws, l, hl, h2, h3, h4, h5, h14, g, L, hw, hbk, hll, h256, hpp⟩ := hM
  have n4 := g.n4
  rcases hpp with ⟨hb, h15⟩ | ⟨hb, pa, h15, hpa⟩
  · obtain ⟨a0, a1, a2, a3, a4, a5, a6, a7, a8, a9, a10, a11, a12, a13, a14, a15, a16, a17, a18, a19, a20, a21, a22, a23, a24, a25, a26, a27, a28, a29, a30, a31, a32, a33, a34, rfl⟩ := ex35 hl
    cases h2; cases h3; cases h4; cases h5; cases h14; cases h15
    refine ⟨_, rfl, rfl, _, rfl, ?_⟩
    refine iteF ⟨by show 0 ≤ sizeLine; decide, fun q hqn => ?_⟩
    obtain ⟨L2, L3⟩ := (L.new (o := .lst []) hqn).rebase
    exact hq _ _ ⟨_, b, n, ws, l, q, [], rfl, rfl, rfl, rfl, rfl, rfl, g, L2, Le.book L3 hbk, hll, h256, hide_at upd_same (L.ne_new hqn), by decide, (fun x hx => by cases hx), .inl ⟨hb, rfl⟩⟩
  · obtain ⟨a0, a1, a2, a3, a4, a5, a6, a7, a8, a9, a10, a11, a12, a13, a14, a15, a16, a17, a18, a19, a20, a21, a22, a23, a24, a25, a26, a27, a28, a29, a30, a31, a32, a33, a34, rfl⟩ := ex35 hl
    cases h2; cases h3; cases h4; cases h5; cases h14; cases h15
    refine ⟨_, rfl, rfl, _, rfl, ?_⟩
    refine iteT ?_
    refine ⟨_, rfl, pa, rfl, ⟨_, SqL.of (L.le.at hpa)⟩, fun D1 hD => ?_⟩
    have hin : ∀ x ∈ allParts ws l, x ∈ ws := fun x hx => by
      unfold allParts at hx
      obtain ⟨ys, hys, hx2⟩ := List.mem_flatten.mp hx
      obtain ⟨y, hy, rfl⟩ := List.mem_map.mp hys
      by_cases hxw : x ∈ ws
      · exact hxw
      · exact absurd (.inl ⟨y, hy, x, hx2, hxw⟩) hb
    have hlen : (allParts ws l).length ≤ 500 := by
      unfold allParts
      have h1 := flat_len (ws := ws) (m := 20) (xs := spw l) fun y hy => Nat.le_trans (spw_short hy) hll
      have h2 := spw_len l
      have h3 : (spw l).length * 21 ≤ 22 * 21 := Nat.mul_le_mul (by omega) (Nat.le_refl _)
      omega
    refine lc_list (K := K) (a := pa) (xs := (allParts ws l).map sV) (fun i H' => Lw K p0 d B H' ∧ H' D1 = some (.lst ((((allParts ws l).take i).map (sgn ws n)).map sV))) ⟨L.new hD, upd_same⟩ (fun i H' _ hP => SqL.of (hP.1.le.at hpa)) (fun i x H1 hx ⟨L1, h1⟩ => ?_) (fun H1 ⟨L1, h1⟩ => ?_)
    · obtain ⟨x, hx1, rfl⟩ := GX.get_map hx
      have hm := hin x (List.mem_of_getElem? hx1)
      obtain ⟨f1, f2⟩ := idx_first hm
      refine ⟨rfl, ?_⟩
      refine yes_ ?_
      refine iteT ?_
      have hil : i < (allParts ws l).length := (List.getElem?_eq_some_iff.mp hx1).1
      refine ⟨_, rfl, .inl ⟨rfl, _, SqL.of (L1.le.at hw)⟩, _, rfl, wa, _, sV x, ws.idxOf x, sV x, rfl, rfl, SqL.of (L1.le.at hw), rfl, flat_words ws, by rw [List.getElem?_map, f1]; rfl, by rw [eq_sV, decide_eq_true rfl], fun m z' hm' hz => ?_, _, rfl, ws.idxOf x, n, rfl, by omega, _, h1, ?_, L1.set (L.le.no D1 hD) h1 (hne := L.ne_new hD), ?_⟩
      · obtain ⟨y, hy, rfl⟩ := GX.get_map hz
        rw [eq_sV]
        exact decide_eq_false fun z => f2 m hm' (by rw [hy, z])
      · rw [List.length_map, List.length_map, List.length_take]
        exact Nat.lt_of_le_of_lt (Nat.min_le_right _ _) (Nat.lt_of_le_of_lt hlen (by decide))
      · rw [upd_same, take_snoc hx1, List.map_append, List.map_append]
        rfl
    · rw [List.length_map, List.take_of_length_le (Nat.le_refl _)] at h1
      obtain ⟨L2, L3⟩ := L1.rebase
      refine hq _ _ ⟨_, b, n, ws, l, D1, (allParts ws l).map (sgn ws n), rfl, rfl, rfl, rfl, rfl, rfl, g, L2, Le.book L3 hbk, hll, h256, hide_at h1 (L.ne_new hD), by rw [List.length_map]; exact hlen, fun x hx => ?_, .inr ⟨hb, ⟨pa, rfl⟩, rfl⟩⟩
      obtain ⟨y, _, rfl⟩ := List.mem_map.mp hx
      exact sgn_len ws n y
def M13 (K : PySem.W.Frag) (p0 d : Addr) (σ : _root_.L2.St) (H : Hp) : Prop := ∃ B b n ws l ga gs, σ.length = 35 ∧ At σ 2 (.ref d) ∧ At σ 3 (.int (n : Nat)) ∧ At σ 5 (.ref b) ∧ At σ 14 (.str (S l)) ∧ At σ 16 (.ref ga) ∧ At σ 17 (.int ((mvs (List.replicate n 48) gs : Nat) : Int)) ∧ GoodW n ws ∧ Lw K p0 d B H ∧ isBook K B b n ws ∧ l.length ≤ 20 ∧ (∀ c ∈ l, c < 256) ∧ B ga = some (.lst (gs.map sV)) ∧ gs.length ≤ 500 ∧ (∀ x ∈ gs, x.length = n) ∧
  ((partsBad ws l ∧ At σ 15 .non) ∨ (¬ partsBad ws l ∧ (∃ pa, At σ 15 (.ref pa)) ∧ gs = toldOf ws n l))
theorem st13 (C : Ctx K mg base) (hr : Room 9 (XL P w K mg base f cd A outer s H0 E).A) : Step (XL P w K mg base f cd A outer s H0 E) (ls 13) (M12 K p0 d) (M13 K p0 d) := by
  have nn := sc_law.nd
  refine ⟨_, ps_set (i := 17) nn rfl (by first | exact Or.inl rfl | exact Or.inr rfl) (pe_callB (cr_sum rfl) (by rfl) C.t.b_sum (by decide +kernel) (pa_cons (pe_lc (own := [("a", 18), ("b", 19)]) (g := gTup K 2 (gCons (gName 18) (gCons (gName 19) gNil))) rfl nn
      (pi_zip (by rfl) C.t.b_zip (pa_cons (pe_op op_cat (pe_lst (pa_cons (pe_op op_mulSign pe_str (pv 3)) pa_nil)) (pv 16)) (pa_cons (pv 16) pa_nil))) (blkOk_by (N := n_law) (sc := defScope s_law) (by decide +kernel))
      (fun _ _ _ _ _ => by exact pg_tup rfl (pgs_cons (pg_name (i := 18) nn rfl (by first | exact Or.inl rfl | exact Or.inr rfl)) (pgs_cons (pg_name (i := 19) nn rfl (by first | exact Or.inl rfl | exact Or.inr rfl)) pgs_nil))) (fun _ _ _ _ _ => pts_nil)
      (fun _ _ _ _ _ => by exact pe_dist (K := K) (ta := tCons (tVar 18) (tCons (tVar 19) tNil)) rfl nn rfl rfl rfl (by rfl) C.t.b_len (by rfl) C.t.b_zip (blk_any (blkOk_by (N := n_law) (sc := defScope s_law) (by decide +kernel)) (by decide +kernel)) rfl rfl (pa_cons (pv 18) (pa_cons (pv 19) pa_nil)) (fun σ H P P' m ⟨v, e1, w, e2, h⟩ => ⟨v, e1, w, e2, m _ _ h⟩) rfl rfl)) pa_nil)), fun D σ H hM hq => ?_⟩
  obtain ⟨B, b, n, ws, l, ga, gs, hl, h2, h3, h5, h14, h16, g, L, hbk, hll, h256, hga, hgl, hgn, hpp⟩ := hM
  have n4 := g.n4
  have key : ∀ σ' : _root_.L2.St, ∀ H', Lw K p0 d B H' → (σ'.length = 35 ∧ At σ' 2 (.ref d) ∧ At σ' 3 (.int (n : Nat)) ∧ At σ' 5 (.ref b) ∧ At σ' 14 (.str (S l)) ∧ At σ' 16 (.ref ga) ∧ At σ' 17 (.int ((mvs (List.replicate n 48) gs : Nat) : Int))) → σ'[15]? = σ[15]? → D.nx σ' H' := fun σ' H' L' ⟨e1, e2, e3, e4, e5, e6, e7⟩ e8 =>
    hq _ _ ⟨B, b, n, ws, l, ga, gs, e1, e2, e3, e4, e5, e6, e7, g, L', hbk, hll, h256, hga, hgl, hgn, by unfold At; rw [e8]; exact hpp⟩
  clear hq hpp
  obtain ⟨a0, a1, a2, a3, a4, a5, a6, a7, a8, a9, a10, a11, a12, a13, a14, a15, a16, a17, a18, a19, a20, a21, a22, a23, a24, a25, a26, a27, a28, a29, a30, a31, a32, a33, a34, rfl⟩ := ex35 hl
  cases h2; cases h3; cases h5; cases h14; cases h16
  refine ⟨_, rfl, 48, n, rfl, rfl, by omega, by show 1 ≤ sizeLine; decide, fun u hu => ?_⟩
  have L1 := L.new (o := .lst [sV (List.replicate n 48)]) hu
  have hu1 : upd H u (.lst [sV (List.replicate n 48)]) u = some (.lst [sV (List.replicate n 48)]) := upd_same
  show tVar 16 _ (upd H u (.lst [sV (List.replicate n 48)])) _
  generalize upd H u (.lst [sV (List.replicate n 48)]) = H1 at L1 hu1
  refine ⟨_, rfl, u, ga, _, _, rfl, rfl, hu1, L1.le.at hga, ?_, fun p hp => ?_⟩
  · rw [List.length_map]
    exact Nat.le_trans (show 1 + gs.length ≤ 501 by omega) (by decide)
  have L2 := L1.new (o := .lst ([sV (List.replicate n 48)] ++ gs.map sV)) hp
  have hp2 : upd H1 p (.lst ([sV (List.replicate n 48)] ++ gs.map sV)) p = some (.lst ((List.replicate n 48 :: gs).map sV)) := upd_same
  generalize upd H1 p (.lst ([sV (List.replicate n 48)] ++ gs.map sV)) = H2 at L2 hp2
  refine ⟨_, rfl, p, ga, _, _, rfl, SqL.of hp2, SqL.of (L2.le.at hga), fun D1 hD => ?_⟩
  refine lc_n gs.length (fun i H' => Le (T K) H2 H' ∧ ∃ ns : List Int, ns.length = i ∧ ns.sum = ((mvT (List.replicate n 48) gs i : Nat) : Int) ∧ H' D1 = some (.lst (ns.map V.int))) ⟨(Le.refl L2.tab).new hD, [], rfl, rfl, upd_same⟩
    (fun i H3 hi ⟨L3, ns, e1, e2, e3⟩ => ⟨⟨_, _, sV ((List.replicate n 48 :: gs)[i]'(by rw [List.length_cons]; omega)), sV gs[i], SqL.of (L3.at hp2), SqL.of ((L2.to L3).le.at hga), by rw [List.getElem?_map, List.getElem?_eq_getElem (by rw [List.length_cons]; omega)]; rfl, by rw [List.getElem?_map, List.getElem?_eq_getElem hi]; rfl⟩, ?_⟩)
    (fun H3 ⟨L3, ns, e1, e2, e3⟩ => ⟨⟨_, _, SqL.of (L3.at hp2), SqL.of ((L2.to L3).le.at hga), .inr (by rw [List.length_map]; exact Nat.le_refl _)⟩, ?_⟩)
  · rintro x H4 ⟨t, x1, y1, rfl, ht, rfl, hx1, hy1⟩
    obtain ⟨a, ha, rfl⟩ := GX.get_map (hx1 _ (SqL.of (L3.at hp2)))
    obtain ⟨b', hb', rfl⟩ := GX.get_map (hy1 _ (SqL.of ((L2.to L3).le.at hga)))
    have hbef : bef (List.replicate n 48) gs i = a := by
      unfold bef
      rw [List.getD_eq_getElem?_getD, ha]; rfl
    have hal : a.length ≤ 1000 := by
      have := List.mem_of_getElem? ha
      rcases List.mem_cons.mp this with rfl | h
      · rw [List.length_replicate]; omega
      · rw [hgn a h]; omega
    refine ⟨t, _, rfl, SqT.of upd_same, rfl, _, _, rfl, _, _, rfl, rfl, rfl, ?_⟩
    refine yes_ ?_
    refine iteT ?_
    have hDt : D1 ≠ t := ne_of_none e3 ht
    have e4 : upd H3 t (.tup [sV a, sV b']) D1 = some (.lst (ns.map V.int)) := (upd_ne hDt).trans e3
    have L4 := L3.new (o := .tup [sV a, sV b']) ht
    refine ⟨rfl, _, rfl, _, rfl, a, b', rfl, hal, L4.tab, fun H5 L5 => ?_⟩
    have e5 := L5.at e4
    refine ⟨_, e5, ?_, (L4.trans L5).set hD e5, ns ++ [((dist a b' : Nat) : Int)], by rw [List.length_append, e1]; rfl, ?_, ?_⟩
    · rw [List.length_map, e1]
      exact Nat.lt_of_lt_of_le (show i < 512 by omega) (by decide)
    · rw [List.sum_append, List.sum_singleton, e2, mvT_snoc _ _ _ hb', hbef, Int.natCast_add]
    · rw [upd_same, List.map_append]
      rfl
  · refine ⟨D1, ns, rfl, SqL.of e3, ?_⟩
    have e : mvT (List.replicate n 48) gs gs.length = mvs (List.replicate n 48) gs := by unfold mvT; rw [List.take_of_length_le (Nat.le_refl _)]
    rw [e2, e]
    exact key _ _ (L2.to L3) ⟨rfl, rfl, rfl, rfl, rfl, rfl, rfl⟩ rfl
end
end K1

-- text K1Lh
set_option maxRecDepth 100000
set_option maxHeartbeats 4000000
namespace K1
open PySem PySem.Spec PyProof.Rows L2 LamX GX
section
variable {P : Program} {w : World} {K : PySem.W.Frag} {mg : Str → Option Value} {base : Heap}
variable {f : Addr} {cd : Value} {A : Around} {outer : List Env} {s : Shared} {H0 : Hp} {E : XK} {p0 d : Addr}
/-- the law at a base where only the dice is asked for -/
def M14 (K : PySem.W.Frag) (p0 d : Addr) (σ : _root_.L2.St) (H : Hp) : Prop := ∃ B, σ.length = 35 ∧ At σ 2 (.ref d) ∧ Lw K p0 d B H
def plainB (B : Hp) : Hp := fun b => match B b with
  | some (.tbl _) => none
  | x => x
theorem plainB_at {B : Hp} {a : Addr} {o : HO} (h : B a = some o) (n : PlainO o := by trivial) : plainB B a = some o := by
  unfold plainB
  rw [h]
  cases o <;> first | rfl | exact n.elim
theorem plainB_some {B : Hp} {a : Addr} {o : HO} (h : plainB B a = some o) : B a = some o ∧ ∀ ps, o ≠ .tbl ps := by
  unfold plainB at h
  split at h
  · cases h
  · rename_i hx
    exact ⟨h, fun ps e => by rw [e] at h; exact hx ps h⟩
theorem Lw.ext {B H H1 : Hp} (h : Lw K p0 d B H) (e : ExtN H H1) (t : Tabs (T K) H1) : Lw K p0 d (plainB B) H1 := by
  obtain ⟨lp, a, b, x, y, z, c⟩ := h
  refine ⟨plainB_at lp, by unfold plainB; rw [a], ⟨fun q u k n => ?_, t, fun q k => ?_⟩, x, y, z, e _ _ c fun ps z => by cases z⟩
  · obtain ⟨k1, k2⟩ := plainB_some k
    exact e q u (b.ext q u k1 k2) k2
  · cases hq : plainB B q with
    | none => rfl
    | some u =>
      obtain ⟨k1, k2⟩ := plainB_some hq
      have := e q u (b.ext q u k1 k2) k2
      rw [k] at this
      cases this
theorem plain_book {B : Hp} {b : Addr} {n : Nat} {ws : List (List Nat)} (h : isBook K B b n ws) : isBook K (plainB B) b n ws := by
  obtain ⟨dx, t, ob, k1, k2, k3⟩ := h
  exact ⟨dx, t, ob, plainB_at k1, plainB_at k2, k3⟩
theorem told_iff {n : Nat} {ws : List (List Nat)} (g : GoodW n ws) {l : List Nat} : toldOk ws l ↔ ¬ partsBad ws l := by
  have hne : ([] : List Nat) ∉ ws := fun h => (g.word h).1 rfl
  refine ⟨fun h => ?_, fun h x hx => ⟨fun z => ?_, fun p hp => ?_⟩⟩
  · rintro (⟨x, hx, p, hp, hn⟩ | he)
    · exact hn ((h x hx).2 p hp)
    · refine (h [] he).1 ?_
      unfold partsOf
      rw [if_neg hne]; rfl
  · unfold partsOf at z
    by_cases hx2 : x ∈ ws
    · rw [if_pos hx2] at z; cases z
    · rw [if_neg hx2] at z
      have : x = [] := by simpa using z
      rw [this] at hx
      exact h (.inr hx)
  · by_cases hpw : p ∈ ws
    · exact hpw
    · exact absurd (.inl ⟨x, hx, p, hp, hpw⟩) h
theorem signs_small {n : Nat} {ws : List (List Nat)} {l : List Nat} : ∀ x ∈ toldOf ws n l, ∀ c ∈ x, c < 256 := fun x hx c hc => by
  unfold toldOf at hx
  obtain ⟨y, _, rfl⟩ := List.mem_map.mp hx
  have : ∀ (p : Nat) k, ∀ c ∈ bits p k, c < 256 := by
    intro p k
    induction k with
    | zero => intro c hc; cases hc
    | succ k ih =>
      intro c hc
      rcases List.mem_cons.mp hc with rfl | hc
      · omega
      · exact ih c hc
  exact this _ _ c hc
abbrev cdL (K : PySem.W.Frag) : Value := .ref (He.cT K ("law", none)).1
theorem st14 (C : Ctx K mg base) (hr : Room 9 (XL P w K mg base f (cdL K) A outer s H0 E).A) : Step (XL P w K mg base f (cdL K) A outer s H0 E) (ls 14) (M13 K p0 d) (M14 K p0 d) := by
  have nn := sc_law.nd
  obtain ⟨fT, fdT, FT, bT, mT, cT⟩ := ok_told (P := P) (w := w) C
  obtain ⟨fG, fdG, FG, bG, mG, cG⟩ := ok_changes (P := P) (w := w) C
  obtain ⟨gd, G⟩ := C.d.d_l_told
  have gb := G.funD.bindsN (ps := ["what"]) fun _ _ _ _ _ _ us hl => (match us, hl with | [_], _ => rfl)
  have gkp := G.kp
  obtain ⟨oc, od, dfv, kV, doc, pm, an, ct, osl, ge, glk, ghcd, ghd, ghk⟩ := G.ex
  subst ge
  refine ⟨_, ps_if (PW.pt (pw_or (pt_cmpR (op_neD hr.units) (pe_lamcall (T := T K) (k := 6) (by rfl) C.t.m_l_told gkp glk ghcd gb sc_l_told rfl (.inl rfl) (told_gives (by rfl) C.t.m_CodeError (by decide) fun _ => rfl) (C.b _ (tf_mem 8)) rfl (T_mem 8) (T_uniq C.u 8) (hr.mono (by decide)) (lamS_by (sc := defScope s_law) (by rfl)) rfl (fun _ _ _ _ _ => rfl)
        (fun A2 outer2 s2 H2 E2 f2 c2 hr2 => pe_meth (pv 5) cT mT FT (hr2.mono (by decide)) bT .nil passL (pa_cons (pv 14) pa_nil)))
      (pe_ifExp (pt_cmpR op_notN (pv 15) pe_non (nomark _)) (pe_callTy call_tuple_of (by rfl) C.t.b_tuple (by decide +kernel) (pa_cons (pv 16) pa_nil)) pe_str) (nomark _))
    (pw_or1 (pt_cmpR op_ne (pe_lamcall (T := T K) (k := 6) (by rfl) C.t.m_l_told gkp glk ghcd gb sc_l_told rfl (.inl rfl) (told_gives (by rfl) C.t.m_CodeError (by decide) fun _ => rfl) (C.b _ (tf_mem 8)) rfl (T_mem 8) (T_uniq C.u 8) (hr.mono (by decide)) (lamS_by (sc := defScope s_law) (by rfl)) rfl (fun _ _ _ _ _ => rfl)
        (fun A2 outer2 s2 H2 E2 f2 c2 hr2 => pe_meth (pv 5) cG mG FG (hr2.mono (by decide)) bG .nil passL (pa_cons (pv 14) pa_nil)))
      (pe_ifExp (pt_cmpR op_notN (pv 15) pe_non (nomark _)) (pv 17) pe_str) (nomark _)))))
    (pss_one (ps_ret pe_bl)) pss_nil, fun D σ H hM hq => ?_⟩
  obtain ⟨B, b, n, ws, l, ga, gs, hl, h2, h3, h5, h14, h16, h17, g, L, hbk, hll, h256, hga, hgl, hgn, hpp⟩ := hM
  have n1 := g.n1
  have n4 := g.n4
  have ti := told_iff g (l := l)
  refine ⟨L.tab, fun H1 hE1 hT1 => ?_⟩
  have L1 := L.ext hE1 hT1
  have hbk1 := plain_book hbk
  have hga1 : plainB B ga = some (.lst (gs.map sV)) := plainB_at hga
  generalize plainB B = B1 at L1 hbk1 hga1
  obtain ⟨dx, tw, ob, hb, _, _⟩ := id (Le.book L1.le hbk1)
  have exm := C.t.x_CodeError_CodeError
  have post : ∀ B' H', Lw K p0 d B' H' → D.nx σ H' := fun B' H1 L' => hq _ _ ⟨B', hl, h2, L'⟩
  rcases hpp with ⟨hbad, h15⟩ | ⟨hok, ⟨pa, h15⟩, rfl⟩
  · have hnt : ¬ toldOk ws l := fun z => ti.mp z hbad
    refine ⟨_, h5, b, dx, _, rfl, hb, rfl, _, h14, b, n, ws, l, rfl, Le.book L1.le hbk1, hT1, by omega, by omega, h256, fun z => absurd z hnt, fun _ H2 L2 => ?_⟩
    refine ⟨true, exm, fun _ => ?_, fun z => by cases z⟩
    refine ⟨_, h15, rfl, _, rfl, ?_⟩
    refine iteF ⟨.str "CodeError", .str "CodeError", .str _, .str _, by decide +kernel, by decide +kernel, _, rfl, ?_⟩
    rw [show PyData.eqv (.str "CodeError") (.str "CodeError") = true by decide +kernel]
    refine iteF ?_
    have M2 := L1.to L2
    refine ⟨M2.tab, fun H3 hE3 hT3 => ?_⟩
    have L3 := M2.ext hE3 hT3
    have hbk3 := plain_book hbk1
    generalize plainB B1 = B3 at L3 hbk3
    obtain ⟨dx3, tw3, ob3, hb3, _, _⟩ := id (Le.book L3.le hbk3)
    refine ⟨_, h5, b, dx3, _, rfl, hb3, rfl, _, h14, b, n, ws, l, rfl, Le.book L3.le hbk3, hT3, by omega, by omega, by omega, h256, fun z => absurd z hnt, fun _ H4 L4 => ?_⟩
    refine ⟨true, exm, fun _ => ?_, fun z => by cases z⟩
    refine ⟨_, h15, rfl, _, rfl, ?_⟩
    refine iteF ⟨rfl, _, rfl, ?_⟩
    exact iteNS rfl (post _ _ (L3.to L4))
  · have ht := ti.mpr hok
    refine ⟨_, h5, b, dx, _, rfl, hb, rfl, _, h14, b, n, ws, l, rfl, Le.book L1.le hbk1, hT1, by omega, by omega, h256, fun _ H2 p L2 hp => ?_, fun z => absurd ht z⟩
    have M2 := (L1.to L2).new (o := .tup ((toldOf ws n l).map sV)) hp
    have hp2 : upd H2 p (.tup ((toldOf ws n l).map sV)) p = some (.tup ((toldOf ws n l).map sV)) := upd_same
    generalize upd H2 p (.tup ((toldOf ws n l).map sV)) = H3 at M2 hp2
    refine ⟨_, h15, rfl, _, rfl, ?_⟩
    refine iteT ⟨_, h16, ga, _, rfl, .inl ⟨SqL.of (M2.le.at hga1), fun q hqn => ?_⟩⟩
    have M3 := M2.new (o := .tup ((toldOf ws n l).map sV)) hqn
    have hp3 : upd H3 q (.tup ((toldOf ws n l).map sV)) p = some (.tup (((toldOf ws n l).map S).map V.str)) := by rw [List.map_map]; exact (upd_ne (ne_of_none hp2 hqn)).trans hp2
    have hq3 : upd H3 q (.tup ((toldOf ws n l).map sV)) q = some (.tup (((toldOf ws n l).map S).map V.str)) := by rw [List.map_map]; exact upd_same
    generalize upd H3 q (.tup ((toldOf ws n l).map sV)) = H4 at M3 hp3 hq3
    have sh := shaped_codes (toldOf ws n l) (signs_small (n := n) (ws := ws) (l := l))
    refine ⟨_, _, .tup (SqT.of hp3) (DpAll.strs _), .tup (SqT.of hq3) (DpAll.strs _), sh, sh, _, rfl, ?_⟩
    rw [eqv_refl_strs]
    refine iteF ?_
    refine ⟨M3.tab, fun H5 hE5 hT5 => ?_⟩
    have L5 := M3.ext hE5 hT5
    have hbk5 := plain_book hbk1
    generalize plainB B1 = B5 at L5 hbk5
    obtain ⟨dx5, tw5, ob5, hb5, _, _⟩ := id (Le.book L5.le hbk5)
    refine ⟨_, h5, b, dx5, _, rfl, hb5, rfl, _, h14, b, n, ws, l, rfl, Le.book L5.le hbk5, hT5, by omega, by omega, by omega, h256, fun _ H6 L6 => ?_, fun z => absurd ht z⟩
    refine ⟨_, h15, rfl, _, rfl, ?_⟩
    refine iteT ⟨_, h17, rfl, _, rfl, ?_⟩
    exact iteNS rfl (post _ _ (L5.to L6))
end
end K1

-- text K1Li
set_option maxRecDepth 100000
set_option maxHeartbeats 4000000
namespace K1
open PySem PySem.Spec PyProof.Rows L2 LamX GX
section
variable {P : Program} {w : World} {K : PySem.W.Frag} {mg : Str → Option Value} {base : Heap}
variable {f : Addr} {cd : Value} {A : Around} {outer : List Env} {s : Shared} {H0 : Hp} {E : XK} {p0 d : Addr}
def M15 (K : PySem.W.Frag) (p0 d : Addr) (σ : _root_.L2.St) (H : Hp) : Prop := ∃ B p, σ.length = 35 ∧ At σ 2 (.ref d) ∧ At σ 10 (.str (S (bits p 4))) ∧ p < 16 ∧ Lw K p0 d B H
theorem st15 (C : Ctx K mg base) (hr : Room 9 (XL P w K mg base f cd A outer s H0 E).A) : Step (XL P w K mg base f cd A outer s H0 E) (ls 15) (M14 K p0 d) (M15 K p0 d) := by
  have nn := sc_law.nd
  refine ⟨_, ps_set (i := 10) nn rfl (by first | exact Or.inl rfl | exact Or.inr rfl) (pe_cx (ok_lsign (P := P) (w := w) C) hr (by decide) rfl passA (pa_cons (pe_cx (ok_roll (P := P) (w := w) C) hr (by decide) rfl passA (pa_cons (pv 2) (pa_cons pe_int pa_nil))) (pa_cons pe_int pa_nil))), fun D σ H hM hq => ?_⟩
  obtain ⟨B, hl, h2, L⟩ := hM
  obtain ⟨a0, a1, a2, a3, a4, a5, a6, a7, a8, a9, a10, a11, a12, a13, a14, a15, a16, a17, a18, a19, a20, a21, a22, a23, a24, a25, a26, a27, a28, a29, a30, a31, a32, a33, a34, rfl⟩ := ex35 hl
  cases h2
  obtain ⟨qx, qy, qz, qd⟩ := L.dice
  refine ⟨_, rfl, d, qx, qy, qz, _, rfl, qd, by omega, by omega, fun qx qy qz qr q0 q1 => ?_⟩
  obtain ⟨p, hp, rfl⟩ : ∃ k : Nat, k < 16 ∧ qr = (k : Int) := ⟨qr.toNat, by omega, by omega⟩
  have L1 := L.roll qx qy qz
  have samep : ∀ a, a ≠ d → upd H d (dV qx qy qz) a = H a := fun a n => upd_ne n
  generalize upd H d (dV qx qy qz) = H1 at L1 samep ⊢
  clear q0 q1 qd
  exact ⟨p, 4, rfl, by omega, hq _ _ ⟨B, p, rfl, rfl, rfl, hp, L1⟩⟩
def M16 (K : PySem.W.Frag) (p0 d : Addr) (σ : _root_.L2.St) (H : Hp) : Prop := ∃ B p, σ.length = 35 ∧ At σ 2 (.ref d) ∧ At σ 10 (.str (S (bits p 4))) ∧ At σ 18 (.int (bit (bits p 4) 0)) ∧ At σ 19 (.int (bit (bits p 4) 1)) ∧ At σ 20 (.int (bit (bits p 4) 2)) ∧ At σ 21 (.int (bit (bits p 4) 3)) ∧ p < 16 ∧ Lw K p0 d B H
theorem st16 (C : Ctx K mg base) (hr : Room 9 (XL P w K mg base f cd A outer s H0 E).A) : Step (XL P w K mg base f cd A outer s H0 E) (ls 16) (M15 K p0 d) (M16 K p0 d) := by
  have nn := sc_law.nd
  refine ⟨_, ps_asg (pe_lc (own := [("one", 13)]) (g := gName 13) rfl nn (pi_str (pv 10)) (blkOk_by (N := n_law) (sc := defScope s_law) (by decide +kernel))
          (fun _ _ _ _ _ => (pg_name (i := 13) nn rfl (by first | exact Or.inl rfl | exact Or.inr rfl))) (fun _ _ _ _ _ => pts_nil) (fun _ _ _ _ _ => pe_callTy call_int_str (by rfl) C.t.b_int (by decide +kernel) (pa_cons (pv 13) pa_nil)))
          (pg_unl (by rfl) (pgs_cons (pg_name (i := 18) nn rfl (by first | exact Or.inl rfl | exact Or.inr rfl)) (pgs_cons (pg_name (i := 19) nn rfl (by first | exact Or.inl rfl | exact Or.inr rfl)) (pgs_cons (pg_name (i := 20) nn rfl (by first | exact Or.inl rfl | exact Or.inr rfl)) (pgs_cons (pg_name (i := 21) nn rfl (by first | exact Or.inl rfl | exact Or.inr rfl)) pgs_nil))))), fun D σ H hM hq => ?_⟩
  obtain ⟨B, p, hl, h2, h10, hp, L⟩ := hM
  obtain ⟨a0, a1, a2, a3, a4, a5, a6, a7, a8, a9, a10, a11, a12, a13, a14, a15, a16, a17, a18, a19, a20, a21, a22, a23, a24, a25, a26, a27, a28, a29, a30, a31, a32, a33, a34, rfl⟩ := ex35 hl
  cases h2; cases h10
  refine ⟨_, rfl, _, rfl, fun D1 hD => ?_⟩
  have ha : okS (bits p 4) = true := okS_bits (by decide)
  refine lc_txtY (bits p 4) (fun i H' => Le (T K) H H' ∧ H' D1 = some (.lst (((bits p 4).take i).map bV))) ⟨(Le.refl L.tab).new hD, upd_same⟩ (fun i c H2 hc ⟨L2, h2⟩ => ?_) (fun H2 ⟨L2, h2⟩ => ?_) mono_name
  · refine ⟨rfl, ?_⟩
    refine ⟨_, rfl, _, _, rfl, int_bit (okS_all ha (List.mem_of_getElem? hc)), lenS_one, _, h2, ?_, L2.set hD h2, ?_⟩
    · rw [List.length_map, List.length_take]
      exact Nat.lt_of_le_of_lt (Nat.min_le_right _ _) (by rw [bits_len]; decide)
    · rw [upd_same, take_snoc hc, List.map_append]
      rfl
  · rw [List.take_of_length_le (Nat.le_refl _)] at h2
    exact ⟨D1, _, rfl, SqL.of h2, rfl, _, _, rfl, _, _, rfl, _, _, rfl, _, _, rfl, rfl, hq _ _ ⟨B, p, rfl, rfl, rfl, rfl, rfl, rfl, rfl, hp, L.to L2⟩⟩
def M17 (K : PySem.W.Frag) (p0 d : Addr) (σ : _root_.L2.St) (H : Hp) : Prop := ∃ B p, σ.length = 35 ∧ At σ 2 (.ref d) ∧ At σ 10 (.str (S (bits p 4))) ∧ At σ 22 (.str (S (grd (bits p 4)))) ∧ p < 16 ∧ Lw K p0 d B H
theorem st17 (C : Ctx K mg base) (hr : Room 9 (XL P w K mg base f cd A outer s H0 E).A) : Step (XL P w K mg base f cd A outer s H0 E) (ls 17) (M16 K p0 d) (M17 K p0 d) := by
  have nn := sc_law.nd
  refine ⟨_, ps_set (i := 22) nn rfl (by first | exact Or.inl rfl | exact Or.inr rfl) (pe_op op_add_str (pe_op op_add_str (pe_op op_add_str (pv 10)
        (pe_callTy call_str_int (by rfl) C.t.b_str (by decide +kernel) (pa_cons (pe_op op_mod (pe_op op_add (pe_op op_add (pv 18) (pv 19)) (pv 21)) pe_int) pa_nil)))
        (pe_callTy call_str_int (by rfl) C.t.b_str (by decide +kernel) (pa_cons (pe_op op_mod (pe_op op_add (pe_op op_add (pv 18) (pv 20)) (pv 21)) pe_int) pa_nil)))
        (pe_callTy call_str_int (by rfl) C.t.b_str (by decide +kernel) (pa_cons (pe_op op_mod (pe_op op_add (pe_op op_add (pv 19) (pv 20)) (pv 21)) pe_int) pa_nil))), fun D σ H hM hq => ?_⟩
  obtain ⟨B, p, hl, h2, h10, h18, h19, h20, h21, hp, L⟩ := hM
  obtain ⟨a0, a1, a2, a3, a4, a5, a6, a7, a8, a9, a10, a11, a12, a13, a14, a15, a16, a17, a18, a19, a20, a21, a22, a23, a24, a25, a26, a27, a28, a29, a30, a31, a32, a33, a34, rfl⟩ := ex35 hl
  cases h2; cases h10; cases h18; cases h19; cases h20; cases h21
  have bl : (bits p 4).length = 4 := bits_len _ _
  have t1 : Str.ofString (toString ((bit (bits p 4) 0 + bit (bits p 4) 1 + bit (bits p 4) 3) % 2)) = S [s3 (bit (bits p 4) 0) (bit (bits p 4) 1) (bit (bits p 4) 3)] := toS_bit (mod_bit _ _ _)
  have t2 : Str.ofString (toString ((bit (bits p 4) 0 + bit (bits p 4) 2 + bit (bits p 4) 3) % 2)) = S [s3 (bit (bits p 4) 0) (bit (bits p 4) 2) (bit (bits p 4) 3)] := toS_bit (mod_bit _ _ _)
  have t3 : Str.ofString (toString ((bit (bits p 4) 1 + bit (bits p 4) 2 + bit (bits p 4) 3) % 2)) = S [s3 (bit (bits p 4) 1) (bit (bits p 4) 2) (bit (bits p 4) 3)] := toS_bit (mod_bit _ _ _)
  have two : (0 : Int) < 2 := by decide
  refine ⟨_, rfl, _, rfl, _, rfl, _, _, rfl, rfl, _, rfl, _, _, rfl, rfl, _, _, rfl, rfl, two, _, rfl, log_bit (mod_bit _ _ _), _, _, rfl, rfl, ?_, ?_⟩
  · rw [t1, S_len, S_len, bl]
    exact Nat.le_trans (Nat.le_refl 5) (by decide)
  rw [t1, S_app]
  refine ⟨_, rfl, _, rfl, _, _, rfl, rfl, _, rfl, _, _, rfl, rfl, _, _, rfl, rfl, two, _, rfl, log_bit (mod_bit _ _ _), _, _, rfl, rfl, ?_, ?_⟩
  · rw [t2, S_len, S_len, List.length_append, bl]
    exact Nat.le_trans (Nat.le_refl 6) (by decide)
  rw [t2, S_app]
  refine ⟨_, rfl, _, rfl, _, _, rfl, rfl, _, rfl, _, _, rfl, rfl, _, _, rfl, rfl, two, _, rfl, log_bit (mod_bit _ _ _), _, _, rfl, rfl, ?_, ?_⟩
  · rw [t3, S_len, S_len, List.length_append, List.length_append, bl]
    exact Nat.le_trans (Nat.le_refl 7) (by decide)
  rw [t3, S_app]
  exact hq _ _ ⟨B, p, rfl, rfl, rfl, rfl, hp, L⟩
def M18 (K : PySem.W.Frag) (p0 d : Addr) (σ : _root_.L2.St) (H : Hp) : Prop := ∃ B p q, σ.length = 35 ∧ At σ 2 (.ref d) ∧ At σ 6 (.int (q : Nat)) ∧ At σ 10 (.str (S (bits p 4))) ∧ At σ 22 (.str (S (grd (bits p 4)))) ∧ p < 16 ∧ q < 8 ∧ Lw K p0 d B H
theorem st18 (C : Ctx K mg base) (hr : Room 9 (XL P w K mg base f cd A outer s H0 E).A) : Step (XL P w K mg base f cd A outer s H0 E) (ls 18) (M17 K p0 d) (M18 K p0 d) := by
  have nn := sc_law.nd
  refine ⟨_, ps_set (i := 6) nn rfl (by first | exact Or.inl rfl | exact Or.inr rfl) (pe_cx (ok_roll (P := P) (w := w) C) hr (by decide) rfl passA (pa_cons (pv 2) (pa_cons pe_int pa_nil))), fun D σ H hM hq => ?_⟩
  obtain ⟨B, p, hl, h2, h10, h22, hp, L⟩ := hM
  obtain ⟨a0, a1, a2, a3, a4, a5, a6, a7, a8, a9, a10, a11, a12, a13, a14, a15, a16, a17, a18, a19, a20, a21, a22, a23, a24, a25, a26, a27, a28, a29, a30, a31, a32, a33, a34, rfl⟩ := ex35 hl
  cases h2; cases h10; cases h22
  obtain ⟨qx, qy, qz, qd⟩ := L.dice
  refine ⟨_, rfl, d, qx, qy, qz, _, rfl, qd, by omega, by omega, fun qx qy qz qr q0 q1 => ?_⟩
  obtain ⟨k, hk, rfl⟩ : ∃ k : Nat, k < 8 ∧ qr = (k : Int) := ⟨qr.toNat, by omega, by omega⟩
  have L1 := L.roll qx qy qz
  have samek : ∀ a, a ≠ d → upd H d (dV qx qy qz) a = H a := fun a n => upd_ne n
  generalize upd H d (dV qx qy qz) = H1 at L1 samek ⊢
  clear q0 q1 qd
  exact hq _ _ ⟨B, p, k, rfl, rfl, rfl, rfl, rfl, hp, hk, L1⟩
def M19 (K : PySem.W.Frag) (p0 d : Addr) (σ : _root_.L2.St) (H : Hp) : Prop := ∃ B p q, σ.length = 35 ∧ At σ 2 (.ref d) ∧ At σ 6 (.int (q : Nat)) ∧ At σ 10 (.str (S (bits p 4))) ∧ At σ 22 (.str (S (grd (bits p 4)))) ∧ At σ 23 (.str (S (wrongAt p q))) ∧ p < 16 ∧ q < 8 ∧ Lw K p0 d B H
theorem grd_len : ∀ p, p < 16 → (grd (bits p 4)).length = 7 ∧ okS (grd (bits p 4)) = true := by decide +kernel
theorem st19 (C : Ctx K mg base) (hr : Room 9 (XL P w K mg base f cd A outer s H0 E).A) : Step (XL P w K mg base f cd A outer s H0 E) (ls 19) (M18 K p0 d) (M19 K p0 d) := by
  have nn := sc_law.nd
  refine ⟨_, ps_set (i := 23) nn rfl (by first | exact Or.inl rfl | exact Or.inr rfl) (pe_ifExp (pt_cmpR op_eq (pv 6) pe_int (nomark _)) (pv 22)
          (pe_op op_add_str (pe_op op_add_str (pe_slice sl_str (pv 22) po_none (po_some (pv 6)))
            (pe_callTy call_str_int (by rfl) C.t.b_str (by decide +kernel) (pa_cons (pe_op op_sub pe_int (pe_callTy call_int_str (by rfl) C.t.b_int (by decide +kernel) (pa_cons (pe_ix ix_str (pv 22) (pv 6) (fun _ _ => rfl)) pa_nil))) pa_nil)))
            (pe_slice sl_str (pv 22) (po_some (pe_op op_add (pv 6) pe_int)) po_none))), fun D σ H hM hq => ?_⟩
  obtain ⟨B, p, k, hl, h2, h6, h10, h22, hp, hk, L⟩ := hM
  obtain ⟨a0, a1, a2, a3, a4, a5, a6, a7, a8, a9, a10, a11, a12, a13, a14, a15, a16, a17, a18, a19, a20, a21, a22, a23, a24, a25, a26, a27, a28, a29, a30, a31, a32, a33, a34, rfl⟩ := ex35 hl
  cases h2; cases h6; cases h10; cases h22
  obtain ⟨l7, lok⟩ := grd_len p hp
  have fin : D.nx _ H := hq (a0 :: a1 :: some (.ref d) :: a3 :: a4 :: a5 :: some (.int (k : Nat)) :: a7 :: a8 :: a9 :: some (.str (S (bits p 4))) :: a11 :: a12 :: a13 :: a14 :: a15 :: a16 :: a17 :: a18 :: a19 :: a20 :: a21 :: some (.str (S (grd (bits p 4)))) :: some (.str (S (wrongAt p k))) :: a24 :: a25 :: a26 :: a27 :: a28 :: a29 :: a30 :: a31 :: a32 :: a33 :: a34 :: []) H ⟨B, p, k, rfl, rfl, rfl, rfl, rfl, rfl, hp, hk, L⟩
  unfold wrongAt qO at fin
  generalize grd (bits p 4) = l at l7 lok fin
  refine ⟨_, rfl, rfl, _, rfl, ?_⟩
  by_cases h7 : k = 7
  · rw [decide_eq_true (show V.int ((k : Nat) : Int) = V.int 7 by rw [h7]; rfl)]
    rw [if_pos h7] at fin
    exact iteT ⟨_, rfl, fin⟩
  · rw [decide_eq_false (show ¬ V.int ((k : Nat) : Int) = V.int 7 from fun z => h7 (by injection z with z; omega))]
    rw [if_neg h7] at fin
    refine iteF ?_
    have hk7 : k < 7 := by omega
    have hc : l[k]? = some (l.getD k 0) := by rw [List.getD_eq_getElem?_getD, List.getElem?_eq_getElem (by omega)]; rfl
    have hb := okS_all lok (List.mem_of_getElem? hc)
    have e : Str.ofString (toString (1 - (((l.getD k 0 : Nat) : Int) - 48))) = S [97 - l.getD k 0] := by
      rw [toS_bit (by omega : 1 - (((l.getD k 0 : Nat) : Int) - 48) = 0 ∨ 1 - (((l.getD k 0 : Nat) : Int) - 48) = 1)]
      congr 2
      omega
    have hls : l.length ≤ 1000 := by omega
    refine ⟨_, rfl, _, rfl, _, rfl, _, rfl, lenS_le hls (by decide), ?_⟩
    rw [cut_lo]
    refine ⟨_, rfl, _, rfl, _, _, _, rfl, rfl, lenS_le hls (by decide), atS hc, _, _, rfl, int_bit hb, lenS_one, _, _, rfl, rfl, _, rfl, log_bit (by omega), _, _, rfl, rfl, ?_, ?_⟩
    · rw [e, S_len, S_len]
      exact Nat.le_trans (Nat.add_le_add_right (List.length_take_le _ _) 1) (Nat.le_trans (show k + 1 ≤ 8 by omega) (by decide))
    rw [e, S_app]
    refine ⟨_, rfl, _, rfl, _, _, rfl, rfl, _, rfl, _, rfl, lenS_le hls (by decide), ?_⟩
    rw [show ((k : Nat) : Int) + 1 = ((k + 1 : Nat) : Int) by omega, cut_hi]
    refine ⟨_, _, rfl, rfl, ?_, ?_⟩
    · rw [S_len, S_len, List.length_append, List.length_take, List.length_drop, List.length_singleton]
      exact Nat.le_trans (show _ ≤ 16 by omega) (by decide)
    rw [S_app]
    exact fin
end
end K1

-- text K1Lj
set_option maxRecDepth 100000
set_option maxHeartbeats 4000000
namespace K1
open PySem PySem.Spec PyProof.Rows L2 LamX GX
section
variable {P : Program} {w : World} {K : PySem.W.Frag} {mg : Str → Option Value} {base : Heap}
variable {f : Addr} {cd : Value} {A : Around} {outer : List Env} {s : Shared} {H0 : Hp} {E : XK} {p0 d : Addr}
def M20 (K : PySem.W.Frag) (p0 d : Addr) (σ : _root_.L2.St) (H : Hp) : Prop := ∃ B p, σ.length = 35 ∧ At σ 2 (.ref d) ∧ At σ 10 (.str (S (bits p 4))) ∧ p < 16 ∧ Lw K p0 d B H
def oD : Option Nat → PyData
  | none => .none
  | some k => .int (k : Int)
theorem wrong_len : ∀ p, p < 16 → ∀ q, q < 8 → (wrongAt p q).length = 7 := by decide +kernel
theorem dp_o {H : Hp} (o : Option Nat) : Dp K H (oV o) (oD o) := by
  cases o with
  | none => exact .non
  | some k => exact .int _
theorem lay_o (o : Option Nat) : (oD o).canLay0 = true ∧ (oD o).depth = 0 := by cases o <;> exact ⟨rfl, rfl⟩
theorem ok_bits4 : ∀ p, p < 16 → ∀ c ∈ bits p 4, c < 256 := by decide +kernel
theorem st20 (C : Ctx K mg base) (hr : Room 9 (XL P w K mg base f cd A outer s H0 E).A) : Step (XL P w K mg base f cd A outer s H0 E) (ls 20) (M19 K p0 d) (M20 K p0 d) := by
  have nn := sc_law.nd
  refine ⟨_, ps_if (PW.pt (pw_or (pt_cmpR op_ne (pe_cx (ok_guard (P := P) (w := w) C) hr (by decide) rfl passA (pa_cons (pv 10) pa_nil)) (pv 22) (nomark _))
    (pw_or (pt_cmpR (op_neD hr.units) (pe_cx (ok_mend (P := P) (w := w) C) hr (by decide) rfl passA (pa_cons (pv 23) pa_nil)) (pe_tup (pa_cons (pv 10) (pa_cons (pe_ifExp (pt_cmpR op_lt (pv 6) pe_int (nomark _)) (pv 6) pe_non) pa_nil))) (nomark _))
    (pw_or1 (pt_cmpR op_notN (pe_cx (ok_check (P := P) (w := w) C) hr (by decide) rfl passA (pa_cons (pv 10) pa_nil)) pe_non (nomark _))))))
    (pss_one (ps_ret pe_bl)) pss_nil, fun D σ H hM hq => ?_⟩
  obtain ⟨B, p, k, hl, h2, h6, h10, h22, h23, hp, hk, L⟩ := hM
  obtain ⟨e1, e2, e3⟩ := ham p hp k hk
  have wl := wrong_len p hp k hk
  have b4 : (bits p 4).length = 4 := bits_len _ _
  refine ⟨_, h10, bits p 4, rfl, L.tab, by omega, fun _ H1 L1 => ?_, fun z => by rw [grd_ok p hp] at z; cases z⟩
  refine ⟨_, h22, rfl, _, rfl, ?_⟩
  refine iteNS rfl ?_
  have M1 := L.to L1
  refine ⟨_, h23, wrongAt p k, rfl, M1.tab, by omega, fun _ o ho H2 t L2 ht => ?_, (fun _ z => by rw [e2] at z; cases z), fun z => by rw [e1] at z; cases z⟩
  rw [e2] at ho
  cases ho
  rw [e3]
  have M2 := (M1.to L2).new (o := .tup [.str (S (bits p 4)), oV (qO k)]) ht
  have ht2 : upd H2 t (.tup [.str (S (bits p 4)), oV (qO k)]) t = some (.tup [.str (S (bits p 4)), oV (qO k)]) := upd_same
  generalize upd H2 t (.tup [.str (S (bits p 4)), oV (qO k)]) = H3 at M2 ht2
  have sc : (PyData.tuple [.str (S (bits p 4)), oD (qO k)]).canLay0 = true ∧ (PyData.tuple [.str (S (bits p 4)), oD (qO k)]).depth ≤ 1 := lay_tuple (n := 0) fun x hx => by
    rcases List.mem_cons.mp hx with rfl | hx
    · exact ⟨okT_small (ok_bits4 p hp), Nat.le_refl _⟩
    · rw [List.mem_singleton.mp hx]
      exact ⟨(lay_o _).1, Nat.le_of_eq (lay_o _).2⟩
  have sh : SeqAt.shaped (.tuple [.str (S (bits p 4)), oD (qO k)]) = true := shaped_of sc (by decide)
  refine ⟨_, h10, _, h6, _, _, rfl, rfl, _, rfl, ?_⟩
  by_cases h7 : k = 7
  · rw [decide_eq_false (show ¬ ((k : Nat) : Int) < 7 by omega)]
    have eo : V.non = oV (qO k) := by unfold qO; rw [if_pos h7]; rfl
    refine iteF ?_
    refine ⟨by show 2 ≤ sizeLine; decide, fun u hu => ?_⟩
    have hne : t ≠ u := ne_of_none ht2 hu
    refine ⟨.tuple [.str (S (bits p 4)), oD (qO k)], .tuple [.str (S (bits p 4)), oD (qO k)], .tup (SqT.of ((upd_ne hne).trans ht2)) (.cons (.str _) (.cons (dp_o _) .nil)), .tup (SqT.of upd_same) (.cons (.str _) (.cons (by rw [eo]; exact dp_o _) .nil)), sh, sh, _, rfl, ?_⟩
    rw [PySem.SeqAt.eqv_refl _ sc.1]
    refine iteF ?_
    have M3 := M2.new (o := .tup [.str (S (bits p 4)), V.non]) hu
    refine ⟨_, h10, bits p 4, rfl, M3.tab, fun _ H5 L5 => ?_, fun z => by rw [okS_bits (by decide)] at z; cases z⟩
    refine ⟨rfl, _, rfl, ?_⟩
    exact iteF (hq _ _ ⟨B, p, hl, h2, h10, hp, M3.to L5⟩)
  · rw [decide_eq_true (show ((k : Nat) : Int) < 7 by omega)]
    have eo : V.int ((k : Nat) : Int) = oV (qO k) := by unfold qO; rw [if_neg h7]; rfl
    refine iteT ⟨_, h6, ?_⟩
    refine ⟨by show 2 ≤ sizeLine; decide, fun u hu => ?_⟩
    have hne : t ≠ u := ne_of_none ht2 hu
    refine ⟨.tuple [.str (S (bits p 4)), oD (qO k)], .tuple [.str (S (bits p 4)), oD (qO k)], .tup (SqT.of ((upd_ne hne).trans ht2)) (.cons (.str _) (.cons (dp_o _) .nil)), .tup (SqT.of upd_same) (.cons (.str _) (.cons (by rw [eo]; exact dp_o _) .nil)), sh, sh, _, rfl, ?_⟩
    rw [PySem.SeqAt.eqv_refl _ sc.1]
    refine iteF ?_
    have M3 := M2.new (o := .tup [.str (S (bits p 4)), V.int ((k : Nat) : Int)]) hu
    refine ⟨_, h10, bits p 4, rfl, M3.tab, fun _ H5 L5 => ?_, fun z => by rw [okS_bits (by decide)] at z; cases z⟩
    refine ⟨rfl, _, rfl, ?_⟩
    exact iteF (hq _ _ ⟨B, p, hl, h2, h10, hp, M3.to L5⟩)
def M21 (K : PySem.W.Frag) (p0 d : Addr) (σ : _root_.L2.St) (H : Hp) : Prop := ∃ B p m, σ.length = 35 ∧ At σ 2 (.ref d) ∧ At σ 10 (.str (S (bits p 4))) ∧ At σ 24 (.str (S (bits m 6))) ∧ p < 16 ∧ m < 64 ∧ Lw K p0 d B H
theorem st21 (C : Ctx K mg base) (hr : Room 9 (XL P w K mg base f cd A outer s H0 E).A) : Step (XL P w K mg base f cd A outer s H0 E) (ls 21) (M20 K p0 d) (M21 K p0 d) := by
  have nn := sc_law.nd
  refine ⟨_, ps_set (i := 24) nn rfl (by first | exact Or.inl rfl | exact Or.inr rfl) (pe_cx (ok_lsign (P := P) (w := w) C) hr (by decide) rfl passA (pa_cons (pe_cx (ok_roll (P := P) (w := w) C) hr (by decide) rfl passA (pa_cons (pv 2) (pa_cons pe_int pa_nil))) (pa_cons pe_int pa_nil))), fun D σ H hM hq => ?_⟩
  obtain ⟨B, p, hl, h2, h10, hp, L⟩ := hM
  obtain ⟨a0, a1, a2, a3, a4, a5, a6, a7, a8, a9, a10, a11, a12, a13, a14, a15, a16, a17, a18, a19, a20, a21, a22, a23, a24, a25, a26, a27, a28, a29, a30, a31, a32, a33, a34, rfl⟩ := ex35 hl
  cases h2; cases h10
  obtain ⟨qx, qy, qz, qd⟩ := L.dice
  refine ⟨_, rfl, d, qx, qy, qz, _, rfl, qd, by omega, by omega, fun qx qy qz qr q0 q1 => ?_⟩
  obtain ⟨m, hm, rfl⟩ : ∃ k : Nat, k < 64 ∧ qr = (k : Int) := ⟨qr.toNat, by omega, by omega⟩
  have L1 := L.roll qx qy qz
  have samem : ∀ a, a ≠ d → upd H d (dV qx qy qz) a = H a := fun a n => upd_ne n
  generalize upd H d (dV qx qy qz) = H1 at L1 samem ⊢
  clear q0 q1 qd
  exact ⟨m, 6, rfl, by omega, hq _ _ ⟨B, p, m, rfl, rfl, rfl, rfl, hp, hm, L1⟩⟩
theorem far_ok : ∀ p, p < 16 → ∀ m, m < 64 → farOk (bits m 6) (bits p 4 ++ [48, 48]) = true := by decide +kernel
theorem ok6 : ∀ m, m < 64 → okS (bits m 6) = true ∧ okS (bits m 6 ++ [48 + (par (bits m 6)).toNat]) = true ∧ (bits m 6).length = 6 := by decide +kernel
theorem st22 (C : Ctx K mg base) (hr : Room 9 (XL P w K mg base f cd A outer s H0 E).A) : Step (XL P w K mg base f cd A outer s H0 E) (ls 22) (M21 K p0 d) (M14 K p0 d) := by
  have nn := sc_law.nd
  refine ⟨_, ps_if (PW.pt (pw_or (pt_cmpR op_ne (pe_cx (ok_with (P := P) (w := w) C) hr (by decide) rfl passA (pa_cons (pv 24) pa_nil)) (pe_op op_add_str (pv 24) (pe_callTy call_str_int (by rfl) C.t.b_str (by decide +kernel) (pa_cons (pe_op op_mod (pe_m1 PySem.F.slot_str_count PySem.F.type_str_count mt_count (pv 24) pe_str) pe_int) pa_nil))) (nomark _))
    (pw_or (pt_cmpR op_ne (pe_cx (ok_whole (P := P) (w := w) C) hr (by decide) rfl passA (pa_cons (pv 24) pa_nil)) (pe_cmpR op_eq (pe_op op_mod (pe_m1 PySem.F.slot_str_count PySem.F.type_str_count mt_count (pv 24) pe_str) pe_int) pe_int (nomark _)) (nomark _))
    (pw_or (pt_not (pt_val (pe_cx (ok_whole (P := P) (w := w) C) hr (by decide) rfl passA (pa_cons (pe_cx (ok_with (P := P) (w := w) C) hr (by decide) rfl passA (pa_cons (pv 24) pa_nil)) pa_nil))))
    (pw_or1 (pt_cmpR op_ne (pe_cx (ok_far (P := P) (w := w) C) hr (by decide) rfl passA (pa_cons (pv 24) (pa_cons (pe_op op_add_str (pv 10) pe_str) pa_nil))) (pe_dist (K := K) (ta := tCons (tVar 24) (tCons (tOp rAddS (tVar 10) (tC (.str "00"))) tNil)) rfl nn rfl rfl rfl (by rfl) C.t.b_len (by rfl) C.t.b_zip (blkOk_by (N := n_law) (sc := defScope s_law) (by decide +kernel)) rfl rfl (pa_cons (pv 24) (pa_cons (pe_op op_add_str (pv 10) pe_str) pa_nil)) (fun σ H P P' m ⟨v, e1, w, e2, i, j, e3, e4, e5, h⟩ => ⟨v, e1, w, e2, i, j, e3, e4, e5, m _ _ h⟩) rfl rfl) (nomark _)))))))
    (pss_one (ps_ret pe_bl)) pss_nil, fun D σ H hM hq => ?_⟩
  obtain ⟨B, p, m, hl, h2, h10, h24, hp, hm, L⟩ := hM
  obtain ⟨k1, k2, k3⟩ := ok6 m hm
  have two : (0 : Int) < 2 := by decide
  have e : Str.ofString (toString (Txt.count (S (bits m 6)) "1" % 2)) = S [48 + (par (bits m 6)).toNat] := toS_bit (par_bit _)
  refine ⟨_, h24, bits m 6, rfl, L.tab, by omega, fun _ H1 L1 => ?_, fun z => by rw [k1] at z; cases z⟩
  refine ⟨_, h24, _, h24, ⟨_, rfl⟩, _, _, rfl, rfl, _, _, rfl, rfl, two, _, rfl, log_bit (par_bit _), _, _, rfl, rfl, ?_, ?_⟩
  · rw [e, S_len, S_len, k3]
    exact Nat.le_trans (Nat.le_refl 7) (by decide)
  rw [e, S_app]
  refine ⟨rfl, _, rfl, ?_⟩
  refine iteNS rfl ?_
  have M1 := L.to L1
  refine ⟨_, h24, bits m 6, rfl, M1.tab, fun _ H2 L2 => ?_, fun z => by rw [k1] at z; cases z⟩
  refine ⟨_, h24, ⟨_, rfl⟩, _, _, rfl, rfl, _, _, rfl, rfl, two, rfl, rfl, _, rfl, ?_⟩
  have e2 : decide (V.int (Txt.count (S (bits m 6)) "1" % 2) = V.int 0) = decide (par (bits m 6) = 0) := decide_eq_decide.mpr ⟨fun z => V.int.inj z, fun z => congrArg V.int z⟩
  refine iteNS (congrArg V.bl e2.symm) ?_
  have M2 := M1.to L2
  refine ⟨_, h24, bits m 6, rfl, M2.tab, by omega, fun _ H3 L3 => ?_, fun z => by rw [k1] at z; cases z⟩
  have M3 := M2.to L3
  refine ⟨bits m 6 ++ [48 + (par (bits m 6)).toNat], rfl, M3.tab, fun _ H4 L4 => ?_, fun z => by rw [k2] at z; cases z⟩
  rw [par_even m hm]
  refine ⟨_, rfl, iteF ?_⟩
  have M4 := M3.to L4
  have b4 : (bits p 4).length = 4 := bits_len _ _
  have e00 : ("00" : Str) = S [48, 48] := by decide +kernel
  have hadd : (S (bits p 4)).length + ("00" : Str).length ≤ sizeLine := by
    rw [e00, S_len, S_len, b4]
    exact Nat.le_trans (Nat.le_refl 6) (by decide)
  refine ⟨_, h24, _, h10, _, _, rfl, rfl, hadd, ?_⟩
  rw [e00, S_app]
  refine ⟨bits m 6, bits p 4 ++ [48, 48], rfl, M4.tab, by omega, by rw [List.length_append, b4]; decide, fun _ H5 L5 => ?_, fun z => by rw [far_ok p hp m hm] at z; cases z⟩
  have M5 := M4.to L5
  refine ⟨hl, _, h24, _, h10, _, _, rfl, rfl, hadd, bits m 6, bits p 4 ++ [48, 48], ?_, by omega, M5.tab, fun H6 L6 => ?_⟩
  · rw [S_app]
  · refine ⟨rfl, _, rfl, ?_⟩
    exact iteNS rfl (hq _ _ ⟨B, hl, h2, M5.to L6⟩)
end
end K1

-- text K1U
set_option maxRecDepth 100000
set_option maxHeartbeats 1000000
namespace K1
open PySem PySem.Spec PyProof.Rows L2 LamX GX
/-! the least of small lists -/
theorem perm2 {x y : Int} {l : List Int} (h : l.Perm [x, y]) : l = [x, y] ∨ l = [y, x] := by
  match l, h.length_eq with
  | [a, b], _ =>
    have h1 : a ∈ [x, y] := h.mem_iff.mp List.mem_cons_self
    rcases List.mem_cons.mp h1 with rfl | h1
    · have := List.perm_singleton.mp ((List.perm_cons _).mp h)
      rw [this]; exact .inl rfl
    · have e := List.mem_singleton.mp h1
      subst e
      have h2 : [a, b].Perm [a, x] := h.trans (List.Perm.swap _ _ _)
      have := List.perm_singleton.mp ((List.perm_cons _).mp h2)
      rw [this]; exact .inr rfl
theorem sortI_perm (l : List Int) : (sortI l).Perm l := List.mergeSort_perm _ _
theorem least1 (x y : Int) : leastF 1 [x, y] = x + y := by
  show (minO [x + y + leastF 0 (sortI [x + y])]).getD 0 = x + y
  show x + y + 0 = x + y
  omega
theorem least1s (x y : Int) : leastF 1 (sortI [x, y]) = x + y := by
  rcases perm2 (sortI_perm [x, y]) with e | e <;> rw [e, least1]
  omega
theorem allV3 (f : List Int → Int) (x y z : Int) : allV f [x, y, z] 3 = [x + y + f (sortI [z, x + y]), x + z + f (sortI [y, x + z]), y + z + f (sortI [x, y + z])] := rfl
theorem least2 (x y z : Int) : leastF 2 [x, y, z] = 2 * (x + y + z) - max x (max y z) := by
  show (minO (allV (leastF 1) [x, y, z] 3)).getD 0 = _
  rw [allV3, least1s, least1s, least1s]
  simp only [minO, lower, List.foldl, Option.getD_some]
  split <;> split <;> omega
theorem perm3 {x y z : Int} {l : List Int} (h : l.Perm [x, y, z]) : l = [x, y, z] ∨ l = [x, z, y] ∨ l = [y, x, z] ∨ l = [y, z, x] ∨ l = [z, x, y] ∨ l = [z, y, x] := by
  match l, h.length_eq with
  | [a, b, c], _ =>
    have h1 : a ∈ [x, y, z] := h.mem_iff.mp List.mem_cons_self
    simp only [List.mem_cons, List.not_mem_nil, or_false] at h1
    rcases h1 with rfl | rfl | rfl
    · rcases perm2 ((List.perm_cons _).mp h) with e | e <;> rw [e] <;> simp
    · have h2 : [a, b, c].Perm [a, x, z] := h.trans (List.Perm.swap _ _ _)
      rcases perm2 ((List.perm_cons _).mp h2) with e | e <;> rw [e] <;> simp
    · have h2 : [a, b, c].Perm [a, x, y] := h.trans (((List.Perm.swap a y []).cons x).trans (List.Perm.swap a x [y]))
      rcases perm2 ((List.perm_cons _).mp h2) with e | e <;> rw [e] <;> simp
theorem least2s (x y z : Int) : leastF 2 (sortI [x, y, z]) = 2 * (x + y + z) - max x (max y z) := by
  rcases perm3 (sortI_perm [x, y, z]) with e | e | e | e | e | e <;> rw [e, least2] <;> omega
theorem allV4 (f : List Int → Int) (a b c d : Int) : allV f [a, b, c, d] 4 = [a + b + f (sortI [c, d, a + b]), a + c + f (sortI [b, d, a + c]), a + d + f (sortI [b, c, a + d]), b + c + f (sortI [a, d, b + c]), b + d + f (sortI [a, c, b + d]), c + d + f (sortI [a, b, c + d])] := rfl
theorem minO_le : ∀ (l : List Int) (b : Option Int), l ≠ [] ∨ b ≠ none → ∃ m, l.foldl lower b = some m ∧ (m ∈ l ∨ b = some m) ∧ (∀ x ∈ l, m ≤ x) ∧ ∀ y, b = some y → m ≤ y
  | [], b, h => by
    cases b with
    | none => rcases h with h | h <;> exact absurd rfl h
    | some y => exact ⟨y, rfl, .inr rfl, (fun x hx => by (cases hx)), fun z hz => by (cases hz; exact Int.le_refl _)⟩
  | x :: r, b, h => by
    obtain ⟨m, h1, h2, h3, h4⟩ := minO_le r (lower b x) (.inr (by cases b <;> simp [lower]))
    refine ⟨m, h1, ?_, fun y hy => ?_, fun y hy => ?_⟩
    · rcases h2 with h2 | h2
      · exact .inl (List.mem_cons_of_mem _ h2)
      · cases b with
        | none =>
          have : x = m := Option.some.inj h2
          exact .inl (by rw [this]; exact List.mem_cons_self)
        | some y =>
          have h2 : (if x < y then x else y) = m := Option.some.inj h2
          by_cases hxy : x < y
          · rw [if_pos hxy] at h2; exact .inl (by rw [h2]; exact List.mem_cons_self)
          · rw [if_neg hxy] at h2; exact .inr (by rw [h2])
    · rcases List.mem_cons.mp hy with rfl | hy
      · cases b with
        | none => exact h4 y rfl
        | some z =>
          have := h4 _ rfl
          by_cases hyz : y < z
          · rw [if_pos hyz] at this; exact this
          · rw [if_neg hyz] at this; omega
      · exact h3 y hy
    · subst hy
      have := h4 _ rfl
      by_cases hxy : x < y
      · rw [if_pos hxy] at this; omega
      · rw [if_neg hxy] at this; exact this
/-- the least of a list: one of it, none below -/
theorem minO_is {l : List Int} (h : l ≠ []) {v : Int} (hv : v ∈ l) (hmin : ∀ x ∈ l, v ≤ x) : (minO l).getD 0 = v := by
  obtain ⟨m, h1, h2, h3, _⟩ := minO_le l none (.inl h)
  unfold minO
  rw [h1]
  have hm : m ∈ l := h2.resolve_right (by simp)
  have := h3 v hv
  have := hmin m hm
  show m = v
  omega
theorem perm4 {w x y z : Int} {l : List Int} (h : l.Perm [w, x, y, z]) : ∃ a b c d, l = [a, b, c, d] ∧ ((a = w ∧ [b, c, d].Perm [x, y, z]) ∨ (a = x ∧ [b, c, d].Perm [w, y, z]) ∨ (a = y ∧ [b, c, d].Perm [w, x, z]) ∨ (a = z ∧ [b, c, d].Perm [w, x, y])) := by
  match l, h.length_eq with
  | [a, b, c, d], _ =>
    refine ⟨a, b, c, d, rfl, ?_⟩
    have h1 : a ∈ [w, x, y, z] := h.mem_iff.mp List.mem_cons_self
    simp only [List.mem_cons, List.not_mem_nil, or_false] at h1
    rcases h1 with rfl | rfl | rfl | rfl
    · exact .inl ⟨rfl, (List.perm_cons _).mp h⟩
    · exact .inr (.inl ⟨rfl, (List.perm_cons _).mp (h.trans (List.Perm.swap _ _ _))⟩)
    · exact .inr (.inr (.inl ⟨rfl, (List.perm_cons _).mp (h.trans (((List.Perm.swap a x [z]).cons w).trans (List.Perm.swap a w [x, z])))⟩))
    · exact .inr (.inr (.inr ⟨rfl, (List.perm_cons _).mp (h.trans ((((List.Perm.swap a y []).cons x).cons w).trans (((List.Perm.swap a x [y]).cons w).trans (List.Perm.swap a w [x, y]))))⟩))
/-- four, rising -/
theorem least3 {a b c d : Int} (h1 : a ≤ b) (h2 : b ≤ c) (h3 : c ≤ d) : leastF 3 [a, b, c, d] = (a + b) + 2 * (a + b + c + d) - max (a + b) d := by
  show (minO (allV (leastF 2) [a, b, c, d] 4)).getD 0 = _
  rw [allV4]
  simp only [least2s]
  refine minO_is (by simp) (List.mem_cons.mpr (.inl (by omega))) fun x hx => ?_
  simp only [List.mem_cons, List.not_mem_nil, or_false] at hx
  rcases hx with rfl | rfl | rfl | rfl | rfl | rfl <;> omega
end K1

-- text K1W
set_option maxRecDepth 100000
set_option maxHeartbeats 1000000
namespace K1
open PySem PySem.Spec PyProof.Rows L2 LamX GX
theorem sortI_eq {l m : List Int} (p : m.Perm l) (h : m.Pairwise (· ≤ ·)) : sortI l = m := by
  refine ints_uniq ?_ h ((sortI_perm l).trans p.symm)
  have := List.pairwise_mergeSort (le := fun a b : Int => decide (a ≤ b)) (fun a b c h1 h2 => by simp at h1 h2 ⊢; omega) (fun a b => by simp; omega) l
  exact this.imp fun h => by simpa using h
/-- three rising ones and one more -/
theorem ins4 {r1 r2 r3 v : Int} (h1 : r1 ≤ r2) (h2 : r2 ≤ r3) : leastF 3 (sortI [r1, r2, r3, v]) = r1 + min v r2 + 2 * (r1 + r2 + r3 + v) - max (r1 + min v r2) (max r3 v) := by
  by_cases a1 : v ≤ r1
  · rw [sortI_eq (l := [r1, r2, r3, v]) (m := [v, r1, r2, r3]) (List.perm_append_comm (l₁ := [v]) (l₂ := [r1, r2, r3])) (by simp; omega), least3 a1 h1 h2]; omega
  by_cases a2 : v ≤ r2
  · rw [sortI_eq (l := [r1, r2, r3, v]) (m := [r1, v, r2, r3]) ((List.perm_append_comm (l₁ := [v]) (l₂ := [r2, r3])).cons r1) (by simp; omega), least3 (by omega) a2 h2]; omega
  by_cases a3 : v ≤ r3
  · rw [sortI_eq (l := [r1, r2, r3, v]) (m := [r1, r2, v, r3]) (((List.perm_append_comm (l₁ := [v]) (l₂ := [r3])).cons r2).cons r1) (by simp; omega), least3 h1 (by omega) a3]; omega
  · rw [sortI_eq (l := [r1, r2, r3, v]) (m := [r1, r2, r3, v]) (List.Perm.refl _) (by simp; omega), least3 h1 h2 (by omega)]; omega
end K1

-- text K1X
set_option maxRecDepth 100000
set_option maxHeartbeats 2000000
namespace K1
open PySem PySem.Spec PyProof.Rows L2 LamX GX
theorem allV5 (f : List Int → Int) (a b c d e : Int) : allV f [a, b, c, d, e] 5 = [a + b + f (sortI [c, d, e, a + b]), a + c + f (sortI [b, d, e, a + c]), a + d + f (sortI [b, c, e, a + d]), a + e + f (sortI [b, c, d, a + e]), b + c + f (sortI [a, d, e, b + c]), b + d + f (sortI [a, c, e, b + d]), b + e + f (sortI [a, c, d, b + e]), c + d + f (sortI [a, b, e, c + d]), c + e + f (sortI [a, b, d, c + e]), d + e + f (sortI [a, b, c, d + e])] := rfl
/-- five, rising -/
theorem least4 {a b c d e : Int} (h1 : a ≤ b) (h2 : b ≤ c) (h3 : c ≤ d) (h4 : d ≤ e) : leastF 4 [a, b, c, d, e] = (a + b) + leastF 3 (sortI [c, d, e, a + b]) := by
  show (minO (allV (leastF 3) [a, b, c, d, e] 5)).getD 0 = _
  rw [allV5]
  rw [ins4 h3 h4, ins4 (by omega) h4, ins4 h2 (by omega), ins4 h2 h3, ins4 (by omega) h4, ins4 (by omega) (by omega), ins4 (by omega) h3, ins4 h1 (by omega), ins4 h1 (by omega), ins4 h1 h2]
  refine minO_is (by simp) (List.mem_cons.mpr (.inl (by omega))) fun x hx => ?_
  simp only [List.mem_cons, List.not_mem_nil, or_false] at hx
  rcases hx with rfl | rfl | rfl | rfl | rfl | rfl | rfl | rfl | rfl | rfl <;> omega
end K1

-- text K1Y
set_option maxRecDepth 100000
set_option maxHeartbeats 1000000
namespace K1
open PySem PySem.Spec PyProof.Rows L2 LamX GX
/-- joining the two least, again and again -/
def gcost : Nat → List Int → Int
  | 0, _ => 0
  | k + 1, ws => match sortI ws with
    | a :: b :: r => (a + b) + gcost k (r ++ [a + b])
    | _ => 0
theorem sortI_rise (l : List Int) : (sortI l).Pairwise (· ≤ ·) := by
  have := List.pairwise_mergeSort (le := fun a b : Int => decide (a ≤ b)) (fun a b c h1 h2 => by simp at h1 h2 ⊢; omega) (fun a b => by simp; omega) l
  exact this.imp fun h => by simpa using h
/-- for at most five, the greedy way costs the least -/
theorem least_greedy : ∀ k, k ≤ 4 → ∀ ws : List Int, ws.length = k + 1 → gcost k ws = leastF k (sortI ws)
  | 0, _, ws, _ => rfl
  | k + 1, hk, ws, hl => by
    have hr := sortI_rise ws
    have hlen : (sortI ws).length = k + 2 := by rw [(sortI_perm ws).length_eq, hl]
    unfold gcost
    generalize sortI ws = m at hr hlen
    match m, hlen with
    | a :: b :: r, hlen =>
      have hlr : r.length = k := by simpa using hlen
      show (a + b) + gcost k (r ++ [a + b]) = _
      rw [least_greedy k (by omega) (r ++ [a + b]) (by rw [List.length_append, hlr]; rfl)]
      match k, r, hlr with
      | 0, [], _ => rw [least1]; show a + b + 0 = a + b; omega
      | 1, [c], _ =>
        simp at hr
        show a + b + leastF 1 (sortI [c, a + b]) = leastF 2 [a, b, c]
        rw [least1s, least2]; omega
      | 2, [c, d], _ =>
        simp at hr
        show a + b + leastF 2 (sortI [c, d, a + b]) = leastF 3 [a, b, c, d]
        rw [least2s, least3 (by omega) (by omega) (by omega)]; omega
      | 3, [c, d, e], _ =>
        simp at hr
        show a + b + leastF 3 (sortI [c, d, e, a + b]) = leastF 4 [a, b, c, d, e]
        rw [least4 (by omega) (by omega) (by omega) (by omega)]
      | n + 4, r, _ => omega
end K1

-- text K1Z
set_option maxRecDepth 100000
set_option maxHeartbeats 1000000
namespace K1
open PySem PySem.Spec PyProof.Rows L2 LamX GX
/-! what the tree of codes costs -/
section
variable (q : Str → Int)
/-- how long a heap's codes are together, and how often its names come -/
def costC (cs : Codes) : Int := (cs.map fun x => q x.1 * (x.2.length : Nat)).sum
def freqC (cs : Codes) : Int := (cs.map fun x => q x.1).sum
def costH (hs : List Hh) : Int := (hs.map fun h => costC q h.2.2).sum
def trueW (hs : List Hh) : Prop := ∀ h ∈ hs, h.1 = freqC q h.2.2
theorem costC_app (a b : Codes) : costC q (a ++ b) = costC q a + costC q b := by unfold costC; rw [List.map_append, List.sum_append]
theorem freqC_app (a b : Codes) : freqC q (a ++ b) = freqC q a + freqC q b := by unfold freqC; rw [List.map_append, List.sum_append]
theorem freqC_pre (c : Nat) : ∀ a : Codes, freqC q (pre c a) = freqC q a := fun a => by unfold freqC pre; rw [List.map_map]; rfl
theorem costC_pre (c : Nat) : ∀ a : Codes, costC q (pre c a) = costC q a + freqC q a
  | [] => rfl
  | x :: r => by
    have ih := costC_pre c r
    unfold costC freqC pre at ih ⊢
    simp only [List.map_cons, List.sum_cons] at ih ⊢
    rw [ih]
    have : q x.1 * (((c :: x.2).length : Nat) : Int) = q x.1 * (x.2.length : Nat) + q x.1 := by
      rw [List.length_cons, Int.natCast_add, Int.mul_add, Int.natCast_one, Int.mul_one]
    show q x.1 * (((c :: x.2).length : Nat) : Int) + _ = _
    omega
theorem sum_perm {a b : List Int} (h : a.Perm b) : a.sum = b.sum := by
  induction h with
  | nil => rfl
  | cons x _ ih => rw [List.sum_cons, List.sum_cons, ih]
  | swap x y l => simp only [List.sum_cons]; omega
  | trans _ _ h1 h2 => exact h1.trans h2
theorem costH_perm {a b : List Hh} (h : a.Perm b) : costH q a = costH q b := sum_perm (h.map _)
theorem costH_snoc (r : List Hh) (h : Hh) : costH q (r ++ [h]) = costH q r + costC q h.2.2 := by unfold costH; rw [List.map_append, List.sum_append]; simp
theorem leH_rise (hs : List Hh) : ((hs.mergeSort leH).map (·.1)).Pairwise (· ≤ ·) := by
  have := List.pairwise_mergeSort (le := leH) (fun a b c h1 h2 => by simp only [leH, decide_eq_true_eq] at h1 h2 ⊢; omega) (fun a b => by simp only [leH, Bool.or_eq_true, decide_eq_true_eq]; omega) hs
  rw [List.pairwise_map]
  exact this.imp fun h => by simp only [leH, decide_eq_true_eq] at h; omega
theorem sort_fst (hs : List Hh) : sortI (hs.map (·.1)) = (hs.mergeSort leH).map (·.1) := sortI_eq ((List.mergeSort_perm hs leH).map _) (leH_rise hs)
theorem join_cost : ∀ (k : Nat) (t : Int) (hs : List Hh), hs.length = k + 1 → trueW q hs → costH q (join k t hs) = costH q hs + gcost k (hs.map (·.1))
  | 0, t, hs, _, _ => by
    show costH q hs = costH q hs + 0
    omega
  | k + 1, t, hs, hl, hw => by
    have hm : (hs.mergeSort leH).length = k + 2 := by rw [List.length_mergeSort]; exact hl
    have hp := List.mergeSort_perm hs leH
    have hs1 := sort_fst hs
    have hc := costH_perm q hp
    unfold join gcost
    rw [hs1]
    match he : hs.mergeSort leH, hm with
    | a :: b :: r, hm =>
      rw [he] at hp hc
      have ha := hw a (hp.mem_iff.mp List.mem_cons_self)
      have hb := hw b (hp.mem_iff.mp (List.mem_cons_of_mem _ List.mem_cons_self))
      have ih := join_cost k (t - 1) (r ++ [(a.1 + b.1, t - 1, pre 48 a.2.2 ++ pre 49 b.2.2)]) (by rw [List.length_append, List.length_singleton]; simpa using hm) (fun h hh => by
        rcases List.mem_append.mp hh with hh | hh
        · exact hw h (hp.mem_iff.mp (List.mem_cons_of_mem _ (List.mem_cons_of_mem _ hh)))
        · rw [List.mem_singleton.mp hh]
          show a.1 + b.1 = freqC q (pre 48 a.2.2 ++ pre 49 b.2.2)
          rw [freqC_app, freqC_pre, freqC_pre, ha, hb])
      show costH q (join k (t - 1) (r ++ [(a.1 + b.1, t - 1, pre 48 a.2.2 ++ pre 49 b.2.2)])) = _
      rw [ih, costH_snoc]
      show costH q r + costC q (pre 48 a.2.2 ++ pre 49 b.2.2) + _ = _
      rw [costC_app, costC_pre, costC_pre, ← hc, ← ha, ← hb]
      have e : (r ++ [(a.1 + b.1, t - 1, pre 48 a.2.2 ++ pre 49 b.2.2)]).map (fun x : Hh => x.1) = r.map (fun x : Hh => x.1) ++ [a.1 + b.1] := by rw [List.map_append]; rfl
      rw [e]
      have ec : costH q (a :: b :: r) = costC q a.2.2 + (costC q b.2.2 + costH q r) := by unfold costH; rw [List.map_cons, List.map_cons, List.sum_cons, List.sum_cons]
      rw [ec]
      show _ = _ + ((a.1 + b.1) + gcost k (r.map (fun x : Hh => x.1) ++ [a.1 + b.1]))
      omega
end
def qOf (cs : SD Int) (n : Str) : Int := (look cs n).getD 0
theorem start_fst (cs : SD Int) (ns : List Str) : (start cs ns).map (·.1) = ns.map (qOf cs) := by
  unfold start
  rw [List.map_map]
  have : ∀ (l : List Str) (k : Nat), (l.zipIdx k).map ((fun x : Hh => x.1) ∘ fun x : Str × Nat => ((look cs x.1).getD 0, (cs.length : Int) + (x.2 : Nat), [(x.1, ([] : List Nat))])) = l.map (qOf cs) := by
    intro l
    induction l with
    | nil => intro k; rfl
    | cons x r ih => intro k; rw [List.zipIdx_cons, List.map_cons, List.map_cons, ih]; rfl
  exact this ns 0
theorem start_mem {cs : SD Int} {ns : List Str} {h : Hh} (hh : h ∈ start cs ns) : ∃ n ∈ ns, h.1 = qOf cs n ∧ h.2.2 = [(n, [])] := by
  unfold start at hh
  obtain ⟨y, hy, rfl⟩ := List.mem_map.mp hh
  have hy2 : y.1 ∈ ns := by
    have h : y.1 ∈ ns.zipIdx.map Prod.fst := List.mem_map.mpr ⟨y, hy, rfl⟩
    rwa [List.zipIdx_map_fst] at h
  exact ⟨y.1, hy2, rfl, rfl⟩
theorem start_true (cs : SD Int) (ns : List Str) : trueW (qOf cs) (start cs ns) := fun h hh => by
  obtain ⟨n, _, h1, h2⟩ := start_mem hh
  rw [h1, h2]
  show _ = (([(n, ([] : List Nat))] : Codes).map fun x => qOf cs x.1).sum
  simp
theorem start_cost (cs : SD Int) (ns : List Str) : costH (qOf cs) (start cs ns) = 0 := by
  unfold costH
  have : ∀ x ∈ (start cs ns).map fun h => costC (qOf cs) h.2.2, x = 0 := fun x hx => by
    obtain ⟨h, hh, rfl⟩ := List.mem_map.mp hx
    obtain ⟨n, _, h1, h2⟩ := start_mem hh
    rw [h2]
    show (([(n, ([] : List Nat))] : Codes).map fun x => qOf cs x.1 * (x.2.length : Nat)).sum = 0
    simp
  generalize (start cs ns).map (fun h => costC (qOf cs) h.2.2) = l at this
  induction l with
  | nil => rfl
  | cons x r ih => rw [List.sum_cons, this x List.mem_cons_self, ih fun y hy => this y (List.mem_cons_of_mem _ hy)]; rfl
/-- the tree ends in one heap -/
theorem tree_one {cs : SD Int} {ns : List Str} (h : 1 ≤ ns.length) : ∃ t, tree cs ns = [t] ∧ leaves cs ns = t.2.2 ∧ (t.2.2.map (·.1)).Perm ns := by
  obtain ⟨i1, i2⟩ := join_inv (ns.length - 1) cs.length (start cs ns) (by rw [start_len]; omega)
  rw [start_names] at i2
  have i1 : (tree cs ns).length = 1 := i1
  have i2 : ((allC (tree cs ns)).map (·.1)).Perm ns := i2
  unfold leaves
  match ht : tree cs ns, i1 with
  | [t], _ =>
    rw [ht] at i2
    refine ⟨t, rfl, rfl, ?_⟩
    simpa [allC] using i2
theorem leaves_cost {cs : SD Int} {ns : List Str} (h : 1 ≤ ns.length) : costC (qOf cs) (leaves cs ns) = gcost (ns.length - 1) (ns.map (qOf cs)) := by
  obtain ⟨t, h1, h2, _⟩ := tree_one (cs := cs) h
  have := join_cost (qOf cs) (ns.length - 1) cs.length (start cs ns) (by rw [start_len]; omega) (start_true cs ns)
  rw [start_cost, start_fst, Int.zero_add] at this
  have e : join (ns.length - 1) cs.length (start cs ns) = [t] := h1
  rw [e] at this
  rw [h2, ← this]
  unfold costH
  simp
theorem look_map {ns : List Str} {g : Str → List Nat} {n : Str} (h : n ∈ ns) : look (ns.map fun n => (n, g n)) n = some (g n) := by
  induction ns with
  | nil => cases h
  | cons x r ih =>
    unfold look
    rw [List.map_cons, List.find?_cons]
    by_cases e : x = n
    · rw [decide_eq_true (show (x, g x).1 = n from e), e]; rfl
    · rw [decide_eq_false (show ¬ (x, g x).1 = n from e)]
      exact ih ((List.mem_cons.mp h).resolve_left fun z => e z.symm)
/-- a name's code -/
def codeOf (cs : SD Int) (ns : List Str) (n : Str) : List Nat := if ns.length = 1 then [48] else (look (leaves cs ns) n).getD []
theorem short_map (cs : SD Int) (ns : List Str) : short cs ns = ns.map fun n => (n, codeOf cs ns n) := by
  unfold short codeOf
  by_cases h : ns.length = 1
  · simp [h]
  · simp [h]
theorem sg_short {cs : SD Int} {ns : List Str} {n : Str} (h : n ∈ ns) : sg (short cs ns) n = codeOf cs ns n := by
  unfold sg
  rw [short_map, look_map h]; rfl
/-- what whole_length tells of short signs: the least, for two to five counts -/
theorem wlen_short {cs : SD Int} {ns : List Str} (hp : ns.Perm (cs.map (·.1))) (nd : (cs.map (·.1)).Nodup) (h2 : 2 ≤ ns.length) : wlen cs (short cs ns) = gcost (ns.length - 1) (ns.map (qOf cs)) := by
  obtain ⟨t, h1, hl, pm⟩ := tree_one (cs := cs) (ns := ns) (by omega)
  rw [← leaves_cost (by omega)]
  have ndn : ns.Nodup := hp.nodup_iff.mpr nd
  have ndl : ((leaves cs ns).map (·.1)).Nodup := by rw [hl]; exact pm.nodup_iff.mpr ndn
  have e1 : wlen cs (short cs ns) = ((cs.map (·.1)).map fun n => qOf cs n * ((codeOf cs ns n).length : Nat)).sum := by
    unfold wlen
    rw [List.map_map]
    refine congrArg List.sum (List.map_congr_left fun p hp2 => ?_)
    have hn : p.1 ∈ ns := hp.mem_iff.mpr (List.mem_map.mpr ⟨p, hp2, rfl⟩)
    show p.2 * ((((look (short cs ns) p.1).getD []).length : Nat) : Int) = qOf cs p.1 * ((codeOf cs ns p.1).length : Nat)
    have : (look (short cs ns) p.1).getD [] = codeOf cs ns p.1 := sg_short hn
    rw [this]
    unfold qOf
    rw [look_of nd hp2]; rfl
  rw [e1]
  have pl : ((leaves cs ns).map (·.1)).Perm (cs.map (·.1)) := by rw [hl]; exact pm.trans hp
  rw [← sum_perm (pl.map fun n => qOf cs n * ((codeOf cs ns n).length : Nat))]
  unfold costC
  rw [List.map_map]
  refine congrArg List.sum (List.map_congr_left fun x hx => ?_)
  show qOf cs x.1 * ((codeOf cs ns x.1).length : Nat) = _
  unfold codeOf
  rw [if_neg (by omega), look_of ndl hx]
  rfl
theorem qOf_vals {cs : SD Int} (nd : (cs.map (·.1)).Nodup) : (cs.map (·.1)).map (qOf cs) = cs.map (·.2) := by
  rw [List.map_map]
  refine List.map_congr_left fun p hp => ?_
  show qOf cs p.1 = p.2
  unfold qOf
  rw [look_of nd hp]; rfl
theorem short_least {cs : SD Int} {ns : List Str} (hp : ns.Perm (cs.map (·.1))) (nd : (cs.map (·.1)).Nodup) (h2 : 2 ≤ cs.length) (h5 : cs.length ≤ 5) : wlen cs (short cs ns) = leastF (cs.length - 1) (sortI (cs.map (·.2))) := by
  have hl : ns.length = cs.length := by rw [hp.length_eq, List.length_map]
  rw [wlen_short hp nd (by omega), least_greedy (ns.length - 1) (by omega) (ns.map (qOf cs)) (by rw [List.length_map]; omega), hl]
  have e : (ns.map (qOf cs)).Perm (cs.map (·.2)) := by rw [← qOf_vals nd]; exact hp.map _
  rw [sortI_eq ((sortI_perm (cs.map (·.2))).trans e.symm) (sortI_rise _)]
theorem short_least1 {cs : SD Int} {ns : List Str} (hp : ns.Perm (cs.map (·.1))) (nd : (cs.map (·.1)).Nodup) {p : Str × Int} (h : cs = [p]) : wlen cs (short cs ns) = p.2 := by
  subst h
  have hn : p.1 ∈ ns := hp.mem_iff.mpr List.mem_cons_self
  have hl : ns.length = 1 := by rw [hp.length_eq]; rfl
  unfold wlen
  have : (look (short [p] ns) p.1).getD [] = codeOf [p] ns p.1 := sg_short hn
  rw [List.map_cons, List.map_nil, List.sum_singleton, this]
  unfold codeOf
  rw [if_pos hl]
  show p.2 * 1 = p.2
  omega
end K1

-- text K1Pf
set_option maxRecDepth 100000
set_option maxHeartbeats 1000000
namespace K1
open PySem PySem.Spec PyProof.Rows L2 LamX GX
/-! no code begins another; cut_up of the joined -/
def noPre (cs : Codes) : Prop := (∀ x ∈ cs, ∀ y ∈ cs, x.1 ≠ y.1 → ¬ x.2 <+: y.2) ∧ ∀ x ∈ cs, ∀ c ∈ x.2, c = 48 ∨ c = 49
def noPreH (hs : List Hh) : Prop := ∀ h ∈ hs, noPre h.2.2
theorem mem_pre {c : Nat} {cs : Codes} {x : Str × List Nat} (h : x ∈ pre c cs) : ∃ y ∈ cs, x.1 = y.1 ∧ x.2 = c :: y.2 := by
  obtain ⟨y, hy, rfl⟩ := List.mem_map.mp h
  exact ⟨y, hy, rfl, rfl⟩
theorem noPre_both {a b : Codes} (ha : noPre a) (hb : noPre b) : noPre (pre 48 a ++ pre 49 b) := by
  refine ⟨fun x hx y hy hne hp => ?_, fun x hx c hc => ?_⟩
  · rcases List.mem_append.mp hx with hx | hx <;> rcases List.mem_append.mp hy with hy | hy
    · obtain ⟨x', hx', e1, e2⟩ := mem_pre hx
      obtain ⟨y', hy', e3, e4⟩ := mem_pre hy
      rw [e2, e4] at hp
      exact ha.1 x' hx' y' hy' (by rw [← e1, ← e3]; exact hne) (List.cons_prefix_cons.mp hp).2
    · obtain ⟨x', hx', e1, e2⟩ := mem_pre hx
      obtain ⟨y', hy', e3, e4⟩ := mem_pre hy
      rw [e2, e4] at hp
      exact absurd (List.cons_prefix_cons.mp hp).1 (by decide)
    · obtain ⟨x', hx', e1, e2⟩ := mem_pre hx
      obtain ⟨y', hy', e3, e4⟩ := mem_pre hy
      rw [e2, e4] at hp
      exact absurd (List.cons_prefix_cons.mp hp).1 (by decide)
    · obtain ⟨x', hx', e1, e2⟩ := mem_pre hx
      obtain ⟨y', hy', e3, e4⟩ := mem_pre hy
      rw [e2, e4] at hp
      exact hb.1 x' hx' y' hy' (by rw [← e1, ← e3]; exact hne) (List.cons_prefix_cons.mp hp).2
  · rcases List.mem_append.mp hx with hx | hx
    · obtain ⟨x', hx', e1, e2⟩ := mem_pre hx
      rw [e2] at hc
      rcases List.mem_cons.mp hc with rfl | hc
      · exact .inl rfl
      · exact ha.2 x' hx' c hc
    · obtain ⟨x', hx', e1, e2⟩ := mem_pre hx
      rw [e2] at hc
      rcases List.mem_cons.mp hc with rfl | hc
      · exact .inr rfl
      · exact hb.2 x' hx' c hc
theorem join_noPre : ∀ (k : Nat) (t : Int) (hs : List Hh), hs.length = k + 1 → noPreH hs → noPreH (join k t hs)
  | 0, _, _, _, h => h
  | k + 1, t, hs, hl, h => by
    have hm : (hs.mergeSort leH).length = k + 2 := by rw [List.length_mergeSort]; exact hl
    have hp := List.mergeSort_perm hs leH
    unfold join
    match he : hs.mergeSort leH, hm with
    | a :: b :: r, hm =>
      rw [he] at hp
      refine join_noPre k (t - 1) _ (by rw [List.length_append, List.length_singleton]; simpa using hm) fun g hg => ?_
      rcases List.mem_append.mp hg with hg | hg
      · exact h g (hp.mem_iff.mp (List.mem_cons_of_mem _ (List.mem_cons_of_mem _ hg)))
      · rw [List.mem_singleton.mp hg]
        exact noPre_both (h a (hp.mem_iff.mp List.mem_cons_self)) (h b (hp.mem_iff.mp (List.mem_cons_of_mem _ List.mem_cons_self)))
theorem leaves_noPre {cs : SD Int} {ns : List Str} (h : 1 ≤ ns.length) : noPre (leaves cs ns) := by
  obtain ⟨t, h1, h2, _⟩ := tree_one (cs := cs) h
  have := join_noPre (ns.length - 1) cs.length (start cs ns) (by rw [start_len]; omega) fun g hg => by
    obtain ⟨n, _, _, e⟩ := start_mem hg
    rw [e]
    refine ⟨fun x hx y hy hne => ?_, fun x hx c hc => ?_⟩
    · rw [List.mem_singleton.mp hx, List.mem_singleton.mp hy] at hne
      exact absurd rfl hne
    · rw [List.mem_singleton.mp hx] at hc; cases hc
  have e : join (ns.length - 1) cs.length (start cs ns) = [t] := h1
  rw [e] at this
  rw [h2]
  exact this t List.mem_cons_self
/-- of a table of codes: none begins another, none is empty, all of 0 and 1 -/
structure GoodC (ss : SD (List Nat)) (ns : List Str) : Prop where
  pre : ∀ a ∈ ns, ∀ b ∈ ns, a ≠ b → ¬ sg ss a <+: sg ss b
  full : ∀ a ∈ ns, sg ss a ≠ []
  bin : ∀ a ∈ ns, ∀ c ∈ sg ss a, c = 48 ∨ c = 49
theorem good_short {cs : SD Int} {ns : List Str} (nd : ns.Nodup) (h1 : 1 ≤ ns.length) : GoodC (short cs ns) ns := by
  by_cases h : ns.length = 1
  · have e : ∀ a ∈ ns, sg (short cs ns) a = [48] := fun a ha => by rw [sg_short ha]; unfold codeOf; rw [if_pos h]
    refine ⟨fun a ha b hb hne => ?_, fun a ha => by rw [e a ha]; simp, fun a ha c hc => by rw [e a ha] at hc; exact .inl (List.mem_singleton.mp hc)⟩
    match ns, h with
    | [n], _ => rw [List.mem_singleton.mp ha, List.mem_singleton.mp hb] at hne; exact absurd rfl hne
  · have np := leaves_noPre (cs := cs) h1
    obtain ⟨t, _, hl, pm⟩ := tree_one (cs := cs) h1
    have ndl : ((leaves cs ns).map (·.1)).Nodup := by rw [hl]; exact pm.nodup_iff.mpr nd
    have e : ∀ a ∈ ns, (a, sg (short cs ns) a) ∈ leaves cs ns := fun a ha => by
      have : a ∈ (leaves cs ns).map (·.1) := by rw [hl]; exact pm.mem_iff.mpr ha
      obtain ⟨v, h2, h3⟩ := look_mem this
      have e : sg (short cs ns) a = v := by rw [sg_short ha]; unfold codeOf; rw [if_neg h, h2]; rfl
      rw [e]; exact h3
    have pr : ∀ a ∈ ns, ∀ b ∈ ns, a ≠ b → ¬ sg (short cs ns) a <+: sg (short cs ns) b := fun a ha b hb hne => np.1 _ (e a ha) _ (e b hb) hne
    refine ⟨pr, fun a ha z => ?_, fun a ha c hc => np.2 _ (e a ha) c hc⟩
    have : ∃ b ∈ ns, a ≠ b := by
      match ns, h, h1, nd with
      | x :: y :: r, _, _, nd =>
        by_cases q : a = x
        · refine ⟨y, by simp, fun z => ?_⟩
          rw [q] at z
          subst z
          simp at nd
        · exact ⟨x, by simp, q⟩
    obtain ⟨b, hb, hne⟩ := this
    exact pr a ha b hb hne (by rw [z]; exact List.nil_prefix)
theorem begins_iff {a b : List Nat} : begins a b = true ↔ b <+: a := by
  unfold begins
  rw [decide_eq_true_eq, List.prefix_iff_eq_take]
  exact eq_comm
theorem not_cutBad {ss : SD (List Nat)} {ns : List Str} (g : GoodC ss ns) : ¬ cutBad ss ns := by
  rintro (⟨n, hn, z⟩ | ⟨a, ha, b, hb, hne, z⟩)
  · exact g.full n hn z
  · exact g.pre a ha b hb hne (begins_iff.mp z)
/-- the one whose code begins a joined text -/
theorem find_code {ss : SD (List Nat)} {ns : List Str} (g : GoodC ss ns) {n : Str} (hn : n ∈ ns) {l : List Nat} : ns.find? (fun m => begins (sg ss n ++ l) (sg ss m)) = some n := by
  have h : ∃ m, ns.find? (fun m => begins (sg ss n ++ l) (sg ss m)) = some m := by
    cases e : ns.find? (fun m => begins (sg ss n ++ l) (sg ss m)) with
    | some m => exact ⟨m, rfl⟩
    | none =>
      have := List.find?_eq_none.mp e n hn
      exact absurd (begins_iff.mpr (List.prefix_append _ _)) this
  obtain ⟨m, hm⟩ := h
  rw [hm]
  have h1 := begins_iff.mp (List.find?_some (p := fun m => begins (sg ss n ++ l) (sg ss m)) hm)
  have h2 := List.mem_of_find?_eq_some hm
  by_cases e : m = n
  · rw [e]
  · exfalso
    rcases List.prefix_or_prefix_of_prefix h1 (List.prefix_append (sg ss n) l) with z | z
    · exact g.pre m h2 n hn e z
    · exact g.pre n hn m h2 (fun q => e q.symm) z
def joined (ss : SD (List Nat)) (out : List Str) : List Nat := (out.map (sg ss)).flatten
theorem cut_joined {ss : SD (List Nat)} {ns : List Str} (g : GoodC ss ns) {tail : List Nat} {res : Option (List Str)} (ht : ∀ k, cutUp ss ns (k + 1) tail = res) : ∀ (out : List Str) (k : Nat), (∀ n ∈ out, n ∈ ns) → (joined ss out ++ tail).length < k → cutUp ss ns k (joined ss out ++ tail) = res.map (out ++ ·)
  | [], k, _, hk => by
    have e : joined ss [] ++ tail = tail := rfl
    rw [e] at hk ⊢
    cases k with
    | zero => omega
    | succ k =>
      rw [ht k]
      cases res <;> rfl
  | n :: r, k, hn, hk => by
    have hnn := hn n List.mem_cons_self
    have hf := g.full n hnn
    have e : joined ss (n :: r) ++ tail = sg ss n ++ (joined ss r ++ tail) := by unfold joined; rw [List.map_cons, List.flatten_cons, List.append_assoc]
    rw [e] at hk ⊢
    cases k with
    | zero => omega
    | succ k =>
      have hlen : 0 < (sg ss n).length := by
        cases h : sg ss n with
        | nil => exact absurd h hf
        | cons x y => exact Nat.succ_pos _
      unfold cutUp
      rw [if_neg (by cases h : sg ss n with
        | nil => exact absurd h hf
        | cons x y => simp), find_code g hnn]
      show (cutUp ss ns k ((sg ss n ++ (joined ss r ++ tail)).drop (sg ss n).length)).map (n :: ·) = _
      rw [List.drop_left, cut_joined g ht r k (fun m hm => hn m (List.mem_cons_of_mem _ hm)) (by rw [List.length_append] at hk; omega)]
      cases res <;> rfl
theorem cut_names {ss : SD (List Nat)} {ns : List Str} (g : GoodC ss ns) {out : List Str} (h : ∀ n ∈ out, n ∈ ns) : cutUp ss ns ((joined ss out).length + 1) (joined ss out) = some out := by
  have := cut_joined g (tail := []) (res := some []) (fun k => rfl) out ((joined ss out).length + 1) h (by rw [List.append_nil]; omega)
  rw [List.append_nil] at this
  rw [this]
  show some (out ++ []) = _
  rw [List.append_nil]
theorem cut_rest {ss : SD (List Nat)} {ns : List Str} (g : GoodC ss ns) {out : List Str} (h : ∀ n ∈ out, n ∈ ns) : cutUp ss ns ((joined ss out ++ [120]).length + 1) (joined ss out ++ [120]) = none := by
  have ht : ∀ k, cutUp ss ns (k + 1) [120] = none := fun k => by
    unfold cutUp
    rw [if_neg (by simp)]
    have : ns.find? (fun n => begins [120] (sg ss n)) = none := List.find?_eq_none.mpr fun n hn z => by
      have z := begins_iff.mp z
      have hf := g.full n hn
      have hb := g.bin n hn
      match hs : sg ss n with
      | [] => exact hf hs
      | c :: r =>
        rw [hs] at z
        have := (List.cons_prefix_cons.mp z).1
        rcases hb c (by rw [hs]; exact List.mem_cons_self) with q | q <;> omega
    rw [this]
  exact cut_joined g (tail := [120]) (res := none) ht out _ h (Nat.lt_succ_self _)
end K1

-- text K1Lk
set_option maxRecDepth 100000
set_option maxHeartbeats 4000000
namespace K1
open PySem PySem.Spec PyProof.Rows L2 LamX GX
section
variable {P : Program} {w : World} {K : PySem.W.Frag} {mg : Str → Option Value} {base : Heap}
variable {f : Addr} {cd : Value} {A : Around} {outer : List Env} {s : Shared} {H0 : Hp} {E : XK} {p0 d : Addr}
/-! ### counts and short signs -/
def nm (k : Nat) : Str := S [110, 48 + k]
def nmL (m : Nat) : List Str := (List.range m).map nm
structure GoodN (cs : SD Int) : Prop where
  l1 : 1 ≤ cs.length
  l5 : cs.length ≤ 5
  nms : cs.map (·.1) = nmL cs.length
  v : ∀ p ∈ cs, 1 ≤ p.2 ∧ p.2 ≤ 30
theorem nmL_ok : ∀ m, m ≤ 5 → (nmL m).Nodup ∧ sortedS (nmL m) = true := by decide +kernel
theorem nm_str : ∀ i, i < 5 → (Str.ofString (toString ((i : Nat) : Int)) : Str) = S [48 + i] := by decide +kernel
theorem GoodN.nd {cs : SD Int} (g : GoodN cs) : (cs.map (·.1)).Nodup := by rw [g.nms]; exact (nmL_ok _ g.l5).1
theorem GoodN.srt {cs : SD Int} (g : GoodN cs) : sortedS (cs.map (·.1)) = true := by rw [g.nms]; exact (nmL_ok _ g.l5).2
theorem GoodN.okT {cs : SD Int} (g : GoodN cs) {n : Str} (h : n ∈ cs.map (·.1)) : okT n := by
  rw [g.nms] at h
  obtain ⟨k, hk, rfl⟩ := List.mem_map.mp h
  have := List.mem_range.mp hk
  have := g.l5
  exact okT_small fun c hc => by
    rcases List.mem_cons.mp hc with rfl | hc
    · decide
    · rw [List.mem_singleton.mp hc]; omega
abbrev nsOf (cs : SD Int) : List Str := cs.map (·.1)
abbrev ssOf (cs : SD Int) : Codes := short cs (nsOf cs)
theorem join_lens : ∀ (k : Nat) (t : Int) (hs : List Hh) (m : Nat), hs.length = k + 1 → lensLe m hs → lensLe (m + k) (join k t hs)
  | 0, _, _, _, _, h => h
  | k + 1, t, hs, m, hl, h => by
    have hm : (hs.mergeSort leH).length = k + 2 := by rw [List.length_mergeSort]; exact hl
    have hp := List.mergeSort_perm hs leH
    unfold join
    match he : hs.mergeSort leH, hm with
    | a :: b :: r, hm =>
      rw [he] at hp
      rw [show m + (k + 1) = (m + 1) + k by omega]
      refine join_lens k (t - 1) _ (m + 1) (by rw [List.length_append, List.length_singleton]; simpa using hm) fun g hg x hx => ?_
      rcases List.mem_append.mp hg with hg | hg
      · have := h g (hp.mem_iff.mp (List.mem_cons_of_mem _ (List.mem_cons_of_mem _ hg))) x hx
        omega
      · rw [List.mem_singleton.mp hg] at hx
        have hx : x ∈ pre 48 a.2.2 ++ pre 49 b.2.2 := hx
        rcases List.mem_append.mp hx with hx | hx
        · obtain ⟨y, hy, _, e⟩ := mem_pre hx
          have := h a (hp.mem_iff.mp List.mem_cons_self) y hy
          rw [e, List.length_cons]; omega
        · obtain ⟨y, hy, _, e⟩ := mem_pre hx
          have := h b (hp.mem_iff.mp (List.mem_cons_of_mem _ List.mem_cons_self)) y hy
          rw [e, List.length_cons]; omega
theorem code_len {cs : SD Int} {ns : List Str} {n : Str} (hl : 1 ≤ ns.length) : (codeOf cs ns n).length ≤ ns.length := by
  unfold codeOf
  by_cases h : ns.length = 1
  · rw [if_pos h, h]; exact Nat.le_refl _
  · rw [if_neg h]
    by_cases hn : n ∈ (leaves cs ns).map (·.1)
    · obtain ⟨v, h1, h2⟩ := look_mem hn
      obtain ⟨t, e1, e2, _⟩ := tree_one (cs := cs) hl
      have := join_lens (ns.length - 1) cs.length (start cs ns) 0 (by rw [start_len]; omega) (fun g hg x hx => by
        obtain ⟨k, _, _, e⟩ := start_mem hg
        rw [e] at hx
        rw [List.mem_singleton.mp hx]; exact Nat.le_refl _)
      have e : join (ns.length - 1) cs.length (start cs ns) = [t] := e1
      rw [e] at this
      have := this t List.mem_cons_self (n, v) (by rw [← e2]; exact h2)
      rw [h1]
      show v.length ≤ _
      have : v.length ≤ 0 + (ns.length - 1) := this
      omega
    · rw [look_none hn]; exact Nat.zero_le _
theorem GoodN.sg {cs : SD Int} (g : GoodN cs) {n : Str} (h : n ∈ nsOf cs) : look (ssOf cs) n = some (sg (ssOf cs) n) ∧ (sg (ssOf cs) n).length ≤ 5 := by
  have hl : (nsOf cs).length = cs.length := List.length_map _
  have e : look (ssOf cs) n = some (codeOf cs (nsOf cs) n) := by
    show look (short cs (nsOf cs)) n = _
    rw [short_map]; exact look_map h
  have e2 : K1.sg (ssOf cs) n = codeOf cs (nsOf cs) n := sg_short h
  rw [e2, e]
  refine ⟨rfl, Nat.le_trans (code_len (by have := g.l1; omega)) (by have := g.l5; omega)⟩
theorem GoodN.names {cs : SD Int} : (ssOf cs).map (·.1) = nsOf cs := by
  show (short cs (nsOf cs)).map (·.1) = _
  rw [short_map, List.map_map]
  exact List.map_id _
theorem GoodN.code {cs : SD Int} (g : GoodN cs) : GoodC (ssOf cs) (nsOf cs) := good_short g.nd (by have := g.l1; rw [List.length_map]; exact this)
theorem GoodN.ss {cs : SD Int} (g : GoodN cs) : ∀ p ∈ ssOf cs, K1.okT p.1 ∧ p.2.length ≤ 1000 := fun p hp => by
  have hn : p.1 ∈ nsOf cs := by rw [← GoodN.names]; exact List.mem_map.mpr ⟨p, hp, rfl⟩
  obtain ⟨h1, h2⟩ := g.sg hn
  have nd : ((ssOf cs).map (·.1)).Nodup := by rw [GoodN.names]; exact g.nd
  have h3 := look_of nd hp
  rw [h1] at h3
  have e := Option.some.inj h3
  rw [e] at h2
  exact ⟨g.okT hn, by omega⟩
def M23 (K : PySem.W.Frag) (p0 d : Addr) (σ : _root_.L2.St) (H : Hp) : Prop := ∃ B ca cs, σ.length = 35 ∧ At σ 2 (.ref d) ∧ At σ 25 (.ref ca) ∧ GoodN cs ∧ Lw K p0 d B H ∧ B ca = some (dI cs)
theorem st23 (C : Ctx K mg base) (hr : Room 9 (XL P w K mg base f cd A outer s H0 E).A) : Step (XL P w K mg base f cd A outer s H0 E) (ls 23) (M14 K p0 d) (M23 K p0 d) := by
  have nn := sc_law.nd
  refine ⟨_, ps_set (i := 25) nn rfl (by first | exact Or.inl rfl | exact Or.inr rfl) (pe_callTy (call_dictP rfl) (by rfl) C.t.b_dict (by decide +kernel) (pa_cons (pe_lcX (own := [("k", 12)]) (g := gName 12) rfl nn rfl rfl takesA (pi_range1 (by rfl) C.t.b_range (pa_cons (pe_op op_add pe_int (pe_cx (ok_roll (P := P) (w := w) C) hr (by decide) rfl passA (pa_cons (pv 2) (pa_cons pe_int pa_nil)))) pa_nil)) (blkOk_by (N := n_law) (sc := defScope s_law) (by decide +kernel))
     (fun _ _ _ _ _ => pg_name (i := 12) nn rfl (Or.inl rfl)) (fun _ _ _ _ _ => pts_nil)
     (fun _ _ _ _ _ _ _ px => by exact pe_tup (pa_cons (pe_op op_add_str pe_str (pe_callTy call_str_int (by rfl) C.t.b_str (by decide +kernel) (pa_cons (pv 12) pa_nil))) (pa_cons (pe_op op_add pe_int (pe_cx (ok_roll (P := P) (w := w) C) hr (by decide) rfl px (pa_cons (pv 2) (pa_cons pe_int pa_nil)))) pa_nil)))) pa_nil)), fun D σ H hM hq => ?_⟩
  obtain ⟨B, hl, h2, L⟩ := hM
  obtain ⟨a0, a1, a2, a3, a4, a5, a6, a7, a8, a9, a10, a11, a12, a13, a14, a15, a16, a17, a18, a19, a20, a21, a22, a23, a24, a25, a26, a27, a28, a29, a30, a31, a32, a33, a34, rfl⟩ := ex35 hl
  cases h2
  obtain ⟨qx, qy, qz, qd⟩ := L.dice
  refine ⟨_, rfl, d, qx, qy, qz, _, rfl, qd, by omega, by omega, fun qx qy qz qr q0 q1 => ?_⟩
  obtain ⟨r, hr, rfl⟩ : ∃ k : Nat, k < 5 ∧ qr = (k : Int) := ⟨qr.toNat, by omega, by omega⟩
  have L1 := L.roll qx qy qz
  have samer : ∀ a, a ≠ d → upd H d (dV qx qy qz) a = H a := fun a n => upd_ne n
  generalize upd H d (dV qx qy qz) = H1 at L1 samer ⊢
  clear q0 q1 qd
  refine ⟨_, _, rfl, rfl, _, rfl, by omega, by omega, fun D1 hD => ?_⟩
  have hDd : D1 ≠ d := L1.ne_new hD
  have hDB : B D1 = none := L1.le.no D1 hD
  rw [show ((1 : Int) + (r : Int)).toNat = r + 1 by omega]
  refine lc_range (lo := 0) (n := r + 1) (fun i H' => Lw K p0 d B H' ∧ ∃ R : List (Addr × Str × Int), R.length = i ∧ R.map (·.2.1) = nmL i ∧ (∀ x ∈ R, 1 ≤ x.2.2 ∧ x.2.2 ≤ 30) ∧ H' D1 = some (.lst (R.map fun x => V.ref x.1)) ∧ ∀ x ∈ R, H' x.1 = some (.tup [.str x.2.1, .int x.2.2]))
    ⟨L1.new hD, [], rfl, rfl, (fun p hp => by cases hp), upd_same, fun p hp => by cases hp⟩ (fun i H2 hi ⟨L2, R, e1, e2, e3, e4, e5⟩ => ?_) (fun H2 ⟨L2, R, e1, e2, e3, e4, e5⟩ => ?_)
  · refine ⟨rfl, ?_⟩
    refine yes_ ?_
    refine iteT ?_
    have hs : (Str.ofString (toString ((0 : Int) + ((i : Nat) : Int))) : Str) = S [48 + i] := by rw [Int.zero_add]; exact nm_str i (by omega)
    have en : ("n" : Str) = S [110] := by decide +kernel
    refine ⟨_, rfl, _, rfl, ?_, _, _, rfl, rfl, ?_, ?_⟩
    · have : i = 0 ∨ i = 1 ∨ i = 2 ∨ i = 3 ∨ i = 4 := by omega
      rcases this with rfl | rfl | rfl | rfl | rfl <;> decide
    · rw [hs, en, S_len, S_len]
      exact Nat.le_trans (Nat.le_refl 2) (by decide)
    rw [hs, en, S_app]
    obtain ⟨qx, qy, qz, qd⟩ := L2.dice
    refine ⟨_, rfl, d, qx, qy, qz, _, rfl, qd, by omega, by omega, fun qx qy qz qr q0 q1 => ?_⟩
    obtain ⟨v, hv, rfl⟩ : ∃ k : Nat, k < 30 ∧ qr = (k : Int) := ⟨qr.toNat, by omega, by omega⟩
    have L3 := L2.roll qx qy qz
    have samev : ∀ a, a ≠ d → upd H2 d (dV qx qy qz) a = H2 a := fun a n => upd_ne n
    generalize upd H2 d (dV qx qy qz) = H3 at L3 samev ⊢
    clear q0 q1 qd
    have e6 := (samev D1 hDd).trans e4
    have e7 : ∀ x ∈ R, H3 x.1 = some (.tup [.str x.2.1, .int x.2.2]) := fun x hx => (samev x.1 (L2.ne (e5 x hx) fun _ _ _ z => by cases z)).trans (e5 x hx)
    refine ⟨_, _, rfl, rfl, by show 2 ≤ sizeLine; decide, fun t ht => ?_⟩
    have hDt : D1 ≠ t := ne_of_none e6 ht
    have e8 : upd H3 t (.tup [.str (S ([110] ++ [48 + i])), .int (1 + (v : Int))]) D1 = some (.lst (R.map fun x => V.ref x.1)) := (upd_ne hDt).trans e6
    have L4 := L3.new (o := .tup [.str (S ([110] ++ [48 + i])), .int (1 + (v : Int))]) ht
    refine ⟨_, e8, ?_, L4.set hDB e8 (hne := hDd), R ++ [(t, nm i, 1 + (v : Int))], by rw [List.length_append, e1]; rfl, ?_, fun x hx => ?_, ?_, fun x hx => ?_⟩
    · rw [List.length_map, e1]
      exact Nat.lt_of_lt_of_le (show i < 64 by omega) (by decide)
    · rw [List.map_append, e2]
      unfold nmL
      rw [List.range_succ, List.map_append]
      rfl
    · rcases List.mem_append.mp hx with hx | hx
      · exact e3 x hx
      · rw [List.mem_singleton.mp hx]
        show 1 ≤ 1 + (v : Int) ∧ 1 + (v : Int) ≤ 30
        omega
    · rw [upd_same, List.map_append]
      rfl
    · rcases List.mem_append.mp hx with hx | hx
      · have h7 := e7 x hx
        exact (upd_ne (fun z => by rw [z, e6] at h7; cases h7)).trans ((upd_ne (ne_of_none h7 ht)).trans h7)
      · rw [List.mem_singleton.mp hx]
        exact (upd_ne (Ne.symm hDt)).trans upd_same
  · have ndR : (R.map fun x => x.2.1).Nodup := by rw [e2]; exact (nmL_ok _ (by omega)).1
    refine ⟨D1, R.map (·.1), R.map (fun x => (Sum.inr x.2.1, V.int x.2.2)), rfl, SqL.of (e4.trans (by rw [List.map_map]; rfl)), paired_map fun x hx => SqT.of (e5 x hx), fun c hcn => ?_⟩
    have ek : mergeK [] (R.map fun x => ((Sum.inr x.2.1 : _root_.L2.Key), V.int x.2.2)) = ents V.int (R.map fun x => (x.2.1, x.2.2)) := by
      have e : (R.map fun x => ((Sum.inr x.2.1 : _root_.L2.Key), V.int x.2.2)) = ents V.int (R.map fun x => (x.2.1, x.2.2)) := by
        unfold ents
        rw [List.map_map]
        rfl
      rw [e]
      exact merge_ents V.int _ [] (by rw [List.nil_append, List.map_map]; exact ndR)
    rw [ek]
    obtain ⟨L3, L4⟩ := (L2.new (o := dI (R.map fun x => (x.2.1, x.2.2))) hcn).rebase
    refine hq _ _ ⟨_, c, R.map fun x => (x.2.1, x.2.2), rfl, rfl, rfl, ⟨by rw [List.length_map]; omega, by rw [List.length_map]; omega, ?_, fun p hp => ?_⟩, L3, hide_at upd_same (L2.ne_new hcn)⟩
    · rw [List.map_map, List.length_map, e1]
      exact e2
    · obtain ⟨x, hx, rfl⟩ := List.mem_map.mp hp
      exact e3 x hx
def M24 (K : PySem.W.Frag) (p0 d : Addr) (σ : _root_.L2.St) (H : Hp) : Prop := ∃ B ca sa cs, σ.length = 35 ∧ At σ 2 (.ref d) ∧ At σ 25 (.ref ca) ∧ At σ 26 (.ref sa) ∧ GoodN cs ∧ Lw K p0 d B H ∧ B ca = some (dI cs) ∧ B sa = some (dS (ssOf cs)) ∧ ca ≠ sa
theorem st24 (C : Ctx K mg base) (hr : Room 9 (XL P w K mg base f cd A outer s H0 E).A) : Step (XL P w K mg base f cd A outer s H0 E) (ls 24) (M23 K p0 d) (M24 K p0 d) := by
  have nn := sc_law.nd
  refine ⟨_, ps_set (i := 26) nn rfl (by first | exact Or.inl rfl | exact Or.inr rfl) (pe_cx (ok_short (P := P) (w := w) C) hr (by decide) rfl passA (pa_cons (pv 25) pa_nil)), fun D σ H hM hq => ?_⟩
  obtain ⟨B, ca, cs, hl, h2, h25, g, L, hc⟩ := hM
  have g1 := g.l1
  have g5 := g.l5
  obtain ⟨a0, a1, a2, a3, a4, a5, a6, a7, a8, a9, a10, a11, a12, a13, a14, a15, a16, a17, a18, a19, a20, a21, a22, a23, a24, a25, a26, a27, a28, a29, a30, a31, a32, a33, a34, rfl⟩ := ex35 hl
  cases h2; cases h25
  refine ⟨_, rfl, ca, cs, rfl, L.le.at hc, L.tab, by omega, g.nd, fun hb => ?_, fun _ ns hp hs H1 p L1 hpn hp1 => ?_⟩
  · rcases hb with z | z | ⟨p, hp, z⟩
    · omega
    · omega
    · have := (g.v p hp).1
      omega
  · have e : ns = nsOf cs := sorted_uniq hs g.srt hp
    subst e
    obtain ⟨L2, L3⟩ := (L.to L1).rebase
    exact hq _ _ ⟨_, ca, p, cs, rfl, rfl, rfl, rfl, g, L2, L3.at hc, hide_at hp1 (L.ne_new hpn), ne_of_none (L.le.at hc) hpn⟩
end
end K1

-- text K1Ll
set_option maxRecDepth 100000
set_option maxHeartbeats 4000000
namespace K1
open PySem PySem.Spec PyProof.Rows L2 LamX GX
section
variable {P : Program} {w : World} {K : PySem.W.Frag} {mg : Str → Option Value} {base : Heap}
variable {f : Addr} {cd : Value} {A : Around} {outer : List Env} {s : Shared} {H0 : Hp} {E : XK} {p0 d : Addr}
def M25 (K : PySem.W.Frag) (p0 d : Addr) (σ : _root_.L2.St) (H : Hp) : Prop := ∃ B ca sa cs, σ.length = 35 ∧ At σ 2 (.ref d) ∧ At σ 25 (.ref ca) ∧ At σ 26 (.ref sa) ∧ At σ 27 (.int (wlen cs (ssOf cs))) ∧ GoodN cs ∧ Lw K p0 d B H ∧ B ca = some (dI cs) ∧ B sa = some (dS (ssOf cs)) ∧ ca ≠ sa
theorem ents_at {α : Type} {f : α → V} {cs : SD α} {i : Nat} {k : _root_.L2.Key} {v : V} (h : (ents f cs)[i]? = some (k, v)) : ∃ p, cs[i]? = some p ∧ k = Sum.inr p.1 ∧ v = f p.2 := by
  unfold ents at h
  rw [List.getElem?_map] at h
  obtain ⟨p1, hp1, e⟩ := Option.map_eq_some_iff.mp h
  cases e
  exact ⟨p1, hp1, rfl, rfl⟩
theorem st25 (C : Ctx K mg base) (hr : Room 9 (XL P w K mg base f cd A outer s H0 E).A) : Step (XL P w K mg base f cd A outer s H0 E) (ls 25) (M24 K p0 d) (M25 K p0 d) := by
  have nn := sc_law.nd
  refine ⟨_, ps_set (i := 27) nn rfl (by first | exact Or.inl rfl | exact Or.inr rfl) (pe_callB (cr_sum rfl) (by rfl) C.t.b_sum (by decide +kernel) (pa_cons (pe_lock (pe_lc (own := [("name", 34)]) (g := gName 34) rfl nn (pi_keys (pv 25)) (blkOk_by (N := n_law) (sc := defScope s_law) (by decide +kernel)) (fun _ _ _ _ _ => (pg_name (i := 34) nn rfl (by first | exact Or.inl rfl | exact Or.inr rfl))) (fun _ _ _ _ _ => pts_nil)
    (fun _ _ _ _ _ => by exact pe_op op_mul (pe_dget (hu_of hr) (pv 25) (pv 34) (fun _ _ => rfl)) (pe_callB call_len_str (by rfl) C.t.b_len PySem.boot_len (pa_cons (pe_dget (hu_of hr) (pv 26) (pv 34) (fun _ _ => rfl)) pa_nil))))) pa_nil)), fun D σ H hM hq => ?_⟩
  obtain ⟨B, ca, sa, cs, hl, h2, h25, h26, g, L, hc, hs, hne⟩ := hM
  obtain ⟨a0, a1, a2, a3, a4, a5, a6, a7, a8, a9, a10, a11, a12, a13, a14, a15, a16, a17, a18, a19, a20, a21, a22, a23, a24, a25, a26, a27, a28, a29, a30, a31, a32, a33, a34, rfl⟩ := ex35 hl
  cases h2; cases h25; cases h26
  have hcH := L.le.at hc
  refine ⟨ca, _, hcH, trivial, fun od => ?_⟩
  have TL := tabs_lock (o := od) L.tab hcH trivial
  refine ⟨_, rfl, ca, od, rfl, .inl ⟨_, upd_same, fun D1 hD => ?_⟩⟩
  have hDc : ca ≠ D1 := fun z => by rw [← z, upd_same] at hD; cases hD
  have hDH : H D1 = none := by rw [upd_ne (Ne.symm hDc)] at hD; exact hD
  have hs1 : upd H ca (.frz od (dI cs)) sa = some (dS (ssOf cs)) := at_lock (L.le.at hs) (Ne.symm hne)
  refine lc_n cs.length (fun i H' => Le (T K) (upd H ca (.frz od (dI cs))) H' ∧ ∃ ns : List Int, ns.length = i ∧ ns.sum = wlen (cs.take i) (ssOf cs) ∧ H' D1 = some (.lst (ns.map V.int))) ⟨(Le.refl TL).new hD, [], rfl, rfl, upd_same⟩
    (fun i H2 hi ⟨L2, ns, e1, e2, e3⟩ => ⟨⟨L2.at upd_same, by rw [ents_len]; exact hi⟩, ?_⟩) (fun H2 ⟨L2, ns, e1, e2, e3⟩ => ⟨⟨L2.at upd_same, by rw [ents_len]; exact Nat.le_refl _⟩, L2.at upd_same, ?_⟩)
  · rintro x H3 ⟨rfl, k, v, hk, rfl⟩
    obtain ⟨p, hp, rfl, rfl⟩ := ents_at hk
    have hm := List.mem_of_getElem? hp
    obtain ⟨v1, v30⟩ := g.v p hm
    obtain ⟨k1, k2⟩ := g.sg (n := p.1) (List.mem_map.mpr ⟨p, hm, rfl⟩)
    refine ⟨rfl, ?_⟩
    refine yes_ ?_
    refine iteT ?_
    refine ⟨_, rfl, _, rfl, ca, _, rfl, dget_rd (.inr ⟨od, L2.at upd_same⟩) (look_of g.nd hm), ?_⟩
    refine ⟨_, rfl, _, rfl, sa, _, rfl, dget_of (L2.at hs1) k1, ?_⟩
    refine ⟨_, rfl, lenS_le k2 (by decide), _, _, rfl, rfl, .inl ⟨by omega, by omega⟩, _, e3, ?_, L2.set hD e3, ns ++ [p.2 * ((sg (ssOf cs) p.1).length : Nat)], by rw [List.length_append, e1]; rfl, ?_, ?_⟩
    · rw [List.length_map, e1]
      exact Nat.lt_of_lt_of_le (show i < 64 by have := g.l5; omega) (by decide)
    · rw [List.sum_append, List.sum_singleton, e2, take_snoc hp]
      unfold wlen
      rw [List.map_append, List.sum_append, List.map_cons, List.map_nil, List.sum_singleton, k1]
      rfl
    · rw [upd_same, List.map_append]
      show some (HO.lst (ns.map V.int ++ [V.int (p.2 * (((S (sg (ssOf cs) p.1)).length : Nat) : Int))])) = _
      rw [S_len]
      rfl
  · rw [List.take_of_length_le (Nat.le_refl _)] at e2
    have LF : Le (T K) H (upd H2 ca (dI cs)) := Le.unlock hcH trivial L2
    refine ⟨D1, ns, rfl, SqL.of ((upd_ne (Ne.symm hDc)).trans e3), ?_⟩
    rw [e2]
    exact hq _ _ ⟨B, ca, sa, cs, rfl, rfl, rfl, rfl, rfl, g, L.to LF, hc, hs, hne⟩
theorem iteNT {c A B : Prop} [Decidable c] (hc : ¬ c) (h : A) : if (!decide c) = true then A else B := by
  rw [decide_eq_false hc]
  exact iteT h
theorem iteDF {c A B : Prop} [Decidable c] (hc : ¬ c) (h : B) : if decide c = true then A else B := by
  rw [decide_eq_false hc]
  exact iteF h
theorem st26 (C : Ctx K mg base) (hr : Room 9 (XL P w K mg base f cd A outer s H0 E).A) : Step (XL P w K mg base f cd A outer s H0 E) (ls 26) (M25 K p0 d) (M25 K p0 d) := by
  have nn := sc_law.nd
  refine ⟨_, ps_lock (ps_for ownsA rfl (pi_keys (pv 26)) (pg_name (i := 13) nn rfl (by first | exact Or.inl rfl | exact Or.inr rfl)) (pss_one (ps_if (pt_cmpR (op_neD hr.units) (pe_lc (own := [("other", 30)]) (g := gName 30) rfl nn (pi_keys (pv 26)) (blkOk_by (N := n_law) (sc := defScope s_law) (by decide +kernel)) (fun _ _ _ _ _ => (pg_name (i := 30) nn rfl (by first | exact Or.inl rfl | exact Or.inr rfl)))
      (fun _ _ _ _ _ => by exact pts_one (PW.pt (pw_and (pt_cmpR op_ne (pv 13) (pv 30) (nomark _)) (pw_and1 (pt_cmpR op_eq (pe_slice sl_str (pe_dget (hu_of hr) (pv 26) (pv 30) (fun _ _ => rfl)) po_none (po_some (pe_callB call_len_str (by rfl) C.t.b_len PySem.boot_len (pa_cons (pe_dget (hu_of hr) (pv 26) (pv 13) (fun _ _ => rfl)) pa_nil)))) (pe_dget (hu_of hr) (pv 26) (pv 13) (fun _ _ => rfl)) (nomark _))))))
      (fun _ _ _ _ _ => pe_int)) (pe_lst pa_nil) (nomark _)) (pss_one (ps_ret pe_bl)) pss_nil))), fun D σ H hM hq => ?_⟩
  obtain ⟨B, ca, sa, cs, hl, h2, h25, h26, h27, g, L, hc, hs, hne⟩ := hM
  have hsH := L.le.at hs
  refine ⟨sa, _, hsH, trivial, fun od => ?_⟩
  have TL := tabs_lock (o := od) L.tab hsH trivial
  refine ⟨_, h26, sa, od, rfl, .inl ⟨_, upd_same, ?_⟩⟩
  have lss : (ssOf cs).length = cs.length := by
    have := congrArg List.length (GoodN.names (cs := cs))
    rwa [List.length_map, List.length_map] at this
  refine for_n (ssOf cs).length (fun i σ H' => σ.length = 35 ∧ At σ 2 (.ref d) ∧ At σ 25 (.ref ca) ∧ At σ 26 (.ref sa) ∧ At σ 27 (.int (wlen cs (ssOf cs))) ∧ Le (T K) (upd H sa (.frz od (dS (ssOf cs)))) H') ⟨hl, h2, h25, h26, h27, Le.refl TL⟩
    (fun i σ H1 hi ⟨hl, h2, h25, h26, h27, L1⟩ => ⟨⟨L1.at upd_same, by rw [ents_len]; exact hi⟩, ?_⟩)
    (fun σ H1 ⟨hl, h2, h25, h26, h27, L1⟩ => ⟨⟨L1.at upd_same, by rw [ents_len]; exact Nat.le_refl _⟩, L1.at upd_same, hq _ _ ⟨B, ca, sa, cs, hl, h2, h25, h26, h27, g, L.to (Le.unlock hsH trivial L1), hc, hs, hne⟩⟩)
  rintro x H2 ⟨rfl, k, v, hk, rfl⟩
  obtain ⟨p, hp, rfl, rfl⟩ := ents_at hk
  have hpn : p.1 ∈ nsOf cs := by rw [← GoodN.names]; exact List.mem_map.mpr ⟨p, List.mem_of_getElem? hp, rfl⟩
  obtain ⟨k1, k2⟩ := g.sg hpn
  obtain ⟨a0, a1, a2, a3, a4, a5, a6, a7, a8, a9, a10, a11, a12, a13, a14, a15, a16, a17, a18, a19, a20, a21, a22, a23, a24, a25, a26, a27, a28, a29, a30, a31, a32, a33, a34, rfl⟩ := ex35 hl
  cases h2; cases h25; cases h26; cases h27
  refine ⟨_, rfl, sa, od, rfl, .inl ⟨_, L1.at upd_same, fun D1 hD => ?_⟩⟩
  refine lc_n (ssOf cs).length (fun i H' => Le (T K) H2 H' ∧ H' D1 = some (.lst [])) ⟨(Le.refl L1.tab).new hD, upd_same⟩
    (fun i H5 hi ⟨L2, e3⟩ => ⟨⟨(L1.trans L2).at upd_same, by rw [ents_len]; exact hi⟩, ?_⟩) (fun H5 ⟨L2, e3⟩ => ⟨⟨(L1.trans L2).at upd_same, by rw [ents_len]; exact Nat.le_refl _⟩, ?_⟩)
  · rintro x H6 ⟨rfl, k, v, hk, rfl⟩
    obtain ⟨p2, hp2, rfl, rfl⟩ := ents_at hk
    have hpn2 : p2.1 ∈ nsOf cs := by rw [← GoodN.names]; exact List.mem_map.mpr ⟨p2, List.mem_of_getElem? hp2, rfl⟩
    obtain ⟨j1, j2⟩ := g.sg hpn2
    have hrd : ∀ {n : Str}, n ∈ nsOf cs → DGet H6 sa (.str n) (some (sV (sg (ssOf cs) n))) := fun {n} hn => dget_rd (.inr ⟨od, (L1.trans L2).at upd_same⟩) (g.sg hn).1
    refine ⟨rfl, ?_⟩
    refine ⟨_, rfl, _, rfl, rfl, _, rfl, ?_⟩
    by_cases hnm : p.1 = p2.1
    · exact iteNS (show V.str p.1 = V.str p2.1 by rw [hnm]) (iteF ⟨L2, e3⟩)
    · refine iteNT (show ¬ V.str p.1 = V.str p2.1 from fun z => hnm (V.str.inj z)) ?_
      refine ⟨_, rfl, _, rfl, sa, _, rfl, hrd hpn2, _, rfl, _, rfl, sa, _, rfl, hrd hpn, _, rfl, lenS_le k2 (by decide), _, rfl, _, rfl, lenS_le j2 (by decide), ?_⟩
      rw [S_len, cut_lo]
      refine ⟨_, rfl, _, rfl, sa, _, rfl, hrd hpn, rfl, _, rfl, ?_⟩
      have hno := g.code.pre p.1 hpn p2.1 hpn2 hnm
      exact iteDF (show ¬ V.str (S ((sg (ssOf cs) p2.1).take (sg (ssOf cs) p.1).length)) = sV (sg (ssOf cs) p.1) from fun z => hno (List.prefix_iff_eq_take.mpr (S_inj (V.str.inj z)).symm)) ⟨L2, e3⟩
  · refine ⟨by show 0 ≤ sizeLine; decide, fun q hqn => ?_⟩
    refine ⟨.list [], .list [], .lst (SqL.of ((upd_ne (ne_of_none e3 hqn)).trans e3)) .nil, .lst (SqL.of upd_same) .nil, by decide +kernel, by decide +kernel, _, rfl, ?_⟩
    rw [show PyData.eqv (.list []) (.list []) = true by decide +kernel]
    exact iteF ⟨rfl, rfl, rfl, rfl, rfl, (L1.trans L2).new hqn⟩
theorem st27 (C : Ctx K mg base) (hr : Room 9 (XL P w K mg base f cd A outer s H0 E).A) : Step (XL P w K mg base f cd A outer s H0 E) (ls 27) (M25 K p0 d) (M25 K p0 d) := by
  have nn := sc_law.nd
  refine ⟨_, ps_if (pt_cmpR (op_neD hr.units) (pe_callB (call_sortedD rfl) (by rfl) C.t.b_sorted (by decide +kernel) (pa_cons (pv 26) pa_nil)) (pe_callB (call_sortedD rfl) (by rfl) C.t.b_sorted (by decide +kernel) (pa_cons (pv 25) pa_nil)) (nomark _)) (pss_one (ps_ret pe_bl)) pss_nil, fun D σ H hM hq => ?_⟩
  obtain ⟨B, ca, sa, cs, hl, h2, h25, h26, h27, g, L, hc, hs, hne⟩ := hM
  have g5 := g.l5
  have l1 : (nsOf cs).length < 64 := by rw [List.length_map]; omega
  refine ⟨_, h26, sa, _, nsOf cs, rfl, .inl (L.le.at hs), by rw [ents_keys, GoodN.names], l1, fun ys p hp hsy hpn => ?_⟩
  have L1 := L.new (o := .lst (ys.map V.str)) hpn
  have hp1 : upd H p (.lst (ys.map V.str)) p = some (.lst (ys.map V.str)) := upd_same
  generalize upd H p (.lst (ys.map V.str)) = H1 at L1 hp1
  refine ⟨_, h25, ca, _, nsOf cs, rfl, .inl (L1.le.at hc), by rw [ents_keys], l1, fun zs q hz hsz hqn => ?_⟩
  have e1 : ys = nsOf cs := sorted_uniq hsy g.srt hp
  have e2 : zs = nsOf cs := sorted_uniq hsz g.srt hz
  subst e1; subst e2
  have sh : SeqAt.shaped (.list ((nsOf cs).map PyData.str)) = true := shaped_names fun x hx => g.okT hx
  refine ⟨_, _, .lst (SqL.of ((upd_ne (ne_of_none hp1 hqn)).trans hp1)) (DpAll.strs _), .lst (SqL.of upd_same) (DpAll.strs _), sh, sh, _, rfl, ?_⟩
  have ev : PyData.eqv (.list ((nsOf cs).map PyData.str)) (.list ((nsOf cs).map PyData.str)) = true := (eqv_strs _ _).trans (decide_eq_true rfl)
  rw [ev]
  exact iteF (hq _ _ ⟨B, ca, sa, cs, hl, h2, h25, h26, h27, g, L1.new hqn, hc, hs, hne⟩)
end
end K1

-- text K1Lm
set_option maxRecDepth 100000
set_option maxHeartbeats 4000000
namespace K1
open PySem PySem.Spec PyProof.Rows L2 LamX GX
section
variable {P : Program} {w : World} {K : PySem.W.Frag} {mg : Str → Option Value} {base : Heap}
variable {f : Addr} {cd : Value} {A : Around} {outer : List Env} {s : Shared} {H0 : Hp} {E : XK} {p0 d : Addr}
theorem pe_ex {X : Cx} {e : Expr} {t : Nat → TE} {m : Nat} (h : ∀ n, n ≤ m → PE X e (t n)) : PE X e (fun σ H Q => ∃ n, n ≤ m ∧ t n σ H Q) := ⟨fun pins s σ H Q I ⟨n, hn, g⟩ => (h n hn).run pins s σ H Q I g⟩
theorem st28 (C : Ctx K mg base) (hr : Room 9 (XL P w K mg base f cd A outer s H0 E).A) : Step (XL P w K mg base f cd A outer s H0 E) (ls 28) (M25 K p0 d) (M25 K p0 d) := by
  have nn := sc_law.nd
  refine ⟨_, ps_if (PW.pt (pw_or (pt_cmpR op_ne (pe_cx (ok_len (P := P) (w := w) C) hr (by decide) rfl passA (pa_cons (pv 25) (pa_cons (pv 26) pa_nil))) (pv 27) (nomark _))
    (pw_or1 (pt_cmpR op_ne (pv 27) (pe_ifExp (pt_cmpR op_gt (pe_callB call_lenD (by rfl) C.t.b_len PySem.boot_len (pa_cons (pv 25) pa_nil)) pe_int (nomark _))
      (pe_ex (m := 4) fun n hn => pe_cx (ok_least (P := P) (w := w) C n) hr (by omega) rfl passA (pa_cons (pe_callTy call_tuple_of (by rfl) C.t.b_tuple (by decide +kernel) (pa_cons (pe_sortVals rfl (by rfl) C.t.b_sorted (pv 25)) pa_nil)) pa_nil))
      (pe_dget (hu_of hr) (pv 25) pe_str (fun _ _ => rfl))) (nomark _))))) (pss_one (ps_ret pe_bl)) pss_nil, fun D σ H hM hq => ?_⟩
  obtain ⟨B, ca, sa, cs, hl, h2, h25, h26, h27, g, L, hc, hs, hne⟩ := hM
  have g1 := g.l1
  have g5 := g.l5
  have lss : (ssOf cs).length = cs.length := by
    have := congrArg List.length (GoodN.names (cs := cs))
    rwa [List.length_map, List.length_map] at this
  refine ⟨_, h25, _, h26, ca, sa, cs, ssOf cs, rfl, hne, L.le.at hc, L.le.at hs, L.tab, by omega, by omega, g.nd, fun p hp => ⟨g.okT (List.mem_map.mpr ⟨p, hp, rfl⟩), by have := (g.v p hp).1; omega, by have := (g.v p hp).2; omega⟩, g.ss, fun _ H1 L1 => ?_, fun z => absurd (by rw [GoodN.names]) z⟩
  have M1 := L.to L1
  refine ⟨_, h27, rfl, _, rfl, ?_⟩
  refine iteNS rfl ?_
  refine ⟨_, h27, _, h25, ca, _, rfl, M1.le.at hc, _, _, rfl, rfl, _, rfl, ?_⟩
  rw [ents_len]
  by_cases h1 : 1 < cs.length
  · rw [decide_eq_true (show (1 : Int) < ((cs.length : Nat) : Int) by omega)]
    refine iteT ⟨cs.length - 1, by omega, _, h25, ca, _, cs.map (·.2), rfl, M1.le.at hc, by unfold ents; rw [List.map_map, List.map_map]; rfl, by rw [List.length_map]; omega, fun ns p perm rise hp => ?_⟩
    have M2 := M1.new (o := .lst (ns.map V.int)) hp
    refine ⟨p, _, rfl, .inl ⟨SqL.of upd_same, fun t ht => ?_⟩⟩
    have M3 := M2.new (o := .tup (ns.map V.int)) ht
    have e : ns = sortI (cs.map (·.2)) := ints_uniq rise (sortI_rise _) (perm.trans (sortI_perm _).symm)
    refine ⟨t, ns, rfl, SqT.of upd_same, M3.tab, ?_, by omega, fun H4 L4 => ?_⟩
    · rw [perm.length_eq, List.length_map]; omega
    · refine ⟨rfl, _, rfl, ?_⟩
      refine iteNS ?_ (hq _ _ ⟨B, ca, sa, cs, hl, h2, h25, h26, h27, g, M3.to L4, hc, hs, hne⟩)
      rw [e, ← short_least (List.Perm.refl _) g.nd (by omega) g5]
  · rw [decide_eq_false (show ¬ (1 : Int) < ((cs.length : Nat) : Int) by omega)]
    obtain ⟨p, rfl⟩ : ∃ p, cs = [p] := List.length_eq_one_iff.mp (by omega)
    have en : p.1 = ("n0" : Str) := by
      have := g.nms
      have e : nmL 1 = [("n0" : Str)] := by decide +kernel
      have this : [p.1] = nmL 1 := this
      rw [e] at this
      exact List.head_eq_of_cons_eq this
    refine iteF ⟨_, h25, ca, _, rfl, dget_of (v := p.2) (M1.le.at hc) (by rw [← en]; exact look_of g.nd List.mem_cons_self), rfl, _, rfl, ?_⟩
    refine iteNS ?_ (hq _ _ ⟨B, ca, sa, [p], hl, h2, h25, h26, h27, g, M1, hc, hs, hne⟩)
    rw [short_least1 (List.Perm.refl _) g.nd rfl]
def M29 (K : PySem.W.Frag) (p0 d : Addr) (σ : _root_.L2.St) (H : Hp) : Prop := ∃ B sa na cs, ∃ out : List Str, σ.length = 35 ∧ At σ 2 (.ref d) ∧ At σ 26 (.ref sa) ∧ At σ 28 (.ref na) ∧ GoodN cs ∧ Lw K p0 d B H ∧ B sa = some (dS (ssOf cs)) ∧ B na = some (.lst (out.map V.str)) ∧ out.length ≤ 5 ∧ ∀ n ∈ out, n ∈ nsOf cs
theorem st29 (C : Ctx K mg base) (hr : Room 9 (XL P w K mg base f cd A outer s H0 E).A) : Step (XL P w K mg base f cd A outer s H0 E) (ls 29) (M25 K p0 d) (M29 K p0 d) := by
  have nn := sc_law.nd
  refine ⟨_, ps_setLcX (i := 28) (own := [("k", 12)]) (g := gName 12) rfl nn rfl rfl takesA rfl rfl (sw_true rfl rfl rfl (by decide +kernel)) (pi_range1 (by rfl) C.t.b_range (pa_cons (pe_cx (ok_roll (P := P) (w := w) C) hr (by decide) rfl passA (pa_cons (pv 2) (pa_cons pe_int pa_nil))) pa_nil)) (blkOk_by (N := n_law) (sc := defScope s_law) (by decide +kernel))
     (fun _ _ _ _ _ => pg_name (i := 12) nn rfl (Or.inl rfl)) (fun _ _ _ _ _ => pts_nil)
     (fun _ _ _ _ _ _ _ px => by exact pe_ix (r := rIxL K) ix_list (pe_callB (call_sortedD rfl) (by rfl) C.t.b_sorted (by decide +kernel) (pa_cons (pv 25) pa_nil)) (pe_cx (ok_roll (P := P) (w := w) C) hr (by decide) rfl px (pa_cons (pv 2) (pa_cons (pe_callB call_lenD (by rfl) C.t.b_len PySem.boot_len (pa_cons (pv 25) pa_nil)) pa_nil))) (fun _ _ => rfl)), fun D σ H hM hq => ?_⟩
  obtain ⟨B, ca, sa, cs, hl, h2, h25, h26, h27, g, L, hc, hs, hne⟩ := hM
  have g1 := g.l1
  have g5 := g.l5
  have l1 : (nsOf cs).length < 64 := by rw [List.length_map]; omega
  obtain ⟨a0, a1, a2, a3, a4, a5, a6, a7, a8, a9, a10, a11, a12, a13, a14, a15, a16, a17, a18, a19, a20, a21, a22, a23, a24, a25, a26, a27, a28, a29, a30, a31, a32, a33, a34, rfl⟩ := ex35 hl
  cases h2; cases h25; cases h26; cases h27
  obtain ⟨qx, qy, qz, qd⟩ := L.dice
  refine ⟨_, rfl, d, qx, qy, qz, _, rfl, qd, by omega, by omega, fun qx qy qz qr q0 q1 => ?_⟩
  obtain ⟨r, hr, rfl⟩ : ∃ k : Nat, k < 6 ∧ qr = (k : Int) := ⟨qr.toNat, by omega, by omega⟩
  have L1 := L.roll qx qy qz
  have samer : ∀ a, a ≠ d → upd H d (dV qx qy qz) a = H a := fun a n => upd_ne n
  generalize upd H d (dV qx qy qz) = H1 at L1 samer ⊢
  clear q0 q1 qd
  refine ⟨_, rfl, by omega, by omega, fun D1 hD => ?_⟩
  have hDd : D1 ≠ d := L1.ne_new hD
  have hDB : B D1 = none := L1.le.no D1 hD
  refine lc_range (lo := 0) (n := r) (fun i H' => Lw K p0 d B H' ∧ ∃ out : List Str, out.length = i ∧ (∀ n ∈ out, n ∈ nsOf cs) ∧ H' D1 = some (.lst (out.map V.str))) ⟨L1.new hD, [], rfl, (fun p hp => by cases hp), upd_same⟩ (fun i H2 hi ⟨L2, out, e1, e2, e3⟩ => ?_) (fun H2 ⟨L2, out, e1, e2, e3⟩ => ?_)
  · refine ⟨rfl, ?_⟩
    refine yes_ ?_
    refine iteT ?_
    refine ⟨_, rfl, ca, _, nsOf cs, rfl, .inl (L2.le.at hc), by rw [ents_keys], l1, fun ys p hp hsy hpn => ?_⟩
    have e : ys = nsOf cs := sorted_uniq hsy g.srt hp
    subst e
    have hpd : p ≠ d := L2.ne_new hpn
    have L3 := L2.new (o := .lst ((nsOf cs).map V.str)) hpn
    have e4 : upd H2 p (.lst ((nsOf cs).map V.str)) D1 = some (.lst (out.map V.str)) := (upd_ne (ne_of_none e3 hpn)).trans e3
    have hp1 : upd H2 p (.lst ((nsOf cs).map V.str)) p = some (.lst ((nsOf cs).map V.str)) := upd_same
    generalize upd H2 p (.lst ((nsOf cs).map V.str)) = H3 at L3 hp1 e4
    have hlc : ((ents V.int cs).length : Nat) = cs.length := ents_len _ _
    refine ⟨_, rfl, _, rfl, ca, _, rfl, L3.le.at hc, ?_⟩
    rw [hlc]
    obtain ⟨qx, qy, qz, qd⟩ := L3.dice
    refine ⟨d, qx, qy, qz, _, rfl, qd, by omega, by omega, fun qx qy qz qr q0 q1 => ?_⟩
    obtain ⟨k, hk, rfl⟩ : ∃ k : Nat, k < cs.length ∧ qr = (k : Int) := ⟨qr.toNat, by omega, by omega⟩
    have L4 := L3.roll qx qy qz
    have samek : ∀ a, a ≠ d → upd H3 d (dV qx qy qz) a = H3 a := fun a n => upd_ne n
    generalize upd H3 d (dV qx qy qz) = H4 at L4 samek ⊢
    clear q0 q1 qd
    have e5 := (samek D1 hDd).trans e4
    have hp4 := (samek p hpd).trans hp1
    have hkl : k < (nsOf cs).length := by rw [List.length_map]; exact hk
    refine ⟨p, _, _, _, rfl, rfl, SqL.of hp4, atI_nat (j := k) (by rw [List.getElem?_map, List.getElem?_eq_getElem hkl]; rfl), _, e5, ?_, L4.set hDB e5 (hne := hDd), out ++ [(nsOf cs)[k]], by rw [List.length_append, e1]; rfl, fun x hx => ?_, ?_⟩
    · rw [List.length_map, e1]
      exact Nat.lt_of_lt_of_le (show i < 64 by omega) (by decide)
    · rcases List.mem_append.mp hx with hx | hx
      · exact e2 x hx
      · rw [List.mem_singleton.mp hx]; exact List.getElem_mem hkl
    · rw [upd_same, List.map_append]
      rfl
  · obtain ⟨L4, L5⟩ := L2.rebase
    exact hq _ _ ⟨_, sa, D1, cs, out, rfl, rfl, rfl, rfl, g, L4, L5.at hs, hide_at e3 hDd, by omega, e2⟩
def M30 (K : PySem.W.Frag) (p0 d : Addr) (σ : _root_.L2.St) (H : Hp) : Prop := ∃ B sa na cs, ∃ out : List Str, σ.length = 35 ∧ At σ 2 (.ref d) ∧ At σ 26 (.ref sa) ∧ At σ 28 (.ref na) ∧ At σ 29 (.str (S (joined (ssOf cs) out))) ∧ GoodN cs ∧ Lw K p0 d B H ∧ B sa = some (dS (ssOf cs)) ∧ B na = some (.lst (out.map V.str)) ∧ out.length ≤ 5 ∧ ∀ n ∈ out, n ∈ nsOf cs
theorem joinL_nil : ∀ xs : List (List Nat), TL.joinL [] xs = xs.flatten
  | [] => rfl
  | [x] => by show x = _; simp
  | x :: y :: r => by
    show x ++ ([] ++ TL.joinL [] (y :: r)) = _
    rw [joinL_nil (y :: r)]
    rfl
theorem joined_len {cs : SD Int} (g : GoodN cs) : ∀ out : List Str, (∀ n ∈ out, n ∈ nsOf cs) → (joined (ssOf cs) out).length ≤ out.length * 5
  | [], _ => Nat.zero_le _
  | n :: r, h => by
    have := joined_len g r fun m hm => h m (List.mem_cons_of_mem _ hm)
    have h2 := (g.sg (h n List.mem_cons_self)).2
    unfold joined at this ⊢
    rw [List.map_cons, List.flatten_cons, List.length_append, List.length_cons, Nat.succ_mul]
    omega
theorem st30 (C : Ctx K mg base) (hr : Room 9 (XL P w K mg base f cd A outer s H0 E).A) : Step (XL P w K mg base f cd A outer s H0 E) (ls 30) (M29 K p0 d) (M30 K p0 d) := by
  have nn := sc_law.nd
  refine ⟨_, ps_set (i := 29) nn rfl (by first | exact Or.inl rfl | exact Or.inr rfl) (pe_join pe_str (pe_lc (own := [("name", 34)]) (g := gName 34) rfl nn (pi_list (pv 28)) (blkOk_by (N := n_law) (sc := defScope s_law) (by decide +kernel)) (fun _ _ _ _ _ => (pg_name (i := 34) nn rfl (by first | exact Or.inl rfl | exact Or.inr rfl))) (fun _ _ _ _ _ => pts_nil)
    (fun _ _ _ _ _ => by exact pe_dget (hu_of hr) (pv 26) (pv 34) (fun _ _ => rfl)))), fun D σ H hM hq => ?_⟩
  obtain ⟨B, sa, na, cs, out, hl, h2, h26, h28, g, L, hs, hn, lo, ho⟩ := hM
  obtain ⟨a0, a1, a2, a3, a4, a5, a6, a7, a8, a9, a10, a11, a12, a13, a14, a15, a16, a17, a18, a19, a20, a21, a22, a23, a24, a25, a26, a27, a28, a29, a30, a31, a32, a33, a34, rfl⟩ := ex35 hl
  cases h2; cases h26; cases h28
  refine ⟨⟨_, rfl⟩, _, rfl, na, rfl, ⟨_, SqL.of (L.le.at hn)⟩, fun D1 hD => ?_⟩
  refine lc_list (K := K) (a := na) (xs := out.map V.str) (fun i H' => Le (T K) H H' ∧ H' D1 = some (.lst ((((out.take i).map (sg (ssOf cs))).map S).map V.str))) ⟨(Le.refl L.tab).new hD, upd_same⟩ (fun i H' _ hP => SqL.of ((L.to hP.1).le.at hn)) (fun i x H1 hx ⟨L1, h1⟩ => ?_) (fun H1 ⟨L1, h1⟩ => ?_)
  · obtain ⟨n, hx1, rfl⟩ := GX.get_map hx
    have hil : i < out.length := (List.getElem?_eq_some_iff.mp hx1).1
    obtain ⟨k1, k2⟩ := g.sg (ho n (List.mem_of_getElem? hx1))
    refine ⟨rfl, ?_⟩
    refine yes_ ?_
    refine iteT ?_
    refine ⟨_, rfl, _, rfl, sa, _, rfl, dget_of ((L.to L1).le.at hs) k1, _, h1, ?_, L1.set hD h1, ?_⟩
    · rw [List.length_map, List.length_map, List.length_map, List.length_take]
      exact Nat.lt_of_le_of_lt (Nat.min_le_left _ _) (Nat.lt_of_lt_of_le (show i < 64 by omega) (by decide))
    · rw [upd_same, take_snoc hx1, List.map_append, List.map_append, List.map_append]
      rfl
  · rw [List.length_map, List.take_of_length_le (Nat.le_refl _)] at h1
    have hsum : (((out.map (sg (ssOf cs))).map S).map (·.length)).sum + ((out.map (sg (ssOf cs))).map S).length * (S []).length ≤ 16777216 := by
      have : ∀ ys : List Str, (∀ n ∈ ys, n ∈ nsOf cs) → (((ys.map (sg (ssOf cs))).map S).map (·.length)).sum ≤ ys.length * 5 := by
        intro ys
        induction ys with
        | nil => intro _; exact Nat.zero_le _
        | cons y r ih =>
          intro h
          have h1 := ih fun z hz => h z (List.mem_cons_of_mem _ hz)
          have h2 := (g.sg (h y List.mem_cons_self)).2
          rw [List.map_cons, List.map_cons, List.map_cons, List.sum_cons, S_len, List.length_cons]
          omega
      have h3 := this out ho
      rw [S_len]
      simp only [List.length_nil, Nat.mul_zero]
      omega
    refine ⟨S [], D1, (out.map (sg (ssOf cs))).map S, by decide +kernel, rfl, .inl (SqL.of h1), hsum, ?_⟩
    have ej : Txt.join (S []) ((out.map (sg (ssOf cs))).map S) = S (TL.joinL [] (out.map (sg (ssOf cs)))) := SX.join_S [] (out.map (sg (ssOf cs)))
    rw [ej, joinL_nil]
    exact hq _ _ ⟨B, sa, na, cs, out, rfl, rfl, rfl, rfl, rfl, g, L.to L1, hs, hn, lo, ho⟩
theorem st31 (C : Ctx K mg base) (hr : Room 9 (XL P w K mg base f cd A outer s H0 E).A) : Step (XL P w K mg base f cd A outer s H0 E) (ls 31) (M30 K p0 d) (M14 K p0 d) := by
  have nn := sc_law.nd
  refine ⟨_, ps_if (PW.pt (pw_or (pt_cmpR (op_neD hr.units) (pe_cx (ok_cut (P := P) (w := w) C) hr (by decide) rfl passA (pa_cons (pv 29) (pa_cons (pv 26) pa_nil))) (pe_callTy call_tuple_of (by rfl) C.t.b_tuple (by decide +kernel) (pa_cons (pv 28) pa_nil)) (nomark _))
    (pw_or1 (pt_cmpR op_notN (pe_cx (ok_cut (P := P) (w := w) C) hr (by decide) rfl passA (pa_cons (pe_op op_add_str (pv 29) pe_str) (pa_cons (pv 26) pa_nil))) pe_non (nomark _))))) (pss_one (ps_ret pe_bl)) pss_nil, fun D σ H hM hq => ?_⟩
  obtain ⟨B, sa, na, cs, out, hl, h2, h26, h28, h29, g, L, hs, hn, lo, ho⟩ := hM
  have g5 := g.l5
  have jl := joined_len g out ho
  have lss : (ssOf cs).length = cs.length := by
    have := congrArg List.length (GoodN.names (cs := cs))
    rwa [List.length_map, List.length_map] at this
  have ndS : ((ssOf cs).map (·.1)).Nodup := by rw [GoodN.names]; exact g.nd
  have nsu : ∀ ns : List Str, ns.Perm ((ssOf cs).map (·.1)) → sortedS ns = true → ns = nsOf cs := fun ns hp hs => sorted_uniq hs g.srt (by rw [GoodN.names] at hp; exact hp)
  refine ⟨_, h29, _, h26, sa, joined (ssOf cs) out, ssOf cs, rfl, L.le.at hs, L.tab, by omega, by omega, ndS, g.ss, fun ns hp hsn => ?_⟩
  have e := nsu ns hp hsn
  subst e
  refine ⟨fun z => absurd z (not_cutBad g.code), fun _ H1 L1 => ⟨fun z => (by rw [cut_names g.code ho] at z; cases z), fun out2 ho2 p hpn => ?_⟩⟩
  rw [cut_names g.code ho] at ho2
  cases ho2
  have M1 := (L.to L1).new (o := .tup (out.map V.str)) hpn
  have hp1 : upd H1 p (.tup (out.map V.str)) p = some (.tup (out.map V.str)) := upd_same
  generalize upd H1 p (.tup (out.map V.str)) = H2 at M1 hp1
  refine ⟨_, h28, na, _, rfl, .inl ⟨SqL.of (M1.le.at hn), fun q hqn => ?_⟩⟩
  have M2 := M1.new (o := .tup (out.map V.str)) hqn
  have sh : SeqAt.shaped (.tuple (out.map PyData.str)) = true := shaped_tuple fun x hx => by
    obtain ⟨y, hy, rfl⟩ := List.mem_map.mp hx
    exact g.okT (ho y hy)
  refine ⟨_, _, .tup (SqT.of ((upd_ne (ne_of_none hp1 hqn)).trans hp1)) (DpAll.strs _), .tup (SqT.of upd_same) (DpAll.strs _), sh, sh, _, rfl, ?_⟩
  rw [eqv_refl_strs]
  refine iteF ?_
  have ex : ("x" : Str) = S [120] := by decide +kernel
  refine ⟨_, h29, _, _, rfl, rfl, ?_, ?_⟩
  · rw [ex, S_len, S_len]
    simp only [List.length_cons, List.length_nil]
    exact Nat.le_trans (show (joined (ssOf cs) out).length + 1 ≤ 64 by omega) (by decide)
  rw [ex, S_app]
  refine ⟨_, h26, sa, joined (ssOf cs) out ++ [120], ssOf cs, rfl, M2.le.at hs, M2.tab, by omega, by rw [List.length_append]; simp only [List.length_cons, List.length_nil]; omega, ndS, g.ss, fun ns hp hsn => ?_⟩
  have e := nsu ns hp hsn
  subst e
  refine ⟨fun z => absurd z (not_cutBad g.code), fun _ H3 L3 => ⟨fun _ => ?_, fun out2 ho2 p hpn => by rw [cut_rest g.code ho] at ho2; cases ho2⟩⟩
  refine ⟨rfl, _, rfl, ?_⟩
  exact iteF (hq _ _ ⟨B, hl, h2, M2.to L3⟩)
end
end K1

-- text K1Ln
set_option maxRecDepth 100000
set_option maxHeartbeats 4000000
namespace K1
open PySem PySem.Spec PyProof.Rows L2 LamX GX
/-! ### the law, joined -/
def Steps (X : Cx) (sts : List Stmt) (M M' : L2.St → Hp → Prop) : Prop := ∃ t, PSs X sts t ∧ ∀ (D : Ends) (σ : L2.St) (H : Hp), M σ H → (∀ σ' H', M' σ' H' → D.nx σ' H') → t D σ H
theorem Steps.nil {X : Cx} {M : L2.St → Hp → Prop} : Steps X [] M M := ⟨_, pss_nil, fun D σ H h k => k σ H h⟩
theorem Step.cons {X : Cx} {st : Stmt} {r : List Stmt} {M M1 M' : L2.St → Hp → Prop} (a : Step X st M M1) (b : Steps X r M1 M') : Steps X (st :: r) M M' := by
  obtain ⟨ta, ha, ha2⟩ := a
  obtain ⟨tb, hb, hb2⟩ := b
  exact ⟨_, C8.pss_cut ha hb, fun D σ H h k => ⟨M1, ha2 { D with nx := M1 } σ H h (fun _ _ z => z), fun σ' H' z => hb2 D σ' H' z k⟩⟩
section
variable {P : Program} {w : World} {K : PySem.W.Frag} {mg : Str → Option Value} {base : Heap}
theorem body {f : Addr} {A : Around} {outer : List Env} {s : Shared} {H0 : Hp} {E : XK} {p0 d : Addr} (C : Ctx K mg base) (hr : Room 9 (XL P w K mg base f (cdL K) A outer s H0 E).A) :
    Steps (XL P w K mg base f (cdL K) A outer s H0 E) [ls 0, ls 1, ls 2, ls 3, ls 4, ls 5, ls 6, ls 7, ls 8, ls 9, ls 10, ls 11, ls 12, ls 13, ls 14, ls 15, ls 16, ls 17, ls 18, ls 19, ls 20, ls 21, ls 22, ls 23, ls 24, ls 25, ls 26, ls 27, ls 28, ls 29, ls 30, ls 31] (M0 K p0 d) (M14 K p0 d) :=
  (st0 C hr).cons ((st1 C hr).cons ((st2 C hr).cons ((st3 C hr).cons ((st4 C hr).cons ((st5 C hr).cons ((st6 C hr).cons ((st7 C hr).cons ((st8 C hr).cons ((st9 C hr).cons ((st10 C hr).cons ((st11 C hr).cons ((st12 C hr).cons ((st13 C hr).cons ((st14 C hr).cons ((st15 C hr).cons
  ((st16 C hr).cons ((st17 C hr).cons ((st18 C hr).cons ((st19 C hr).cons ((st20 C hr).cons ((st21 C hr).cons ((st22 C hr).cons ((st23 C hr).cons ((st24 C hr).cons ((st25 C hr).cons ((st26 C hr).cons ((st27 C hr).cons ((st28 C hr).cons ((st29 C hr).cons ((st30 C hr).cons ((st31 C hr).cons .nil)))))))))))))))))))))))))))))))
theorem pss_ex {ι : Type} {X : Cx} {sts : List Stmt} {t : ι → TS} (h : ∀ i, PSs X sts (t i)) : PSs X sts (fun D σ H => ∃ i, t i D σ H) := ⟨fun pins s σ H D I ⟨i, g⟩ => (h i).run pins s σ H D I g⟩
theorem body_ex {f : Addr} {A : Around} {outer : List Env} {s : Shared} {H0 : Hp} {E : XK} (C : Ctx K mg base) (hr : Room 9 (XL P w K mg base f (cdL K) A outer s H0 E).A) :
    ∃ t, PSs (XL P w K mg base f (cdL K) A outer s H0 E) LB t ∧ ∀ (p0 d : Addr) (D : Ends) (σ : L2.St) (H : Hp), M0 K p0 d σ H → (∀ σ' H', M14 K p0 d σ' H' → D.nx σ' H') → t D σ H := by
  have hb := fun x : Addr × Addr => body (P := P) (w := w) (f := f) (A := A) (outer := outer) (s := s) (H0 := H0) (E := E) (p0 := x.1) (d := x.2) C hr
  have h1 : ∀ x : Addr × Addr, PSs (XL P w K mg base f (cdL K) A outer s H0 E) LB (Classical.choose (hb x)) := fun x => (Classical.choose_spec (hb x)).1
  refine ⟨_, pss_ex h1, fun p0 d D σ H hM hq => ⟨(p0, d), (Classical.choose_spec (hb (p0, d))).2 D σ H hM hq⟩⟩
def spLaw (K : PySem.W.Frag) : Sp := fun vs H Q _ => ∃ (sa : Addr) (ns : List Int), vs = [.ref sa] ∧ SqL K H sa (ns.map V.int) ∧ Tabs (T K) H ∧ ∀ H', Q (.bl true) H'
theorem ok_law (C : Ctx K mg base) {fd : FuncData} (F : DefC K ("law", none) "law" "law" s_law [] fd) : FnOk P w K mg base (L2.CX P w) 10 (He.fAd K ("law", none)) fd ["script"] (spLaw K) := by
  refine F.ok sc_law (fun vs H Q E h => ?_) (fun A outer s H vs Q E hr h => ?_)
  · obtain ⟨a, ns, rfl, _⟩ := h
    rfl
  · obtain ⟨sa, ns, rfl, hs, hT, hq⟩ := h
    have nn := sc_law.nd
    obtain ⟨tb, hb1, hb2⟩ := body_ex (P := P) (w := w) (f := He.fAd K ("law", none)) (A := A) (outer := outer) (s := s) (H0 := H) (E := E) C hr
    refine ⟨_, pss_cons (ps_set (i := 1) nn rfl (by first | exact Or.inl rfl | exact Or.inr rfl) (pe_lst (pa_cons pe_str (pa_cons pe_str (pa_cons pe_str (pa_cons pe_str (pa_cons pe_str (pa_cons pe_str (pa_cons pe_str (pa_cons pe_str (pa_cons pe_str (pa_cons pe_str (pa_cons pe_str (pa_cons pe_str pa_nil))))))))))))))
      (pss_cons (ps_for (body := LB) ownsA rfl (pi_list (pe_cx (ok_rounds (P := P) (w := w) C) hr (by decide) rfl passA (pa_cons (pv 0) (pa_cons pe_int pa_nil)))) (pg_name (i := 2) nn rfl (by first | exact Or.inl rfl | exact Or.inr rfl)) hb1)
      (pss_one (ps_ret (pe_cx0 (ok_plain (P := P) (w := w) C) hr (by decide) rfl passA)))), ?_⟩
    refine ⟨by show 12 ≤ sizeLine; decide, fun wa hwa => ?_⟩
    have L1 := (Le.refl hT).new (o := .lst [.str "stop", .str "go", .str "fog", .str "ab", .str "a", .str "b", .str "c", .str "gogo", .str "o", .str "g", .str "f", .str "ship"]) hwa
    have hw1 : upd H wa (.lst [.str "stop", .str "go", .str "fog", .str "ab", .str "a", .str "b", .str "c", .str "gogo", .str "o", .str "g", .str "f", .str "ship"]) wa = some (.lst (wholeW.map sV)) := upd_same
    show tSeq _ _ _ _ (upd H wa (.lst [.str "stop", .str "go", .str "fog", .str "ab", .str "a", .str "b", .str "c", .str "gogo", .str "o", .str "g", .str "f", .str "ship"]))
    generalize upd H wa (.lst [.str "stop", .str "go", .str "fog", .str "ab", .str "a", .str "b", .str "c", .str "gogo", .str "o", .str "g", .str "f", .str "ship"]) = H1 at L1 hw1
    refine ⟨_, rfl, sa, ns, rfl, L1.seqL hs, L1.tab, fun H2 p d x y z L2 hp hd hdn => ?_⟩
    have hpd : p ≠ d := fun e => by rw [e, hd] at hp; cases hp
    have hwd : wa ≠ d := ne_of_none hw1 hdn
    have base0 : Lw K p d (hide H2 d) H2 := ⟨hide_at hp hpd, by unfold hide; rw [if_pos rfl], ⟨fun q u e _ => hide_sub q u e, L2.tab, fun q e => by
      unfold hide
      by_cases hq : q = d
      · rw [if_pos hq]
      · rw [if_neg hq]; exact e⟩, x, y, z, hd⟩
    refine ⟨p, rfl, ⟨_, SqL.of hp⟩, ?_⟩
    refine for_list (xs := [V.ref d]) (fun i σ H' => (i = 0 → σ.length = 35 ∧ At σ 1 (.ref wa) ∧ H' = H2) ∧ (∃ B, Lw K p d B H')) ⟨fun _ => ⟨rfl, rfl, rfl⟩, _, base0⟩ (fun i σ H' _ hP => by
      obtain ⟨B, hB⟩ := hP.2
      exact SqL.of (hB.le.at hB.lp)) (fun i x' σ H' hx hP => ?_) (fun σ H' hP => ?_)
    · cases i with
      | succ i => cases hx
      | zero =>
        cases Option.some.inj hx
        obtain ⟨hl, h1, rfl⟩ := hP.1 rfl
        refine hb2 p d _ _ _ ⟨hide H' d, wa, ?_, ?_, ?_, base0, hide_at (L2.at hw1) hwd⟩ (fun σ' H3 hM => ?_)
        · rw [List.length_set]; exact hl
        · unfold At
          rw [List.getElem?_set_ne (by decide)]; exact h1
        · unfold At
          rw [List.getElem?_set_self (by omega)]
        · obtain ⟨B, hl', h2', L3⟩ := hM
          exact ⟨fun z => (by cases z), B, L3⟩
    · obtain ⟨B, hB⟩ := hP.2
      exact ⟨rfl, hB.tab, fun H3 L3 => hq H3⟩
end
abbrev lawLevel : Nat := 10
def lawCX (w : World) : CXT := L2.CX (PySem.Challenge.rw_signalstack_k01_codes_and_signs).prog w
theorem law_noexc (w : World) (H : Hp) (s : Shared) (e : Value) (s' : Shared) (h : lawCX w [] H s (fun _ _ _ => False) e s') : False := by
  obtain ⟨_, _, _, _, _, _, _, _, _, _, _, _, z⟩ := h
  exact z
theorem law_at {w : World} {K : PySem.W.Frag} {mg : Str → Option Value} {fa' : Addr} {h : Heap} (KX : K.In h) (G : h.Ns mainGlobals mg) (hmg : mg ("law" : Str) = some (.ref fa')) (c : He.SaysX fa fn [] tf ex w h K) : LawAtS PySem.Challenge.rw_signalstack_k01_codes_and_signs w K (lawCX w) lawLevel 63 "script" mg fa' h := by
  have t := txt_of KX G c.t.d
  have d := defs_of c.t.d
  obtain ⟨fd, F⟩ := d.d_law
  have e := hmg.symm.trans t.m_law
  obtain rfl : fa' = He.fAd K ("law", none) := by
    have := Option.some.inj e
    exact Value.ref.inj this
  have b := FunD.bindsA (ps := ["script"]) F.funD fun _ _ _ _ _ _ us hl => (match us, hl with | [_], _ => rfl)
  refine ⟨fd, tf.map (He.cT K), spLaw K, fun p hp => ?_, fun p hp => ?_, fun p hp => ?_, fun s u => b s [u] rfl, fun H a ns _ _ hH hS => ⟨a, ns, rfl, hS, fun p hp => ?_, fun _ => rfl⟩, fun bs hb hg hT => ok_law ⟨t, d, fun p hp => hT _ (List.mem_map.mpr ⟨p, hp, rfl⟩), c.more⟩ F⟩
  · obtain ⟨q, hq, rfl⟩ := List.mem_map.mp hp
    exact c.empty q hq
  · obtain ⟨q, hq, rfl⟩ := List.mem_map.mp hp
    exact c.out q hq
  · obtain ⟨q, hq, rfl⟩ := List.mem_map.mp hp
    exact PySem.W.codeHd_of_K KX (c.hd q hq)
  · obtain ⟨q, hq, rfl⟩ := List.mem_map.mp hp
    exact TabS.nil (hH _ (List.mem_map.mpr ⟨q.1, List.mem_map.mpr ⟨q, hq, rfl⟩, rfl⟩))
end K1

-- text K1Head
set_option maxRecDepth 100000
set_option maxHeartbeats 0
namespace K1
open PySem PySem.Spec PyProof.Rows L2 LamX
abbrev Rw : PySem.W.OpenRow := PySem.W.OpenLaw.row PySem.Challenge.rw_signalstack_k01_codes_and_signs
abbrev hk : PySem.W.Hook := He.hookX 4 fa fn [] tf ex
def ob (s : PySem.W.SharedT) : He.AlX := He.obsX 4 fa fn [] tf ex (HandSHeadRun.getT s)
theorem ob_eq (s : PySem.W.SharedT) : ob s = hk.obs s.abs := He.obsX_eq (HandSHeadRun.getT_eq s)
def lo : List PySem.Str := (["__name__", "SignalError", "CodeError", "MOST_SHUTTERS", "MOST_WORDS", "Book", "check_sign", "far", "nearest_pair", "with_check", "is_whole", "guarded"] : List PySem.Str) ++ (["mended", "short_signs", "heap_key", "whole_length", "cut_up", "_law_dice", "_law_roll", "_law_rounds", "_law_told", "_law_sign", "_law_parts", "_law_least"] : List PySem.Str) ++ (["_law_plain"] : List PySem.Str)
theorem run (w : World) : HandSHeadRun.RunEq Rw (PySem.W.view Rw.prog [27]) hk ob 1500 lo w := by
  intro os
  kernel_rfl
end K1
open PySem PySem.W PySem.Calls PyProof.Rows
theorem PySem.Challenge.cw_signalstack_k01_codes_and_signs_holds : PySem.Challenge.rw_signalstack_k01_codes_and_signs.Holds := by
  w_on; o_law
  refine HandSHeadRun.head_any (r := OpenLaw.row PySem.Challenge.rw_signalstack_k01_codes_and_signs) (q := view (OpenLaw.row PySem.Challenge.rw_signalstack_k01_codes_and_signs).prog [27]) (H := K1.hk) (ob := K1.ob) (M := 1500) (loose := K1.lo) (d := HandSHeadRun.topDef (OpenLaw.row PySem.Challenge.rw_signalstack_k01_codes_and_signs).prog 27) (kwd := []) K1.ob_eq
    (by kernel_rfl) (fun s => by kernel_rfl) K1.run (by kernel_rfl) (by kernel_rfl) (by kernel_rfl) (by rfl) (by first | assumption | decide +kernel) (by decide +kernel) ⟨rfl, rfl, rfl, rfl, rfl, by decide +kernel⟩ ?hw ?hc
  case hw => w_witness2
  case hc =>
    refine LamX.walk_ofTsE (l := PySem.Challenge.rw_signalstack_k01_codes_and_signs) (n := 63) (k := K1.lawLevel) (x := "script") (CX := K1.lawCX) rfl (by decide) (by kernel_rfl) ⟨rfl, by decide, by decide⟩ ?F (fun w H s e s' z => K1.law_noexc w H s e s' z)
    intro w mg fa h Y G hmg0
    obtain ⟨K, KX, c⟩ := Y
    have hmg : mg ("law" : PySem.Str) = some (.ref fa) := by
      have e : (HandSHeadRun.topDef (OpenLaw.row PySem.Challenge.rw_signalstack_k01_codes_and_signs).prog 27).name = ("law" : PySem.Str) := by kernel_rfl
      rw [← e]
      exact hmg0
    exact ⟨K, KX, K1.law_at KX G hmg c⟩

