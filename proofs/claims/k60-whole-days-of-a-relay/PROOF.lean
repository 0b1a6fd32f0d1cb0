import PyProof.Rows.All
import Wide.All
import OpenK.AllK
import Wide.FinOn
import HandS.ForMost
import HandS.AnyAll
import HandS.Lambda
import HandS.GenList
import PyProof.CodeObjX
import PyProof.ConsumeS
import PyProof.TupleOfGen
import HandS.ForExc
import HandS.EndTab
import HandS.HeadHook4
import HandS.HeadNt
import HandS.Head0
import HandS.Head1
import HandS.Head2
import HandS.HeadHook1
import HandS.HeadHook2
import HandS.HeadHook3
import HandS.HeadWalk
import HandS.Defaults
import KE.GoesNew
import HandS.DictComp
import HandS.Flow
import HandS.Style
import HandS.Conv
import HandS.StrMore
import HandS.FStr
import HandS.Sort
import PyProof.ListStr
import HandS.Strs
import HandS.Dict
import HandS.Iter
import HandS.More
import HandS.Codes
import HandS.Text
import PyProof.DictKinds
import PyProof.MeetsSeq
import KE.SortKeyHeap
import KE.SortUse
import HandS.SortKw
import KE.SortData
import HandS.WordsDict
import HandS.ListItems
import HandS.Deep
import KE.KEqDict
import PyProof.WalkInts
import HandS.Wide
import HandS.NoneIn
import HandS.TryOnly
import HandS.HeadEnd
import PySem.Challenge.RW_signalstack_k60_whole_days_of_a_relay
set_option Elab.async false
set_option linter.all false
-- text GenR
set_option maxRecDepth 100000
set_option maxHeartbeats 4000000
/-! GenR: a generator expression handed to a built-in, its element any expression that the layer serves. -/
namespace GX
open PySem PySem.Spec PyProof.Rows L2 LamX

/-- the names of a generator expression's own frame -/
structure GSc (N : List Str) (sc scope : Scope) (own : List (Str × Nat)) : Prop where
  blk : BlkOk N sc scope own
  co : scope.isCoroutine = false
  cell : ∀ y ∈ scope.names, y.2 ≠ .cell
  dot : scope.names.lookup (".0" : Str) = some NameKind.local

def gscB (scope : Scope) : Bool := !scope.isCoroutine && (scope.names.all fun y => !decide (y.2 = .cell)) && decide (scope.names.lookup (".0" : Str) = some NameKind.local)
theorem gsc_by {N : List Str} {sc scope : Scope} {own : List (Str × Nat)} (b : BlkOk N sc scope own) (h : gscB scope = true) : GSc N sc scope own := by
  unfold gscB at h
  simp only [Bool.and_eq_true, Bool.not_eq_true', List.all_eq_true, decide_eq_true_eq, decide_eq_false_iff_not] at h
  exact ⟨b, h.1.1, fun y hy => h.1.2 y hy, h.2⟩

abbrev gEnv (X : Cx) (scope : Scope) (C : Addr) (code : Value) : Env := genEnv scope (cloFrom X.env.cells scope.names []) C code builtinsNs X.env
/-- the frame of a generator expression that was made at s, run from A under the frames outer -/
def gcx (X : Cx) (A : Around) (s : Shared) (H : Hp) (scope : Scope) (code : Value) (ex : List Addr) : Cx :=
  { X with A := A.deeper (gEnv X scope s.heap.objs.size code), s_0 := s, H_0 := H, env := gEnv X scope s.heap.objs.size code, outer := X.stack, stack := gEnv X scope s.heap.objs.size code :: X.stack,
           ex := ex, fn := fun _ => false, calm := true, pn := [], xe := fun _ _ => False }

theorem over_gen {A : Around} {elt : Expr} {gs : List Comprehension} {scope : Scope} {pos : Pos} {it acc : Value} {env : Env} : A.over (.compLoop (.GeneratorExp elt gs scope pos) 0 it acc env) [] = A.deeper env := by
  first
    | rfl
    | (obtain ⟨a, b, c, d, e⟩ := A; simp [Around.over, Around.deeper, marksOver, frameCount, unitsOf, envsOf, guardsOf, pushEnvs, pushGuards, Code.envs, Code.env?, Code.isFrame, Code.guards, Code.isGuard, Code.weight, Code.frames, Code.isCreation, Code.isCaller, Code.cUnits])
theorem over_genStart {A : Around} {elt : Expr} {gs : List Comprehension} {scope : Scope} {pos : Pos} {it acc : Value} {env : Env} : A.over (.compStart (.GeneratorExp elt gs scope pos) 0 it acc env) [] = A.deeper env := by
  first
    | rfl
    | (obtain ⟨a, b, c, d, e⟩ := A; simp [Around.over, Around.deeper, marksOver, frameCount, unitsOf, envsOf, guardsOf, pushEnvs, pushGuards, Code.envs, Code.env?, Code.isFrame, Code.guards, Code.isGuard, Code.weight, Code.frames, Code.isCreation, Code.isCaller, Code.cUnits])

section
variable {X : Cx} {pins : List (Addr × Obj)} {σ : L2.St} {H : Hp} {s s5 : Shared}

/-- the frame is ready: what the generator's own context knows when it was made (s: ahead of its frame's dict; s5: behind) -/
theorem gen_start {A : Around} {scope : Scope} {own : List (Str × Nat)} {fp : List Addr} {code : Value} {m : Str → Option Value} (I : Inv X pins σ H s) (ok : GSc X.N X.env.scope scope own) (hN : X.N.Nodup) (hd : A.handled = none) (hfr : A.frames = some X.stack)
    (hfp : ∀ b ∈ fp, FpOk X pins H b ∧ b < s.heap.objs.size) (hns : s5.heap.Ns s.heap.objs.size m) (kp : ∀ b o, s.heap.get? b = some o → s5.heap.get? b = some o) (hos : s5.os = s.os) (hb : AllBare s5.gens) :
    Inv (gcx X A s H scope code fp) [] (wipe σ (own.map (·.2))) H s5 := by
  have hfree : ∀ y ∈ scope.names, y.2 = .free → ∃ c, X.env.cells.lookup y.1 = some c := fun y hy e => by
    rcases ok.blk.free y hy e with k | k
    · exact I.ok.has _ (.inl k)
    · exact I.ok.has _ (.inr k)
  have cm : ∀ {y c}, (cloFrom X.env.cells scope.names []).lookup y = some c → X.env.cells.lookup y = some c ∧ c < s.heap.objs.size := fun {y c} e => by
    rcases cloFrom_mem (PySem.mem_of_lookup e) with hm | ⟨h1, h2⟩
    · cases hm
    · obtain ⟨c1, hc⟩ := hfree _ h1 rfl
      have hc : X.env.cells.lookup y = some c1 := hc
      have e2 : c = c1 := by rw [h2, hc] <;> rfl
      subst e2
      obtain ⟨w, z⟩ := I.cell _ _ hc
      exact ⟨hc, z.lt⟩
  have look : ∀ {y}, scope.names.lookup y = some .free → ∃ c, (cloFrom X.env.cells scope.names []).lookup y = some c := fun {y} hl =>
    mem_lookup (cloFrom_has (cells := X.env.cells) (acc := []) (show (y, NameKind.free) ∈ scope.names from PySem.mem_of_lookup hl))
  have cellK : ∀ {c : Addr} {v : Option Value}, s.heap.IsCell c v → s5.heap.IsCell c v := fun {c v} ⟨o, ho, hd⟩ => ⟨o, kp _ _ ho, hd⟩
  refine ⟨⟨I.ok.mod, ok.blk.kind, I.ok.glob, rfl, Nat.le_refl _, fun y z c e1 e2 => I.ok.inj y z c (cm e1).1 (cm e2).1, fun y hy => ?_, fun y c z _ => ?_, fun _ => hd, Around.frames_deeper hfr, .inr ⟨rfl, rfl⟩,
      fun b hb => ⟨Nat.ne_of_lt (hfp b hb).2, fun y c e => (hfp b hb).1.2.2.2.2.1 y c (cm e).1⟩, I.bs, Nat.le_trans I.ok.bsz I.sz, fun b o e hb => ?_, fun b hb z => ?_, I.stack, I.stkFree⟩,
    hos, hb, Un.kept kp, ⟨m, hns, fun i y v e1 e2 e3 => ?_⟩, fun y c e => ?_, I.hok.fresh (Nat.le_refl _), fun y c e => I.freeC y c (cm e).1, fun p hp => absurd (show p ∈ ([] : List (Addr × Obj)) ++ [] from hp) (by simp), I.hok.kept kp, by rw [wipe_length]; exact I.len⟩
  · have hy : scope.names.lookup y = some .cell ∨ scope.names.lookup y = some .free := hy
    rcases hy with hy | hy
    · exact absurd rfl (ok.cell _ (PySem.mem_of_lookup hy))
    · exact look hy
  · have z : false = true := z
    cases z
  · rcases (hfp b hb).1.2.2.2.1 with z | z
    · exact I.ok.noex b o e z
    · exact absurd (Nat.lt_of_lt_of_le (Heap.lt_size e) (Nat.le_trans I.ok.bsz z)) (Nat.lt_irrefl _)
  · have z : b ∈ frs X.stack := z
    rcases List.mem_cons.mp (I.stkSub b z) with z | z
    · exact (hfp b hb).1.2.1 z
    · exact (hfp b hb).1.2.2.1 z
  · obtain ⟨e2, hne⟩ := wipe_some e2
    have e3 : Vis scope y := e3
    have no : ∀ k, (y, k) ∈ scope.names → k = .local ∨ k = .cell → False := fun k hk hh => by
      rcases ok.blk.own _ hk hh with e' | e'
      · obtain ⟨p, hp, hpy⟩ := List.mem_map.mp e'
        have e4 := ok.blk.ix p hp
        have : p.1 = y := hpy
        rw [this] at e4
        exact hne (List.mem_map.mpr ⟨p, hp, nodup_ix hN e4 e1⟩)
      · exact e' (List.mem_of_getElem? e1)
    rcases e3 with k | k | k
    · exact (no _ (PySem.mem_of_lookup k) (.inl rfl)).elim
    · exact (no _ (PySem.mem_of_lookup k) (.inr rfl)).elim
    · obtain ⟨m2, hn2, hl⟩ := I.loc
      have hvis : Vis X.env.scope y := (ok.blk.free _ (PySem.mem_of_lookup k) rfl).elim (fun k => .inr (.inl k)) (fun k => .inr (.inr k))
      obtain ⟨w', r, q⟩ := hl i y v e1 e2 hvis
      obtain ⟨c2, h2⟩ := look k
      refine ⟨w', r, .inr ⟨.inr k, c2, h2, ?_⟩⟩
      have c1 := (cm h2).1
      rcases q with ⟨k', _⟩ | ⟨_, c3, e', z⟩
      · have k' : X.env.scope.names.lookup y = some .local := k'
        rcases ok.blk.free _ (PySem.mem_of_lookup k) rfl with k2 | k2 <;> rw [show X.env.scope.names.lookup y = _ from k2] at k' <;> cases k'
      · rw [c1] at e'
        cases e'
        exact cellK z
  · obtain ⟨w', z⟩ := I.cell y c (cm e).1
    exact ⟨w', cellK z⟩

/-- back in the frame that made it -/
theorem gen_back {A : Around} {scope : Scope} {fp : List Addr} {code : Value} {ps : List (Addr × Obj)} {σ' : L2.St} {H' : Hp} {s1 s2 : Shared} (I : Inv X pins σ H s) (J : Inv (gcx X A s H scope code fp) ps σ' H' s1)
    (hfp : ∀ b ∈ fp, FpOk X pins H b) (ho : s2.os = s1.os) (kp : ∀ b o, s1.heap.get? b = some o → s2.heap.get? b = some o) (hb : AllBare s2.gens) : Inv X pins σ H' s2 :=
  I.call' (ch := fp) (ho.trans J.os) (J.base.trans (Un.kept kp)) (J.hok.kept kp) hb fun b hb => ⟨(hfp b hb).2.2.2.1, (hfp b hb).2.1, (hfp b hb).2.2.2.2.1, (hfp b hb).2.2.2.2.2⟩
end

/-! ### the turns -/
/-- what does not change while the generator lives: its object a (go), the consumer's own list S, the state s and the heap H when it was made -/
structure GD where
  X : Cx
  A : Around
  s : Shared
  H : Hp
  scope : Scope
  code : Value
  fp : List Addr
  a : Addr
  go : Obj
  g : Nat
  S : Addr
  σ : L2.St
abbrev GD.cx (G : GD) : Cx := gcx G.X G.A G.s G.H G.scope G.code G.fp
/-- asleep between two turns -/
def GD.at (G : GD) (H : Hp) (s : Shared) : Prop := ∃ oS : Obj, (∀ v, oS.data ≠ .cell v) ∧ Inv G.cx [(G.a, G.go), (G.S, oS)] G.σ H s
/-- the consumer's doing between two turns: S may change, the table of generators too -/
structure GD.Rs (G : GD) (s s' : Shared) : Prop where
  os : s'.os = s.os
  bare : AllBare s'.gens
  keep : ∀ b o, b ≠ G.S → s.heap.get? b = some o → s'.heap.get? b = some o
  ga : s'.heap.get? G.a = some G.go
  gs : ∃ o, s'.heap.get? G.S = some o ∧ ∀ v, o.data ≠ .cell v
theorem GD.at.facts {G : GD} {H : Hp} {s : Shared} (h : G.at H s) : H G.S = none ∧ G.S ≠ G.cx.env.locals ∧ G.S ∉ G.cx.fs ∧ H G.a = none ∧ s.heap.get? G.a = some G.go ∧ ∃ oS : Obj, s.heap.get? G.S = some oS ∧ ∀ v, oS.data ≠ .cell v := by
  obtain ⟨oS, hc, I⟩ := h
  obtain ⟨h1, h2, h3, h4, _⟩ := I.pin (G.S, oS) (List.mem_append_right _ (List.mem_cons_of_mem _ List.mem_cons_self))
  obtain ⟨g1, g2, _⟩ := I.pin (G.a, G.go) (List.mem_append_right _ List.mem_cons_self)
  exact ⟨h2, h3, h4, g2, g1, oS, h1, hc⟩
theorem GD.at.woken {G : GD} {H : Hp} {s s' : Shared} (h : G.at H s) (hS : G.s.heap.objs.size ≤ G.S) (r : G.Rs s s') : G.at H s' := by
  obtain ⟨hS0, hSL, hSf, ha0, _, _⟩ := h.facts
  obtain ⟨oS, hc, I⟩ := h
  obtain ⟨o', ho', hc'⟩ := r.gs
  have I0 : Inv G.cx [] G.σ H s := I.pins_of fun p hp => by cases hp
  have nc : ∀ b, b ∉ [G.S] → b ≠ G.S := fun b hb e => hb (by rw [e]; exact List.mem_singleton.mpr rfl)
  have nS : ∀ b u, H b = some u → b ≠ G.S := fun b u e z => by rw [z, hS0] at e; cases e
  have cellS : ∀ x c, G.cx.env.cells.lookup x = some c → c ≠ G.S := fun x c e z => by
    obtain ⟨v, o, ho, hd⟩ := I.cell x c e
    obtain ⟨q1, _, _, _, q5⟩ := I.pin (G.S, oS) (List.mem_append_right _ (List.mem_cons_of_mem _ List.mem_cons_self))
    rw [z, q1] at ho
    cases ho
    exact q5 v hd
  have hok : HOk G.cx.prog G.cx.w H s'.heap := fun b u e => (I0.hok b u e).stay (fun c v hcb q => r.keep c v (by
      rcases hcb with z | z
      · rw [z]; exact nS b u e
      · exact nS c _ z) q) (fun _ q => q) fun _ _ q => q
  have J : Inv G.cx [] G.σ H s' := by
    refine I0.call' (ch := [G.S]) r.os ?_ hok r.bare fun b hb => ?_
    · refine ⟨fun b o e _ _ hx => r.keep b o (nc b hx) e, fun b o e _ _ hx => ⟨o.slots, r.keep b o (nc b hx) e⟩, fun _ _ _ n _ => n, fun b o e hx => ⟨o, r.keep b o (nc b hx) e⟩, fun _ _ q => q, fun _ _ _ q => q, fun b ps q => ⟨#[], by rw [q]; simp⟩⟩
    · rw [List.mem_singleton.mp hb]
      exact ⟨.inr hS, hSL, cellS, fun p hp => absurd (show p ∈ ([] : List (Addr × Obj)) ++ [] from hp) (by simp)⟩
  refine ⟨o', hc', J.pins_of fun p hp => ?_⟩
  obtain ⟨q1, q2, q3, q4, q5⟩ := I.pin (G.a, G.go) (List.mem_append_right _ List.mem_cons_self)
  rcases List.mem_cons.mp hp with z | z
  · rw [z]
    exact ⟨r.ga, q2, q3, q4, q5⟩
  · rw [List.mem_singleton.mp z]
    exact ⟨ho', hS0, hSL, hSf, hc'⟩

/-- one turn's promise: i the turn, ys what is out -/
structure Turns (G : GD) (J : It) (g : TG) (te : TE) (vs : List Nat) (n₀ : Nat) (W : Nat → List V → Hp → Prop) (Yd : Nat → List V → V → Hp → Prop) (Ct : Nat → List V → V → Prop) (Po : Nat → List V → V → Hp → Prop) : Prop where
  step : ∀ i ys H, i < n₀ → W i ys H → J.go i H ∧ ∀ x H', J.yld i H x H' → g x G.σ H' fun σ2 H2 => wipe σ2 vs = G.σ ∧ te σ2 H2 fun y H4 => Po i ys y H4
  post : ∀ i ys y H, i < n₀ → Po i ys y H → Yd i ys y H ∧ (Ct i ys y → W (i + 1) (ys ++ [y]) H)
  stop : ∀ ys H, W n₀ ys H → J.stop n₀ H

/-- an item is out -/
def GD.Y (G : GD) (tn : Nat → Heap → Prop) (n₀ : Nat) (Gh : Nat → Shared → List V → Prop) (Yd : Nat → List V → V → Hp → Prop) (Ct : Nat → List V → V → Prop) : Protocol := fun n s₀ v s kap =>
  ∃ i ys y H, i + n = n₀ ∧ i < n₀ ∧ Gh i s₀ ys ∧ RelV y v ∧ G.at H s ∧ (∀ o, s₀.heap.get? G.S = some o → s.heap.get? G.S = some o) ∧ Yd i ys y H ∧
    ∀ s', G.Rs s s' → Ct i ys y → Gh (i + 1) s' (ys ++ [y]) → kap (.send .none) s'
/-- the end -/
def GD.E (G : GD) (n₀ : Nat) (Gh : Nat → Shared → List V → Prop) (W : Nat → List V → Hp → Prop) : Nat → Shared → Shared → Prop := fun n s₀ s =>
  n = 1 ∧ ∃ ys H, Gh n₀ s₀ ys ∧ G.at H s ∧ (∀ o, s₀.heap.get? G.S = some o → s.heap.get? G.S = some o) ∧ W n₀ ys H

section
variable {G : GD} {tg iter elt : Expr} {pos : Pos} {own : List (Str × Nat)} {J : It} {g : TG} {te : TE} {it : Addr} {tn : Nat → Heap → Prop} {n₀ : Nat} {Gh : Nat → Shared → List V → Prop} {W : Nat → List V → Hp → Prop} {Yd : Nat → List V → V → Hp → Prop} {Ct : Nat → List V → V → Prop} {Po : Nat → List V → V → Hp → Prop}

theorem thnZ {α : Type} {t : Sem α} {Q Q' : α → Shared → Prop} {M : Model} {A : Around} {E : Value → Shared → Prop} {s : Shared} (h : wpAny M A t Q (fun _ _ => False) s) (hQ : ∀ a s, Q a s → Q' a s) : wpAny M A t Q' E s := wpAny_mono h hQ fun _ _ z => False.elim z

theorem seg_turns (T : Turn G.X.prog G.X.w G.X.K tg J G.fp it tn) (hg : PG G.cx tg g) (he : PE G.cx elt te) (hco : G.scope.isCoroutine = false) (hfp : ∀ b ∈ G.fp, b < G.s.heap.objs.size) (haS : ∀ b ∈ G.fp, b ≠ G.a ∧ b ≠ G.S) (hS : G.s.heap.objs.size ≤ G.S)
    (hσ : wipe G.σ (own.map (·.2)) = G.σ) (P : Turns G J g te (own.map (·.2)) n₀ W Yd Ct Po) :
    ∀ (n i : Nat) (s₀ s : Shared) (ys : List V) (H : Hp), i + n = n₀ + 1 → i ≤ n₀ → Gh i s₀ ys → G.at H s → tn i s.heap → (∀ b ∈ G.fp, H b = none) → (∀ o, s₀.heap.get? G.S = some o → s.heap.get? G.S = some o) → W i ys H →
      Seg (model G.X.prog G.X.w) G.A (fun n s₀ r s₁ => r = .ok .next ∧ G.E n₀ Gh W n s₀ s₁) (G.Y tn n₀ Gh Yd Ct) n s₀
        (.compLoop (.GeneratorExp elt [⟨tg, iter, [], 0⟩] G.scope pos) 0 (.ref it) .none G.cx.env) ((model G.X.prog G.X.w).den (.compLoop (.GeneratorExp elt [⟨tg, iter, [], 0⟩] G.scope pos) 0 (.ref it) .none G.cx.env)) [] s := by
  have hov : G.A.over (.compLoop (.GeneratorExp elt [⟨tg, iter, [], 0⟩] G.scope pos) 0 (.ref it) .none G.cx.env) [] = G.cx.A := over_gen
  have fpok : ∀ {oS : Obj} {σ' : L2.St} {H' : Hp} {s' : Shared}, Inv G.cx [(G.a, G.go), (G.S, oS)] σ' H' s' → (∀ b ∈ G.fp, H' b = none) → ∀ b ∈ G.fp, FpOk G.cx [(G.a, G.go), (G.S, oS)] H' b := fun {oS σ' H' s'} I' hn b hb =>
    ⟨hn b hb, (I'.ok.exf b hb).1, I'.ok.exfs b hb, .inl hb, fun x c e => (I'.ok.exf b hb).2 x c e, fun p hp => by
      have hp : p ∈ [(G.a, G.go), (G.S, oS)] := hp
      rcases List.mem_cons.mp hp with z | z
      · rw [z]; exact fun q => (haS b hb).1 q.symm
      · rw [List.mem_singleton.mp z]; exact fun q => (haS b hb).2 q.symm⟩
  intro n
  induction n with
  | zero =>
    intro i s₀ s ys H hi hle hgh hat ht hn hkS hw
    exact absurd hi (by omega)
  | succ n ih =>
    intro i s₀ s ys H hi hle hgh hat ht hn hkS hw
    by_cases hin : i = n₀
    · subst hin
      show Seg _ G.A _ _ _ s₀ _ ((compTurn (.GeneratorExp elt [⟨tg, iter, [], 0⟩] G.scope pos) 0 (.ref it) .none G.cx.env).onRaise (leaving G.cx.env)) [] s
      rw [compTurn_gen, Sem.onRaise_eq_wrap]
      refine seg_bind_wrap (wpAny_standAt ?_)
      obtain ⟨oS, hc, I⟩ := hat
      have td := T.done G.cx rfl rfl rfl rfl i _ s _ H (fun _ _ => False) I (fpok I hn) ht (P.stop ys H hw)
      refine seg_bind_wrap ?_
      rw [hov]
      refine thnZ td fun r s6 ⟨hr, I6⟩ => ?_
      subst hr
      have pS := (I.pin (G.S, oS) (List.mem_append_right _ (List.mem_cons_of_mem _ List.mem_cons_self))).1
      have pS6 := (I6.pin (G.S, oS) (List.mem_append_right _ (List.mem_cons_of_mem _ List.mem_cons_self))).1
      refine seg_end (.ok .next) ⟨rfl, by omega, ys, H, hgh, ⟨oS, hc, I6⟩, fun o ho => ?_, hw⟩
      have := hkS o ho
      rw [pS] at this
      rw [← this]
      exact pS6
    obtain ⟨hgo, hst⟩ := P.step i ys H (by omega) hw
    show Seg _ G.A _ _ _ s₀ _ ((compTurn (.GeneratorExp elt [⟨tg, iter, [], 0⟩] G.scope pos) 0 (.ref it) .none G.cx.env).onRaise (leaving G.cx.env)) [] s
    rw [compTurn_gen, Sem.onRaise_eq_wrap]
    refine seg_bind_wrap (wpAny_standAt ?_)
    obtain ⟨oS, hc, I⟩ := hat
    have ti := T.item G.cx rfl rfl rfl rfl i _ s _ H (fun _ _ => False) I (fpok I hn) ht hgo
    refine seg_bind_wrap ?_
    rw [hov]
    refine thnZ ti fun r s6 ⟨u, hr, h6⟩ => ?_
    subst hr
    refine seg_bind_wrap ?_
    rw [hov]
    refine thnZ h6 fun _ s7 ⟨x, H7, I7, r7, y7, st7, n7⟩ => ?_
    have I7' := I7.pinned (fpok I7 n7) (T.obj _ _ st7)
    refine seg_bind_wrap ?_
    rw [hov]
    refine thnZ (hg.run _ s7 _ H7 x u _ I7' r7 (hst x H7 y7)) fun _ s8 ⟨σ8, H8, I8, hw8, q8⟩ => ?_
    refine seg_bind_wrap (wpAny_tests_nil ?_)
    have hy : ∀ v, yieldOut G.cx.env v = yieldValue v := fun v => by
      have hco' : G.cx.env.scope.isCoroutine = false := hco
      simp only [yieldOut, hco', Bool.false_eq_true, if_false]
    simp only [if_true, hy]
    rw [Sem.bind_eq_wrap', Sem.bind_eq_wrap', Sem.wrap_wrap, Sem.wrap_wrap]
    refine seg_wrap ?_
    rw [hov]
    refine thnZ (he.run _ s8 σ8 H8 _ I8 q8) fun v s9 ⟨yv, H9, I9, r9, hpo⟩ => ?_
    obtain ⟨hyd, hct⟩ := P.post i ys yv H9 (by omega) hpo
    have I9' : Inv G.cx [(G.a, G.go), (G.S, oS)] G.σ H9 s9 := (I9.unpinned (pins := [(G.a, G.go), (G.S, oS)])).weak (by rw [← hw8, wipe_length]) fun j v e => by
      rw [← hw8] at e
      exact (wipe_some e).1
    have pS := (I.pin (G.S, oS) (List.mem_append_right _ (List.mem_cons_of_mem _ List.mem_cons_self))).1
    have pS9 := (I9'.pin (G.S, oS) (List.mem_append_right _ (List.mem_cons_of_mem _ List.mem_cons_self))).1
    have A9 : G.at H9 s9 := ⟨oS, hc, I9'⟩
    have pin9 : ∀ b ∈ G.fp, ∀ o, s7.heap.get? b = some o → s9.heap.get? b = some o ∧ H9 b = none := fun b hb o e =>
      let z := I9.pin (b, o) (List.mem_append_right _ (List.mem_append_right _ (mem_pinsAt hb e)))
      ⟨z.1, z.2.1⟩
    have st9 : tn (i + 1) s9.heap := T.keep _ _ _ st7 fun b hb o e => (pin9 b hb o e).1
    have n9 : ∀ b ∈ G.fp, H9 b = none := fun b hb => by
      obtain ⟨o, e, _⟩ := T.obj _ _ st7 b hb
      exact (pin9 b hb o e).2
    refine seg_at (seg_yield rfl rfl rfl ⟨i, ys, yv, H9, by omega, by omega, hgh, r9, A9, fun o ho => ?_, hyd, fun s' hr hc' hgh' => ?_⟩)
    · have := hkS o ho
      rw [pS] at this
      rw [← this]
      exact pS9
    · have A' := A9.woken hS hr
      refine seg_again rfl (ih (i + 1) s' s' (ys ++ [yv]) H9 (by omega) (by omega) hgh' A' (T.keep _ _ _ st9 fun b hb o e => hr.keep b o (haS b hb).2 e) n9 (fun o ho => ho) (hct hc'))
end
end GX

-- text GenS
set_option maxRecDepth 100000
set_option maxHeartbeats 4000000
namespace GX
open PySem PySem.Spec PyProof.Rows L2 LamX
section
variable {X : Cx} {pins : List (Addr × Obj)} {σ : L2.St} {H : Hp} {s : Shared}

/-- what stands when a generator expression has been made -/
structure Made (X : Cx) (pins : List (Addr × Obj)) (σ : L2.St) (tg iter elt : Expr) (scope : Scope) (gpos : Pos) (J : It) (H2 : Hp) (it : Addr) (fp : List Addr) (tn : Nat → Heap → Prop) (code : Value) (a : Addr) (go : Obj) (g : Nat) (s4 s5 : Shared) : Prop where
  inv : Inv X pins σ H2 s4
  turn : Turn X.prog X.w X.K tg J fp it tn
  tn0 : tn 0 s5.heap
  fps : ∀ b ∈ fp, FpOk X pins H2 b ∧ b < s4.heap.objs.size
  ns : ∃ m, s5.heap.Ns s4.heap.objs.size m
  keep : ∀ b o, s4.heap.get? b = some o → s5.heap.get? b = some o
  os : s5.os = s4.os
  bare : AllBare s5.gens
  lt : s4.heap.objs.size < a
  ltS : a < s5.heap.objs.size
  ga : s5.heap.get? a = some go
  isG : ∀ h : Heap, h.get? a = some go → h.IsGen a g
  cellG : ∀ v, go.data ≠ .cell v
  gens : s5.gens[g]? = some (.fresh (.compStart (.GeneratorExp elt [⟨tg, iter, [], 0⟩] scope gpos) 0 (.ref it) .none (gEnv X scope s4.heap.objs.size code)))

theorem upd_none2 {H : Hp} {a b : Addr} {o : HO} (e : upd H a o b = Option.none) : H b = Option.none := by
  unfold upd at e
  split at e
  · cases e
  · exact e

theorem gen_make {T : List (Addr × Str)} {c P : Addr} {own : List (Str × Nat)} {tg iter elt : Expr} {scope : Scope} {gpos : Pos} {wi : TI} {R : It → Hp → Prop} {Q' : Value → Shared → Prop}
    (I : Inv X pins σ H s) (hi : PI X tg iter wi) (ok : GSc X.N X.env.scope scope own) (TB : TabB X.base X.mg c P) (hcode : X.env.code = .ref c) (hmT : (P, X.env.qual ++ "<genexpr>") ∈ T) (hu : ∀ p ∈ T, p.1 = P → p.2 = X.env.qual ++ "<genexpr>")
    (hroom : X.A.depth < recursionLimit) (hs : ∀ v, genFold iter X.env v = pure v) (h : wi σ H fun J H1 => Tabs T H1 ∧ R J H1)
    (hQ : ∀ J H1 H2 it fp tn code a go g s4 s5, R J H1 → ExtN H1 H2 → Tabs T H2 → (∀ b, H2 b = none → H1 b = none) → Made X pins σ tg iter elt scope gpos J H2 it fp tn code a go g s4 s5 → Q' (.ref a) s5) :
    wpAny (model X.prog X.w) X.A (eval (.GeneratorExp elt [⟨tg, iter, [], 0⟩] scope gpos) X.env) Q' X.xe s := by
  have hfree : ∀ y ∈ scope.names, y.2 = .free → ∃ c, X.env.cells.lookup y.1 = some c := fun y hy e => by
    rcases ok.blk.free y hy e with k | k
    · exact I.ok.has _ (.inl k)
    · exact I.ok.has _ (.inr k)
  refine wpAny_GeneratorExp_make ok.co (closure_ok hfree) ok.cell ok.dot ok.blk.kind hroom ?_ hs
  refine thn (hi.run pins s σ H _ I h) fun xv s1 hx => thn hx fun itv s2 h2 => ?_
  obtain ⟨it, fp, tn, J, H1, e, I2, Tn, st2, f2, hT, hR⟩ := h2
  subst e
  refine ⟨I2.nolimit, ?_⟩
  obtain ⟨ps, hP, ht, hall⟩ := hT _ hmT
  have hPs : s2.heap.get? P = some { cls := .none, data := .fields ps } := I2.hok P _ hP
  have hPlt : P < s2.heap.objs.size := Heap.lt_size hPs
  have cd : PySem.W.CodeHd s2.heap c P := TB.code.keeps I2.bk
  have hbm : s2.heap.BuiltinsAt X.mg P := TB.bm.keeps I2.bk
  -- what follows from the new code object on
  have cont : ∀ (code : Value) (H2 : Hp) (s3 : Shared), Inv X pins σ H2 s3 → ExtN H1 H2 → Tabs T H2 → (∀ b, H2 b = none → H1 b = none) → (∀ b o, b ≠ P → s2.heap.get? b = some o → s3.heap.get? b = some o) → (∀ b ∈ fp, H2 b = none) →
      wpAny (model X.prog X.w) X.A (builtinsFor X.env.globals X.env.builtins) (fun bi s₄ =>
        ∀ h', h'.Ns s₄.heap.objs.size (fun y => if y = ".0" then some (.ref it) else none) → Heap.SameBut s₄.heap.objs.size (s₄.heap.push { cls := .type "frame", data := .dict #[] }) h' →
          Q' (.ref h'.objs.size) { s₄ with
            gens := s₄.gens.push (.fresh (.compStart (.GeneratorExp elt [⟨tg, iter, [], 0⟩] scope gpos) 0 (.ref it) .none (genEnv scope (cloFrom X.env.cells scope.names []) s₄.heap.objs.size code bi X.env))),
            toks := s₄.toks + 1 + 1 + 1,
            heap := h'.push { cls := .type "generator", data := .fields #[.int s₄.gens.size 0, .str "<genexpr>" (s₄.toks + 1), .str (X.env.qual ++ "<genexpr>") (s₄.toks + 1 + 1)] } }) X.xe s3 := by
    intro code H2 s3 I3 hE hT3 hno kp3 nfp
    obtain ⟨bm, ob, e1, e2, e3, e4, e5, e6, e7, e8⟩ := TB.bm
    refine wpAny_builtinsFor (m := X.mg) (by rw [I3.ok.glob]; exact I3.mod.glob.keeps I3.bk) e1 e2 (I3.bk _ _ e5) e6 e7 e8 ?_
    intro h' hns hsb
    have sz' : h'.objs.size = s3.heap.objs.size + 1 := by rw [hsb.1, Heap.size_push]
    have kp4 : ∀ b o, s3.heap.get? b = some o → h'.get? b = some o := fun b o e => hsb.extBut b o (Nat.ne_of_lt (Heap.lt_size e)) (Heap.get?_push_of_some _ e)
    have kp5 : ∀ (go : Obj) b o, s3.heap.get? b = some o → (h'.push go).get? b = some o := fun go b o e => Heap.get?_push_of_some _ (kp4 b o e)
    have nP : ∀ b ∈ fp, b ≠ P := fun b hb z => by
      have := (f2 b hb).1
      rw [z, hP] at this
      cases this
    have fpL : ∀ b ∈ fp, b < s2.heap.objs.size := fun b hb => by
      obtain ⟨o, e, _⟩ := Tn.obj _ _ st2 b hb
      exact Heap.lt_size e
    have fpG : ∀ b ∈ fp, ∀ o, s2.heap.get? b = some o → s3.heap.get? b = some o := fun b hb o e => kp3 b o (nP b hb) e
    refine hQ J H1 H2 it fp tn code h'.objs.size _ s3.gens.size s3 _ hR hE hT3 hno
      ⟨I3, Tn, Tn.keep _ _ _ st2 fun b hb o e => kp5 _ b o (fpG b hb o e), fun b hb => ⟨⟨nfp b hb, (f2 b hb).2⟩, ?_⟩, ⟨_, hns.push _⟩, fun b o e => kp5 _ b o e, rfl, I3.bare.push rfl, ?_, ?_, Heap.get?_push_size _ rfl, fun h e => ⟨_, _, _, e, rfl, rfl, rfl⟩, ?_, Array.getElem?_push_size ..⟩
    · obtain ⟨o, e, _⟩ := Tn.obj _ _ st2 b hb
      exact Heap.lt_size (fpG b hb o e)
    · rw [sz']; exact Nat.lt_succ_self _
    · show h'.objs.size < (h'.push _).objs.size
      rw [Heap.size_push]; exact Nat.lt_succ_self _
    · intro v z
      cases z
  cases hf : codeAmong gpos ps.toList with
  | some cv =>
    refine wpAny_genexprCode_hit hcode (cd.code hPs ht) hf ?_
    exact cont cv H1 s2 I2 (ExtN.refl H1) hT (fun _ z => z) (fun _ _ _ e => e) fun b hb => (f2 b hb).1
  | none =>
    refine wpAny_genexprCodeX hcode (cd.code hPs ht) (cd.tab hPs) hf fun c' h' tk hx hge hlt hco' hrec htab' _ => ?_
    obtain ⟨c2, oc, vs, t, e2, hoc, hd, hv⟩ := hrec
    cases e2
    have nC : H1 c' = none := I2.hok.fresh hge
    have I3 := inv_table (t' := tk) (more := #[rawInt gpos.line, rawInt gpos.col, .ref c']) (h' := h') (q := X.env.qual ++ "<genexpr>") I2 hP (fun b o hb e => hx b o hb e) htab'.2 hge ⟨oc, vs, t, hoc, hd, hv⟩
    have hE : ExtN H1 (upd (upd H1 P (.tbl (ps ++ #[rawInt gpos.line, rawInt gpos.col, .ref c']))) c' (CodeO c' (X.env.qual ++ "<genexpr>"))) := fun b o e n => by
      rw [upd_ne (ne_of_none e nC), upd_ne (fun z => n ps (Option.some.inj (e.symm.trans (by rw [z]; exact hP))))]
      exact e
    have eL : (ps ++ #[rawInt gpos.line, rawInt gpos.col, .ref c']).toList = ps.toList ++ [rawInt gpos.line, rawInt gpos.col, .ref c'] := by simp
    refine cont (.ref c') _ _ I3 hE (fun p hp => ?_) (fun b e => upd_none2 (upd_none2 e)) (fun b o hb e => hx b o hb e) fun b hb => ?_
    · by_cases hb : p.1 = P
      · rw [hu p hp hb, hb]
        refine ⟨_, by rw [upd_ne (ne_of_none hP nC), upd_same], by rw [eL]; exact PySem.TriplesOk_snoc _ _ _ _ ht, fun p' cv hcv => ?_⟩
        rw [eL] at hcv
        rcases among_app _ ht hcv with z | z
        · obtain ⟨c0, q1, q2⟩ := hall p' cv z
          exact ⟨c0, q1, hE _ _ q2 codeO_ne⟩
        · exact ⟨c', z, upd_same⟩
      · obtain ⟨ps', a1, a2, a3⟩ := hT p hp
        refine ⟨ps', by rw [upd_ne (ne_of_none a1 nC), upd_ne hb]; exact a1, a2, fun p' cv hcv => ?_⟩
        obtain ⟨c0, q1, q2⟩ := a3 p' cv hcv
        exact ⟨c0, q1, hE _ _ q2 codeO_ne⟩
    · have hl : b < s2.heap.objs.size := by
        obtain ⟨o, e, _⟩ := Tn.obj _ _ st2 b hb
        exact Heap.lt_size e
      have n1 : b ≠ c' := Nat.ne_of_lt (Nat.lt_of_lt_of_le hl hge)
      have n2 : b ≠ P := fun z => by
        have := (f2 b hb).1
        rw [z, hP] at this
        cases this
      rw [upd_ne n1, upd_ne n2]
      exact (f2 b hb).1
end
end GX

-- text GenU
set_option maxRecDepth 100000
set_option maxHeartbeats 4000000
namespace GX
open PySem PySem.Spec PyProof.Rows L2 LamX GenW
section
variable {G : GD} {tg iter elt : Expr} {pos : Pos} {own : List (Str × Nat)} {J : It} {g : TG} {te : TE} {it : Addr} {tn : Nat → Heap → Prop} {n₀ : Nat} {Gh : Nat → Shared → List V → Prop} {W : Nat → List V → Hp → Prop} {Yd : Nat → List V → V → Hp → Prop} {Ct : Nat → List V → V → Prop} {Po : Nat → List V → V → Hp → Prop}
/-- the first turn -/
theorem seg_first (T : Turn G.X.prog G.X.w G.X.K tg J G.fp it tn) (hg : PG G.cx tg g) (he : PE G.cx elt te) (hco : G.scope.isCoroutine = false) (hfp : ∀ b ∈ G.fp, b < G.s.heap.objs.size) (haS : ∀ b ∈ G.fp, b ≠ G.a ∧ b ≠ G.S) (hS : G.s.heap.objs.size ≤ G.S)
    (hσ : wipe G.σ (own.map (·.2)) = G.σ) (P : Turns G J g te (own.map (·.2)) n₀ W Yd Ct Po) {s : Shared} {ys : List V} {H : Hp} (hgh : Gh 0 s ys) (hat : G.at H s) (ht : tn 0 s.heap) (hn : ∀ b ∈ G.fp, H b = none) (hw : W 0 ys H) :
      Seg (model G.X.prog G.X.w) G.A (fun n s₀ r s₁ => r = .ok .next ∧ G.E n₀ Gh W n s₀ s₁) (G.Y tn n₀ Gh Yd Ct) (n₀ + 1) s
        (.compStart (.GeneratorExp elt [⟨tg, iter, [], 0⟩] G.scope pos) 0 (.ref it) .none G.cx.env) ((model G.X.prog G.X.w).den (.compStart (.GeneratorExp elt [⟨tg, iter, [], 0⟩] G.scope pos) 0 (.ref it) .none G.cx.env)) [] s := by
  have loop := seg_turns (iter := iter) (pos := pos) T hg he hco hfp haS hS hσ P (n₀ + 1) 0 s s ys H (Nat.zero_add _) (Nat.zero_le _) hgh hat ht hn (fun _ z => z) hw
  show Seg _ G.A _ _ _ s _ ((compStart (.GeneratorExp elt [⟨tg, iter, [], 0⟩] G.scope pos) 0 (.ref it) .none G.cx.env).onRaise (leaving G.cx.env)) [] s
  unfold compStart
  rw [Sem.onRaise_eq_wrap]
  show Seg _ G.A _ _ _ s _ ((ask >>= _).wrap _ _ _ _) [] s
  refine seg_bind_wrap (wpAny_askSetting ?_)
  split
  · exact seg_again rfl loop
  · first
      | exact seg_bind_wrap (wpAny_rule (seg_bind_wrap (wpAny_standAt (seg_bind_wrap (T.self _ 0 s _ _ ht (seg_again rfl loop))))))
      | (refine seg_bind_wrap (wpAny_rule ?_); show Seg _ G.A _ _ _ s _ ((standAt iter.pos >>= _).wrap _ _ _ _) [] s; exact seg_bind_wrap (wpAny_standAt (seg_bind_wrap (T.self _ 0 s _ _ ht (seg_again rfl loop)))))

/-- the generator as the consumer has it ahead of turn i -/
structure GD.Wait (G : GD) (tn : Nat → Heap → Prop) (n₀ : Nat) (Gh : Nat → Shared → List V → Prop) (W : Nat → List V → Hp → Prop) (Yd : Nat → List V → V → Hp → Prop) (Ct : Nat → List V → V → Prop) (n : Nat) (s : Shared) : Prop where
  ga : s.heap.get? G.a = some G.go
  lim : s.heap.NoLimit
  go : ∃ gs : GenState, s.gens[G.g]? = some gs ∧ gs.Goes (model G.X.prog G.X.w) G.A (fun n s₀ r s₁ => r = .ok .next ∧ G.E n₀ Gh W n s₀ s₁) (G.Y tn n₀ Gh Yd Ct) n (.send .none) (s.setGen G.g .running)
theorem setGen_at2 {s : Shared} {g : Nat} {x y : GenState} (h : s.gens[g]? = some y) : (s.setGen g x).gens[g]? = some x := setGen_self h
theorem bare_set {s : Shared} {g : Nat} {x : GenState} (h : AllBare s.gens) (hx : x.bare = true) : AllBare (s.setGen g x).gens := allBare_setGen h hx

/-- next(generator) -/
theorem next_gen {A : Around} {Q : Option Value → Shared → Prop} {E : Value → Shared → Prop} {s : Shared} {n : Nat} (hn0 : n ≠ 0) (hS : G.s.heap.objs.size ≤ G.S) (hA : G.A = A.in1) (hh : A.handled = none) (hr : A.depth < recursionLimit) (hiG : ∀ h : Heap, h.get? G.a = some G.go → h.IsGen G.a G.g) (w : G.Wait tn n₀ Gh W Yd Ct n s)
    (hY : ∀ i ys y v H s1 gs', i + n = n₀ + 1 → i < n₀ → Gh i (s.setGen G.g .running) ys → RelV y v → G.at H s1 → AllBare (s1.setGen G.g gs').gens → (∀ o, s.heap.get? G.S = some o → s1.heap.get? G.S = some o) → Yd i ys y H →
      (∀ s', G.Rs (s1.setGen G.g gs') s' → s'.gens = (s1.setGen G.g gs').gens → Ct i ys y → Gh (i + 1) (s'.setGen G.g .running) (ys ++ [y]) → G.Wait tn n₀ Gh W Yd Ct (n - 1) s') → Q (some v) (s1.setGen G.g gs'))
    (hP : ∀ ys H s1 s2, n = 1 → Gh n₀ (s.setGen G.g .running) ys → G.at H s1 → (∀ o, s.heap.get? G.S = some o → s1.heap.get? G.S = some o) → W n₀ ys H → s2.os = s1.os → AllBare s2.gens → (∀ b o, s1.heap.get? b = some o → s2.heap.get? b = some o) → Q none s2) :
    wpAny (model G.X.prog G.X.w) A (pyNext (.ref G.a)) Q E s := by
  obtain ⟨ga, lim, gs, hgs, hgo⟩ := w
  rw [hA] at hgo
  have hgl : G.g < s.gens.size := (Array.getElem?_eq_some_iff.mp hgs).1
  refine wpAny_gsz (n := G.g + 1) hgl (wpAny_pyNext_genexpQ (P := G.E n₀ Gh W) hh lim hr (hiG _ ga) hgs hgo (fun v s1 gs' hb hv => ?_) (fun s1 hp h' hk => ?_))
  · intro hsz
    obtain ⟨i, ys, y, H, hi, hlt, hgh, rv, hat, hkS, hyd, hkap⟩ := hv
    cases n with
    | zero => exact absurd rfl hn0
    | succ m =>
      have hsz1 : G.g < s1.gens.size := by
        have q : (s1.setGen G.g gs').gens.size = s1.gens.size := setGen_size _ _ _
        have hsz' : G.g + 1 ≤ (s1.setGen G.g gs').gens.size := hsz
        omega
      have hi' : i + (m + 1) = n₀ + 1 := by
        have : i + (m + 1 - 1) = n₀ := hi
        omega
      have hb1 : AllBare s1.gens := by
        obtain ⟨oS, hc, I⟩ := hat
        exact I.bare
      refine hY i ys y v H s1 gs' hi' hlt hgh rv hat (bare_set hb1 hb) hkS hyd fun s' hrs hge hct hgh' => ?_
      obtain ⟨oS, hc, I⟩ := hat
      have h3 : s'.gens[G.g]? = some gs' := by rw [hge]; exact setGen_at hsz1
      refine ⟨hrs.ga, ?_, gs', h3, ?_⟩
      · have hcs : cStatics ≠ G.S := fun z => by
          obtain ⟨mc, ⟨o, es, ep, ho, hd, _⟩, _⟩ := I.ok.mod.nolimit
          have h9 := Heap.lt_size (I.ok.bs _ _ ho).1
          rw [z] at h9
          exact absurd (Nat.lt_of_lt_of_le h9 hS) (Nat.lt_irrefl _)
        obtain ⟨mc, hns, hnn⟩ := I.nolimit
        exact ⟨mc, hns.at' fun o e => hrs.keep _ o hcs e, hnn⟩
      · rw [hA]
        refine hkap (s'.setGen G.g .running) ⟨hrs.os, bare_set hrs.bare rfl, hrs.keep, hrs.ga, hrs.gs⟩ hct hgh'
  · intro hsz
    obtain ⟨hn1, ys, H, hgh, hat, hkS, hw⟩ := hp
    have hb1 : AllBare s1.gens := by
      obtain ⟨oS, hc, I⟩ := hat
      exact I.bare
    refine hP ys H s1 _ hn1 hgh hat hkS hw rfl ?_ fun b o e => hk b o e
    exact bare_set hb1 rfl
end
end GX

-- text GenV
set_option maxRecDepth 100000
set_option maxHeartbeats 4000000
namespace GX
open PySem PySem.Spec PyProof.Rows L2 LamX GenW
theorem wipe_set (σ : L2.St) (v w : Nat) : ((σ.set v none).set w none : L2.St) = (σ.set w none).set v none := by
  by_cases h : v = w
  · rw [h]
  · exact List.set_comm _ _ h
theorem wipe_comm1 (σ : L2.St) (v : Nat) : ∀ vs : List Nat, wipe (σ.set v none) vs = (wipe σ vs).set v none
  | [] => rfl
  | w :: r => by
    unfold wipe
    rw [wipe_comm1 σ v r, wipe_set]
theorem wipe_twice (σ : L2.St) : ∀ vs : List Nat, wipe (wipe σ vs) vs = wipe σ vs
  | [] => rfl
  | v :: r => by
    have e : wipe (wipe σ (v :: r)) (v :: r) = (wipe ((wipe σ r).set v none) r).set v none := rfl
    rw [e, wipe_comm1, wipe_twice σ r]
    show ((wipe σ r).set v none).set v none = (wipe σ r).set v none
    rw [List.set_set]

/-! ### any -/
section
variable {G : GD} {J : It} {tn : Nat → Heap → Prop} {n₀ : Nat} {W : Nat → Hp → Prop} {Qt : Hp → Prop} {A : Around} {R : Result → Shared → Prop}
abbrev anyGh : Nat → Shared → List V → Prop := fun i _ ys => ys = List.replicate i (V.bl false)
abbrev anyW (W : Nat → Hp → Prop) : Nat → List V → Hp → Prop := fun i _ H => W i H
abbrev anyYd (W : Nat → Hp → Prop) (Qt : Hp → Prop) : Nat → List V → V → Hp → Prop := fun i _ y H => ∃ c, y = .bl c ∧ if c = true then Qt H else W (i + 1) H
abbrev anyCt : Nat → List V → V → Prop := fun _ _ y => y = .bl false
theorem any_loop (hA : G.A = A.in1.in1) (hh : A.handled = none) (hr : A.depth < recursionLimit) (hS : G.s.heap.objs.size ≤ G.S) (haS : G.S = G.a) (hc : ∀ v, G.go.data ≠ .cell v) (hiG : ∀ h : Heap, h.get? G.a = some G.go → h.IsGen G.a G.g)
    (hT : ∀ H s1 s2, G.at H s1 → Qt H → s2.os = s1.os → AllBare s2.gens → (∀ b o, s1.heap.get? b = some o → s2.heap.get? b = some o) → R (.ok (.ret (.bool true))) s2)
    (hF : ∀ H s1 s2, G.at H s1 → W n₀ H → s2.os = s1.os → AllBare s2.gens → (∀ b o, s1.heap.get? b = some o → s2.heap.get? b = some o) → R (.ok (.ret (.bool false))) s2) :
    ∀ (n : Nat) (s : Shared), n ≠ 0 → G.Wait tn n₀ anyGh (anyW W) (anyYd W Qt) anyCt n s → codeAny (model G.X.prog G.X.w) A (.builtin "any.loop" ⟨[.ref G.a], []⟩) R s := by
  intro n
  induction n with
  | zero => exact fun _ h => absurd rfl h
  | succ n ih =>
    intro s _ hw
    refine (codeAny_builtin F.entry_any_loop ?_)
    rw [show A.under _ = _ from Around.under_plainId F.plain_any_loop _]
    show wpAny _ _ (pyNext (Value.ref G.a) >>= _) _ _ s
    refine wpAny_bind (next_gen (A := A.in1) (Nat.succ_ne_zero n) hS hA hh hr hiG hw (fun i ys y v H s1 gs' hi hlt hgh rv hat hb hk hyd hk2 => ?_) (fun ys H s1 s2 hn1 hgh hat hk hw2 ho hb hkp => ?_))
    · obtain ⟨c, rfl, hq⟩ := hyd
      obtain rfl : v = Value.bool c := rv
      obtain ⟨_, _, _, _, ga1, _⟩ := hat.facts
      refine wpAny_bind (wpAny_holding (wpAny_truthy_bool ?_))
      refine wpAny_bind (wpAny_letGo ?_)
      cases c with
      | true =>
        simp only [if_true] at hq ⊢
        refine wpAny_bind (wpAny_rule ?_)
        exact wpAny_pure (hT H s1 _ hat hq rfl hb fun b o e => e)
      | false =>
        simp only [Bool.false_eq_true, if_false] at hq ⊢
        have hn : n ≠ 0 := by omega
        exact wpAny_pure ⟨(plainId_quiet F.plain_any_loop) _, ih _ hn (hk2 _ ⟨rfl, hb, fun b o _ e => e, ga1, by rw [haS]; exact ⟨_, ga1, hc⟩⟩ rfl rfl (by show ys ++ [V.bl false] = List.replicate (i + 1) (V.bl false); rw [hgh, List.replicate_succ'])) ⟩
    · refine wpAny_bind (wpAny_rule ?_)
      exact wpAny_pure (hF H s1 s2 hat hw2 ho hb hkp)
end

/-- the reading of any(elt for tg in iter) -/
def tGenAny (T : List (Addr × Str)) (wi : TI) (g : TG) (te : TE) (vs : List Nat) : TE := fun σ H Q => wi σ H fun J H1 => Tabs T H1 ∧ ∀ H2, ExtN H1 H2 → Tabs T H2 → (∀ b, H2 b = none → H1 b = none) →
  ∃ (n₀ : Nat) (W : Nat → Hp → Prop), W 0 H2 ∧
    (∀ i H, i < n₀ → W i H → J.go i H ∧ ∀ x H', J.yld i H x H' → g x (wipe σ vs) H' fun σ2 H3 => wipe σ2 vs = wipe σ vs ∧ te σ2 H3 fun y H4 => ∃ c, y = .bl c ∧ if c = true then Q (.bl true) H4 else W (i + 1) H4) ∧
    (∀ H, W n₀ H → J.stop n₀ H ∧ Q (.bl false) H)
section
variable {X : Cx}
theorem room_gen {k : Nat} {A : Around} (r : Room (k + 1) A) (env : Env) : Room k (A.in1.in1.in1.in1.deeper env) :=
  ⟨r.hd, by have := r.dp; show A.depth + 1 + 3 * k + 5 < _; omega, by have := r.un; show A.units + 1 + 1 + 1 + 1 + 3 + 16 * k + 200 < _; omega⟩
theorem room_gen2 {k : Nat} {A : Around} (r : Room (k + 1) A) (env : Env) : Room k (A.in1.in1.deeper env) :=
  ⟨r.hd, by have := r.dp; show A.depth + 1 + 3 * k + 5 < _; omega, by have := r.un; show A.units + 1 + 1 + 3 + 16 * k + 200 < _; omega⟩
theorem room_gen3 {k : Nat} {A : Around} (r : Room (k + 1) A) (env : Env) : Room k (A.in1.in1.in1.deeper env) :=
  ⟨r.hd, by have := r.dp; show A.depth + 1 + 3 * k + 5 < _; omega, by have := r.un; show A.units + 1 + 1 + 1 + 3 + 16 * k + 200 < _; omega⟩

theorem pe_genAny {T : List (Addr × Str)} {c P : Addr} {own : List (Str × Nat)} {tg iter elt : Expr} {scope : Scope} {gpos p pos : Pos} {wi : TI} {g : TG} {te : TE} {k : Nat}
    (hr : Room (k + 1) X.A) (hgl : Gl X "any") (hm : X.mg "any" = none) (hN : X.N.Nodup) (TB : TabB X.base X.mg c P) (hcode : X.env.code = .ref c) (hmT : (P, X.env.qual ++ "<genexpr>") ∈ T) (hu : ∀ p ∈ T, p.1 = P → p.2 = X.env.qual ++ "<genexpr>")
    (hi : PI X tg iter wi) (ok : GSc X.N X.env.scope scope own)
    (hg : ∀ (A : Around) (s : Shared) (H : Hp) (code : Value) (ex : List Addr), PG (gcx X A s H scope code ex) tg g) (he : ∀ (A : Around) (s : Shared) (H : Hp) (code : Value) (ex : List Addr), Room k (gcx X A s H scope code ex).A → PE (gcx X A s H scope code ex) elt te)
    (hs : ∀ v, genFold iter X.env v = pure v := by intro _; rfl)
    (hst : starEach [.GeneratorExp elt [⟨tg, iter, [], 0⟩] scope gpos] X.env = (false, eval (.GeneratorExp elt [⟨tg, iter, [], 0⟩] scope gpos) X.env) :: starEach [] X.env := by rfl) :
    PE X (.Call (.Name "any" p) [.GeneratorExp elt [⟨tg, iter, [], 0⟩] scope gpos] [] pos) (tGenAny T wi g te (own.map (·.2))) := by
  refine ⟨fun pins s σ H Q I h => ?_⟩
  refine wpAny_Call_Name_kw (ld_blt I hgl hm boot_any ?_)
  refine PyProof.Rows.callWith_builtin1 ?_ hst (by rfl)
  rw [hst]
  show wpAny _ _ (spliced ((false, eval (Expr.GeneratorExp elt [⟨tg, iter, [], 0⟩] scope gpos) X.env) :: backTo pos (starEach [] X.env))) _ _ s
  refine Calls.spliced_cons (gen_make I hi ok TB hcode hmT hu hr.depth hs h fun J H1 H2 it fp tn code a go gi s4 s5 hR hE hT hno M => ?_)
  refine Calls.spliced_nil ?_
  obtain ⟨n₀, W, w0, step, stop⟩ := hR H2 hE hT hno
  refine call_function_tree F.kind_any F.plain_any F.entry_any (F.args_any1 (a := _)) ?_
  unfold Builtin.«any»
  refine wpAny_bind (m := oneArg "any" _) (wpAny_pure ?_)
  refine wpAny_bind (wpAny_pyIter_gen (M.isG _ M.ga) ?_)
  let G : GD := ⟨X, X.A.in1.in1, s4, H2, scope, code, fp, a, go, gi, a, wipe σ (own.map (·.2))⟩
  have I5 : Inv G.cx [] G.σ H2 s5 := by
    obtain ⟨m, hns⟩ := M.ns
    exact gen_start (A := X.A.in1.in1) M.inv ok hN hr.hd M.inv.ok.frames M.fps hns M.keep M.os M.bare
  have hfpa : ∀ b ∈ fp, b ≠ a := fun b hb => Nat.ne_of_lt (Nat.lt_trans (M.fps b hb).2 M.lt)
  have at5 : G.at H2 s5 := by
    refine ⟨go, M.cellG, I5.pins_of fun p hp => ?_⟩
    have hp' : p = (a, go) := by
      rcases List.mem_cons.mp hp with z | z
      · exact z
      · exact List.mem_singleton.mp z
    rw [hp']
    exact ⟨M.ga, M.inv.hok.fresh (Nat.le_of_lt M.lt), Nat.ne_of_gt M.lt, fun hb => by
      have z : a ∈ frs X.stack := hb
      rcases List.mem_cons.mp (M.inv.stkSub a z) with z | z
      · have := M.inv.lt
        rw [← z] at this
        exact absurd (Nat.lt_trans M.lt this) (Nat.lt_irrefl _)
      · exact M.inv.nofs (Nat.le_of_lt M.lt) z, M.cellG⟩
  have P0 : Turns G J g te (own.map (·.2)) n₀ (anyW W) (anyYd W fun H => Q (.bl true) H) anyCt (anyYd W fun H => Q (.bl true) H) := by
    refine ⟨fun i ys H hi hw => ?_, fun i ys y H hi hp => ⟨hp, fun e => ?_⟩, fun ys H hw => (stop H hw).1⟩
    · exact step i H hi hw
    · obtain ⟨c, e2, hq⟩ := hp
      have e3 : y = V.bl false := e
      rw [e2] at e3
      cases e3
      exact hq
  have Wt : G.Wait tn n₀ anyGh (anyW W) (anyYd W fun H => Q (.bl true) H) anyCt (n₀ + 1) s5 := by
    refine ⟨M.ga, M.inv.nolimit.keeps M.keep, _, M.gens, rfl, ?_⟩
    refine seg_first (G := G) (J := J) (own := own) (ys := []) M.turn (hg _ _ _ _ _) (he _ _ _ _ _ (room_gen2 hr _)) ok.co (fun b hb => (M.fps b hb).2) (fun b hb => ⟨hfpa b hb, hfpa b hb⟩) (Nat.le_of_lt M.lt) (wipe_twice _ _) P0 rfl
      (at5.woken (Nat.le_of_lt M.lt) ⟨rfl, bare_set M.bare rfl, fun b o _ e => e, M.ga, ⟨go, M.ga, M.cellG⟩⟩) M.tn0 (fun b hb => (M.fps b hb).1.1) w0
  have back : ∀ {H' : Hp} {s1 s2 : Shared}, G.at H' s1 → s2.os = s1.os → AllBare s2.gens → (∀ b o, s1.heap.get? b = some o → s2.heap.get? b = some o) → Inv X pins σ H' s2 := fun {H' s1 s2} hat ho hb hk => by
    obtain ⟨oS, hc, J'⟩ := hat
    exact gen_back M.inv J' (fun b hb => (M.fps b hb).1) ho hk hb
  refine wpAny_pure ⟨(plainId_quiet F.plain_any_loop) _, any_loop (G := G) (A := X.A) rfl hr.hd hr.depth (Nat.le_of_lt M.lt) rfl M.cellG M.isG (fun H' s1 s2 hat hq ho hb hk => ?_) (fun H' s1 s2 hat hq ho hb hk => ?_) (n₀ + 1) s5 (Nat.succ_ne_zero _) Wt⟩
  · exact ⟨.bl true, H', back hat ho hb hk, rfl, hq⟩
  · exact ⟨.bl false, H', back hat ho hb hk, rfl, (stop H' hq).2⟩
end
end GX

-- text GenW2
set_option maxRecDepth 100000
set_option maxHeartbeats 4000000
namespace GX
open PySem PySem.Spec PyProof.Rows L2 LamX GenW
/-! ### tuple -/
section
variable {G : GD} {J : It} {tn : Nat → Heap → Prop} {n₀ : Nat} {W : Nat → List V → Hp → Prop} {A : Around} {R : Result → Shared → Prop}
abbrev tupGh (S : Addr) : Nat → Shared → List V → Prop := fun i s ys => ys.length = i ∧ ∃ (acc : Array Value) (c : Nat), s.heap.get? S = some (lstObj acc c) ∧ Vals ys acc.toList
abbrev yesYd : Nat → List V → V → Hp → Prop := fun _ _ _ _ => True
abbrev yesCt : Nat → List V → V → Prop := fun _ _ _ => True
theorem lst_cell {acc : Array Value} {c : Nat} : ∀ v, (lstObj acc c).data ≠ .cell v := fun v z => by cases z
theorem ext_loop (hA : G.A = A.in1.in1) (hh : A.handled = none) (hr : A.depth < recursionLimit) (hS : G.s.heap.objs.size ≤ G.S) (haS : G.S ≠ G.a) (hz : n₀ ≤ sizeLine) (hiG : ∀ h : Heap, h.get? G.a = some G.go → h.IsGen G.a G.g) (res : Value)
    (hF : ∀ ys acc c H s1 s2, s2.heap.get? G.S = some (lstObj acc c) → Vals ys acc.toList → ys.length = n₀ → G.at H s1 → W n₀ ys H → s2.os = s1.os → AllBare s2.gens → (∀ b o, s1.heap.get? b = some o → s2.heap.get? b = some o) → R (.ok (.ret res)) s2) :
    ∀ (n : Nat) (s : Shared), n ≠ 0 → G.Wait tn n₀ (tupGh G.S) W yesYd yesCt n s → codeAny (model G.X.prog G.X.w) A (.builtin "list.extend.loop" ⟨[.ref G.S, .ref G.a, res], []⟩) R s := by
  intro n
  induction n with
  | zero => exact fun _ h => absurd rfl h
  | succ n ih =>
    intro s _ hw
    refine (codeAny_builtin F.entry_extend_loop ?_)
    rw [show A.under _ = _ from Around.under_plainId F.plain_extend_loop _]
    show wpAny _ _ (pyNext (Value.ref G.a) >>= _) _ _ s
    refine wpAny_bind (next_gen (A := A.in1) (Nat.succ_ne_zero n) hS hA hh hr hiG hw (fun i ys y v H s1 gs' hi hlt hgh rv hat hb hk hyd hk2 => ?_) (fun ys H s1 s2 hn1 hgh hat hk hw2 ho hb hkp => ?_))
    · obtain ⟨hil, acc, c, hSg, rvs⟩ := hgh
      have hS1 : s1.heap.get? G.S = some (lstObj acc c) := hk _ hSg
      obtain ⟨_, _, _, _, ga1, _⟩ := hat.facts
      have hsz : acc.size = i := by
        have e := rvs.length
        have el : acc.toList.length = acc.size := by simp
        omega
      show wpAny _ _ (updateSeq G.S (Array.push · v) >>= _) _ _ _
      refine wpAny_bind ?_
      refine wpAny_updateSeq (s := s1.setGen G.g gs') hS1 rfl (wpAny_pure ⟨(plainId_quiet F.plain_extend_loop) _, ?_⟩) (by omega) (by show (acc.push v).size ≤ sizeLine + 1; rw [Array.size_push]; omega)
      have hup := Heap.get?_update_self (Obj.mapSeq (Array.push · v)) hS1 rfl
      have hoth : ∀ b o, b ≠ G.S → s1.heap.get? b = some o → (s1.heap.update G.S (Obj.mapSeq (Array.push · v))).get? b = some o := fun b o hb e => (Heap.get?_update_other _ _ (fun z => hb z.symm)).trans e
      refine ih _ (by omega) (hk2 _ ⟨rfl, hb, hoth, hoth _ _ (Ne.symm haS) ga1, ⟨_, hup, lst_cell⟩⟩ rfl trivial ⟨?_, acc.push v, _, hup, ?_⟩)
      · rw [List.length_append, List.length_singleton, hil]
      · rw [Array.toList_push]
        exact rvs.append (.cons rv .nil)
    · obtain ⟨hil, acc, c, hSg, rvs⟩ := hgh
      exact wpAny_pure (hF ys acc c H s1 s2 (hkp _ _ (hk _ hSg)) rvs hil hat hw2 ho hb hkp)

theorem ext_loop2 {S' : Addr} (hSe : S' = G.S) (hA : G.A = A.in1.in1) (hh : A.handled = none) (hr : A.depth < recursionLimit) (hS : G.s.heap.objs.size ≤ G.S) (haS : G.S ≠ G.a) (hz : n₀ ≤ sizeLine) (hiG : ∀ h : Heap, h.get? G.a = some G.go → h.IsGen G.a G.g) (res : Value)
    (hF : ∀ ys acc c H s1 s2, s2.heap.get? S' = some (lstObj acc c) → Vals ys acc.toList → ys.length = n₀ → G.at H s1 → W n₀ ys H → s2.os = s1.os → AllBare s2.gens → (∀ b o, s1.heap.get? b = some o → s2.heap.get? b = some o) → R (.ok (.ret res)) s2)
    (n : Nat) (s : Shared) (hn : n ≠ 0) (w : G.Wait tn n₀ (tupGh G.S) W yesYd yesCt n s) : codeAny (model G.X.prog G.X.w) A (.builtin "list.extend.loop" ⟨[.ref S', .ref G.a, res], []⟩) R s := by
  subst hSe
  exact ext_loop hA hh hr hS haS hz hiG res hF n s hn w

theorem collect_gen {Q : List Value → Shared → Prop} {E : Value → Shared → Prop} {s : Shared} (hA : G.A = A.in1.in1) (hh : A.handled = none) (hr : A.depth < recursionLimit) (hSe : G.S = s.heap.objs.size) (hS : G.s.heap.objs.size ≤ G.S) (haS : G.S ≠ G.a) (hz : n₀ ≤ sizeLine) (hiG : ∀ h : Heap, h.get? G.a = some G.go → h.IsGen G.a G.g)
    (hga : s.heap.get? G.a = some G.go)
    (hW : ∀ s' c, s'.os = s.os → s'.gens = s.gens → (∀ b o, s.heap.get? b = some o → s'.heap.get? b = some o) → s'.heap.get? G.S = some (lstObj #[] c) → G.Wait tn n₀ (tupGh G.S) W yesYd yesCt (n₀ + 1) s')
    (hF : ∀ ys acc H s1 s2, Vals ys acc → ys.length = n₀ → G.at H s1 → W n₀ ys H → s2.os = s1.os → AllBare s2.gens → (∀ b o, s1.heap.get? b = some o → s2.heap.get? b = some o) → Q acc s2) :
    wpAny (model G.X.prog G.X.w) A (collect (.ref G.a)) Q E s := by
  have tyG : ∀ s' : Shared, s'.heap.get? G.a = some G.go → s'.TypeIs (.ref G.a) "generator" := fun s' e => (hiG _ e).typeIs
  unfold collect
  refine (wpAny_bind (wpAny_runValue (codeAny_builtin F.entry_proto_collect ?_)))
  rw [show A.under _ = _ from Around.under_plainId F.plain_proto_collect _]
  show wpAny _ _ (newList [] >>= fun l => again (.builtin "list.__iadd__" ⟨[l, Value.ref G.a], []⟩)) _ _ s
  refine wpAny_bind (wpAny_newObj_type ?_)
  refine wpAny_pure ⟨(plainId_quiet F.plain_list_iadd) _, (codeAny_builtin F.entry_list_iadd ?_)⟩
  rw [show A.under _ = _ from Around.under_plainId F.plain_list_iadd _]
  have k1 : ∀ b o, s.heap.get? b = some o → (s.heap.push { cls := .type "list", data := .seq ([] : List Value).toArray }).get? b = some o := fun b o e => Heap.get?_push_of_some _ e
  have h1 : Builtin.List.listSameRef (.ref s.heap.objs.size) (.ref G.a) = false := by
    have : s.heap.objs.size ≠ G.a := by rw [← hSe]; exact haS
    simp [Builtin.List.listSameRef, this]
  show wpAny _ _ (Builtin.List.listExtendWith (Value.ref s.heap.objs.size) (.ref G.a) (.ref s.heap.objs.size)) _ _ _
  unfold Builtin.List.listExtendWith
  refine wpAny_bind (wpAny_typeOf (tyG { s with heap := _ } (k1 _ _ hga)) ?_)
  have h2 : (Value.type "generator" == Value.type "list") = false := (by decide)
  have h3 : (Value.type "generator" == Value.type "tuple") = false := (by decide)
  simp only [h1, h2, h3, Bool.or_false, Bool.false_eq_true, if_false]
  refine wpAny_bind (wpAny_pyIter_gen (s := { s with heap := _ }) (hiG _ (k1 _ _ hga)) ?_)
  refine wpAny_bind (wpAny_holding (vs := _) ?_)
  unfold Builtin.List.listLengthHint
  refine wpAny_bind (wpAny_specialOf (tyG { s with heap := _ } (k1 _ _ hga)) F.gen_no_len ?_)
  show wpAny _ _ (specialOf (Value.ref G.a) (Str.ofString "__length_hint__") >>= _) _ _ _
  refine wpAny_bind (wpAny_specialOf (tyG { s with heap := _ } (k1 _ _ hga)) F.gen_no_hint ?_)
  refine wpAny_pure ?_
  show wpAny _ _ (rule "list.extend.makes-room" >>= fun _ => Builtin.List.listTouch (.ref s.heap.objs.size) >>= fun _ =>
    again (.builtin "list.extend.loop" ⟨[.ref s.heap.objs.size, .ref G.a, .ref s.heap.objs.size], []⟩)) _ _ _
  refine wpAny_bind (wpAny_rule ?_)
  have hS₁ : (s.heap.push { cls := .type "list", data := .seq ([] : List Value).toArray }).get? s.heap.objs.size = some (lstObj #[] 0) := Heap.get?_push_size _ rfl
  refine wpAny_bind ?_
  show wpAny _ _ (updateSeq s.heap.objs.size (Array.push · .none) >>= fun _ => updateSeq s.heap.objs.size (fun a => a.pop)) _ _ _
  refine wpAny_bind (wpAny_updateSeq hS₁ rfl ?_)
  have hS₂ := Heap.get?_update_self (Obj.mapSeq (Array.push · Value.none)) hS₁ rfl
  refine wpAny_updateSeq hS₂ rfl ?_
  have hS₃ := Heap.get?_update_self (Obj.mapSeq (fun a => a.pop)) hS₂ rfl
  have oth : ∀ b o, s.heap.get? b = some o →
      (((s.heap.push { cls := .type "list", data := .seq ([] : List Value).toArray }).update s.heap.objs.size (Obj.mapSeq (Array.push · Value.none))).update s.heap.objs.size (Obj.mapSeq (fun a => a.pop))).get? b = some o :=
    fun b o e => (Heap.get?_update_other _ _ (Ne.symm (Nat.ne_of_lt (Heap.lt_size e)))).trans ((Heap.get?_update_other _ _ (Ne.symm (Nat.ne_of_lt (Heap.lt_size e)))).trans (k1 b o e))
  refine wpAny_pure ⟨(plainId_quiet F.plain_extend_loop) _, ext_loop2 (A := A) (W := W) (tn := tn) hSe.symm hA hh hr hS haS hz hiG _ (fun ys acc c H s1 s2 hSg rvs hl hat hw ho hb hk => ?_) (n₀ + 1) _ (Nat.succ_ne_zero _) ?_⟩
  · show wpAny _ _ (load s.heap.objs.size >>= _) _ _ s2
    refine wpAny_bind (wpAny_load hSg ?_)
    exact wpAny_pure (hF ys acc.toList H s1 s2 rvs hl hat hw ho hb hk)
  · refine hW _ 2 rfl rfl oth ?_
    rw [hSe]
    exact hS₃
end

def tGenTup (T : List (Addr × Str)) (wi : TI) (g : TG) (te : TE) (vs : List Nat) : TE := fun σ H Q => wi σ H fun J H1 => Tabs T H1 ∧ ∀ H2, ExtN H1 H2 → Tabs T H2 → (∀ b, H2 b = none → H1 b = none) →
  ∃ (n₀ : Nat) (W : Nat → List V → Hp → Prop), n₀ ≤ sizeLine ∧ W 0 [] H2 ∧
    (∀ i ys H, i < n₀ → W i ys H → J.go i H ∧ ∀ x H', J.yld i H x H' → g x (wipe σ vs) H' fun σ2 H3 => wipe σ2 vs = wipe σ vs ∧ te σ2 H3 fun y H4 => W (i + 1) (ys ++ [y]) H4) ∧
    (∀ ys H, W n₀ ys H → J.stop n₀ H ∧ ∀ p, H p = none → Q (.ref p) (upd H p (.tup ys)))
section
variable {X : Cx}
theorem code_tup_new {prog : Program} {w : World} {A : Around} {E : Value → Shared → Prop} {s : Shared} {a : Addr} {Q₁ : Value → Shared → Prop} (hTI : s.TypeIs (.ref a) "generator")
    (hC : wpAny (model prog w) A.in1 (collect (.ref a)) (fun acc s1 => acc.length ≤ sizeLine ∧ Q₁ (.ref s1.heap.objs.size) { s1 with heap := s1.heap.push { cls := .type "tuple", data := .seq acc.toArray } }) E s) :
    codeAny (model prog w) A (.call (.builtin "tuple.__new__") ⟨[.type "tuple", .ref a], []⟩) (wants Q₁ E) s := by
  refine (codeAny_of_tree ?_)
  show wpAny _ _ (do checkBuiltinCall "tuple.__new__" ⟨[Value.type "tuple", .ref a], []⟩; again (.builtin "tuple.__new__" ⟨[.type "tuple", .ref a], []⟩)) _ _ s
  refine wpAny_bind (wpAny_of_eq (F.newCall_tuple_1 (a := _)) (wpAny_pure ⟨(plainId_quiet F.plain_tuple_new) _, (codeAny_builtin F.entry_tuple_new ?_)⟩))
  rw [show A.under _ = _ from Around.under_plainId F.plain_tuple_new _]
  have hsub := sub_tuple_self
  have hinit := init_tuple_lookup
  have hmh := madeHere_tuple
  have hC' : ∀ Q2, (∀ acc s1, acc.length ≤ sizeLine → Q₁ (.ref s1.heap.objs.size) { s1 with heap := s1.heap.push { cls := .type "tuple", data := .seq acc.toArray } } → Q2 acc s1) → wpAny (model prog w) A.in1 (collect (.ref a)) Q2 E s := fun Q2 h => thn hC fun acc s1 q => h acc s1 q.1 q.2
  wp_walk using wpAny_typeOf hTI, hC'
  intro acc s1 hz hq
  show wpAny _ _ (Builtin.Tuple.tupleExact acc.toArray >>= fun v => ret v) _ _ _
  unfold Builtin.Tuple.tupleExact
  refine wpAny_bind (wpAny_newObj_type ?_ (by show acc.toArray.size ≤ sizeLine; rw [List.size_toArray]; exact hz))
  exact wpAny_pure hq

/-- a made generator, asleep ahead of its first turn; S: the consumer's own object -/
theorem made_wait {pins : List (Addr × Obj)} {σ : L2.St} {tg iter elt : Expr} {scope : Scope} {gpos : Pos} {J : It} {H2 : Hp} {it : Addr} {fp : List Addr} {tn : Nat → Heap → Prop} {code : Value} {a S : Addr} {go oS : Obj} {gi : Nat} {s4 s5 s6 : Shared} {A : Around} {own : List (Str × Nat)} {g : TG} {te : TE}
    {n₀ : Nat} {Gh : Nat → Shared → List V → Prop} {W : Nat → List V → Hp → Prop} {Yd : Nat → List V → V → Hp → Prop} {Ct : Nat → List V → V → Prop} {Po : Nat → List V → V → Hp → Prop}
    (M : Made X pins σ tg iter elt scope gpos J H2 it fp tn code a go gi s4 s5) (ok : GSc X.N X.env.scope scope own) (hN : X.N.Nodup) (hd : A.handled = none) (hfr : A.frames = some X.stack)
    (hg : PG (gcx X A s4 H2 scope code fp) tg g) (he : PE (gcx X A s4 H2 scope code fp) elt te)
    (P : Turns ⟨X, A, s4, H2, scope, code, fp, a, go, gi, S, wipe σ (own.map (·.2))⟩ J g te (own.map (·.2)) n₀ W Yd Ct Po)
    (ho : s6.os = s5.os) (hgen : s6.gens = s5.gens) (hk : ∀ b o, s5.heap.get? b = some o → s6.heap.get? b = some o) (hS : s6.heap.get? S = some oS) (hSc : ∀ v, oS.data ≠ .cell v) (hSl : s4.heap.objs.size < S)
    (hgh : Gh 0 (s6.setGen gi .running) []) (w0 : W 0 [] H2) :
    GD.Wait ⟨X, A, s4, H2, scope, code, fp, a, go, gi, S, wipe σ (own.map (·.2))⟩ tn n₀ Gh W Yd Ct (n₀ + 1) s6 := by
  have I5 : Inv (gcx X A s4 H2 scope code fp) [] (wipe σ (own.map (·.2))) H2 s6 := by
    obtain ⟨m, hns⟩ := M.ns
    exact gen_start (A := A) M.inv ok hN hd hfr M.fps (hns.keeps hk) (fun b o e => hk _ _ (M.keep b o e)) (ho.trans M.os) (by rw [hgen]; exact M.bare)
  have young : ∀ b, s4.heap.objs.size < b → H2 b = none ∧ b ≠ s4.heap.objs.size ∧ b ∉ frs X.stack := fun b hb => by
    refine ⟨M.inv.hok.fresh (Nat.le_of_lt hb), Nat.ne_of_gt hb, fun z => ?_⟩
    rcases List.mem_cons.mp (M.inv.stkSub b z) with z | z
    · have := M.inv.lt
      rw [← z] at this
      exact absurd (Nat.lt_trans hb this) (Nat.lt_irrefl _)
    · exact M.inv.nofs (Nat.le_of_lt hb) z
  let G : GD := ⟨X, A, s4, H2, scope, code, fp, a, go, gi, S, wipe σ (own.map (·.2))⟩
  have at5 : G.at H2 s6 := by
    refine ⟨oS, hSc, I5.pins_of fun p hp => ?_⟩
    rcases List.mem_cons.mp hp with z | z
    · rw [z]
      obtain ⟨y1, y2, y3⟩ := young a M.lt
      exact ⟨hk _ _ M.ga, y1, y2, y3, M.cellG⟩
    · rw [List.mem_singleton.mp z]
      obtain ⟨y1, y2, y3⟩ := young S hSl
      exact ⟨hS, y1, y2, y3, hSc⟩
  have g6 : s6.gens[gi]? = some (.fresh (.compStart (.GeneratorExp elt [⟨tg, iter, [], 0⟩] scope gpos) 0 (.ref it) .none (gEnv X scope s4.heap.objs.size code))) := by
    rw [hgen]
    exact M.gens
  refine ⟨hk _ _ M.ga, M.inv.nolimit.keeps fun b o e => hk _ _ (M.keep b o e), _, g6, rfl, ?_⟩
  exact seg_first (G := G) (J := J) (own := own) (ys := []) M.turn hg he ok.co (fun b hb => (M.fps b hb).2) (fun b hb => ⟨Nat.ne_of_lt (Nat.lt_trans (M.fps b hb).2 M.lt), Nat.ne_of_lt (Nat.lt_trans (M.fps b hb).2 hSl)⟩) (Nat.le_of_lt hSl) (wipe_twice _ _) P hgh
      (at5.woken (Nat.le_of_lt hSl) ⟨rfl, bare_set (by rw [hgen]; exact M.bare) rfl, fun b o _ e => e, hk _ _ M.ga, ⟨oS, hS, hSc⟩⟩) (M.turn.keep _ _ _ M.tn0 fun b _ o e => hk b o e) (fun b hb => (M.fps b hb).1.1) w0

/-- tuple(elt for tg in iter) -/
theorem pe_genTup {T : List (Addr × Str)} {c P : Addr} {own : List (Str × Nat)} {tg iter elt : Expr} {scope : Scope} {gpos p pos : Pos} {wi : TI} {g : TG} {te : TE} {k : Nat}
    (hr : Room (k + 1) X.A) (hgl : Gl X "tuple") (hm : X.mg "tuple" = none) (hN : X.N.Nodup) (TB : TabB X.base X.mg c P) (hcode : X.env.code = .ref c) (hmT : (P, X.env.qual ++ "<genexpr>") ∈ T) (hu : ∀ p ∈ T, p.1 = P → p.2 = X.env.qual ++ "<genexpr>")
    (hi : PI X tg iter wi) (ok : GSc X.N X.env.scope scope own)
    (hg : ∀ (A : Around) (s : Shared) (H : Hp) (code : Value) (ex : List Addr), PG (gcx X A s H scope code ex) tg g) (he : ∀ (A : Around) (s : Shared) (H : Hp) (code : Value) (ex : List Addr), Room k (gcx X A s H scope code ex).A → PE (gcx X A s H scope code ex) elt te)
    (hs : ∀ v, genFold iter X.env v = pure v := by intro _; rfl)
    (hst : starEach [.GeneratorExp elt [⟨tg, iter, [], 0⟩] scope gpos] X.env = (false, eval (.GeneratorExp elt [⟨tg, iter, [], 0⟩] scope gpos) X.env) :: starEach [] X.env := by rfl) :
    PE X (.Call (.Name "tuple" p) [.GeneratorExp elt [⟨tg, iter, [], 0⟩] scope gpos] [] pos) (tGenTup T wi g te (own.map (·.2))) := by
  refine ⟨fun pins s σ H Q I h => ?_⟩
  refine wpAny_Call_Name_kw (ld_blt I hgl hm (by decide +kernel : bootBuiltins "tuple" = some (.type "tuple")) ?_)
  refine (PyProof.Rows.callWith_type1 ?_ hst (by rfl))
  rw [hst]
  show wpAny _ _ (spliced ((false, eval (Expr.GeneratorExp elt [⟨tg, iter, [], 0⟩] scope gpos) X.env) :: backTo pos (starEach [] X.env))) _ _ s
  refine Calls.spliced_cons (gen_make I hi ok TB hcode hmT hu hr.depth hs h fun J H1 H2 it fp tn code a go gi s4 s5 hR hE hT hno M => ?_)
  refine Calls.spliced_nil ?_
  obtain ⟨n₀, W, hz, w0, step, stop⟩ := hR H2 hE hT hno
  let G : GD := ⟨X, X.A.in1.in1.in1.in1, s4, H2, scope, code, fp, a, go, gi, s5.heap.objs.size, wipe σ (own.map (·.2))⟩
  have P0 : Turns G J g te (own.map (·.2)) n₀ W yesYd yesCt (fun i ys y H => W (i + 1) (ys ++ [y]) H) :=
    ⟨fun i ys H hi hw => step i ys H hi hw, fun i ys y H hi hp => ⟨trivial, fun _ => hp⟩, fun ys H hw => (stop ys H hw).1⟩
  refine callType_codes (Q₁ := fun obj s₁ => s₁.TypeIs obj "tuple" ∧ EP X pins σ Q obj s₁) F.called_tuple (F.typeCall_tuple_1 (a := _)) F.entry_object_init
    (code_tup_new (A := X.A.in1) ((M.isG _ M.ga).typeIs) (collect_gen (G := G) (A := X.A.in1.in1) (tn := tn) (W := W) (n₀ := n₀) rfl hr.hd hr.depth rfl (Nat.le_of_lt (Nat.lt_trans M.lt M.ltS)) (Nat.ne_of_gt M.ltS) hz M.isG M.ga (fun s' c ho hge hk hS => ?_) (fun ys acc H' s1 s2 rvs hl hat hw ho hb hk => ?_))) fun obj s₁ h₁ => ?_
  · exact made_wait M ok hN hr.hd M.inv.ok.frames (hg _ _ _ _ _) (he _ _ _ _ _ (room_gen hr _)) P0 ho hge hk hS lst_cell (Nat.lt_trans M.lt M.ltS) ⟨rfl, _, _, hS, .nil⟩ w0
  · obtain ⟨oS, hc, J'⟩ := hat
    have I2 : Inv X pins σ H' s2 := gen_back M.inv J' (fun b hb => (M.fps b hb).1) ho hk hb
    have ln : acc.length ≤ sizeLine := by
      have e := rvs.length
      omega
    have hfr := I2.hok.fresh (Nat.le_refl _)
    refine ⟨ln, ⟨_, Heap.get?_push_size _ rfl, rfl⟩, .ref s2.heap.objs.size, upd H' s2.heap.objs.size (.tup ys), ?_, rfl, (stop ys H' hw).2 _ hfr⟩
    refine I2.laid (a := s2.heap.objs.size) (fun b u e => Heap.get?_push_of_some _ e) (Nat.le_refl _) ⟨by omega, acc, rvs, ?_⟩
    exact ⟨_, Heap.get?_push_size _ rfl, rfl, 0, rfl⟩
  · exact ⟨h₁.1, F.args_object_init_2 obj _, object_init_meets F.called_tuple.init.lookup F.called_tuple.made (by decide) X.prog X.w X.A.in1 _ s₁ ⟨h₁.1, rfl, h₁.2⟩⟩
end
end GX

-- text Com
set_option maxRecDepth 100000
set_option maxHeartbeats 4000000
/-! Com: how heaps grow, what a raise hands on, short words. -/
namespace GX
open PySem PySem.Spec PyProof.Rows L2 LamX
/-- neither a table nor a thing told by a property -/
def PlainO : HO → Prop
  | .tbl _ => False
  | .ext _ => False
  | _ => True
/-- H' holds all that H held (the tables may have grown) -/
structure Le (T : List (Addr × Str)) (H H' : Hp) : Prop where
  ext : ExtN H H'
  tab : Tabs T H'
  no : ∀ b, H' b = none → H b = none
section
variable {T : List (Addr × Str)} {H H1 H2 : Hp} {a p : Addr} {o : HO}
theorem Le.refl (t : Tabs T H) : Le T H H := ⟨ExtN.refl H, t, fun _ z => z⟩
theorem Le.trans (x : Le T H H1) (y : Le T H1 H2) : Le T H H2 := ⟨x.ext.trans y.ext, y.tab, fun b z => x.no b (y.no b z)⟩
theorem Le.at (x : Le T H H1) (h : H a = some o) (n : PlainO o := by trivial) : H1 a = some o := x.ext a o h fun ps z => by rw [z] at n; exact n
theorem Le.seqL {K : PySem.W.Frag} {xs : List V} (x : Le T H H1) (h : SqL K H a xs) : SqL K H1 a xs := by
  rcases h with (h | ⟨o, h⟩) | h
  · exact .inl (.inl (x.at h))
  · exact .inl (.inr ⟨o, x.at h⟩)
  · exact .inr h
theorem Le.seqT {K : PySem.W.Frag} {xs : List V} (x : Le T H H1) (h : SqT K H a xs) : SqT K H1 a xs := by
  rcases h with (h | ⟨o, h⟩) | h
  · exact .inl (.inl (x.at h))
  · exact .inl (.inr ⟨o, x.at h⟩)
  · exact .inr h
theorem tabs_upd (t : Tabs T H) (hm : ∀ u, H p = some u → PlainO u) : Tabs T (upd H p o) := fun q hq => by
  obtain ⟨ps, h1, h2, h3⟩ := t q hq
  have n1 : q.1 ≠ p := fun z => by
    have := hm _ (by rw [← z]; exact h1)
    exact this
  refine ⟨ps, by rw [upd_ne n1]; exact h1, h2, fun pos cv hc => ?_⟩
  obtain ⟨c, e1, e2⟩ := h3 pos cv hc
  have n2 : c ≠ p := fun z => by
    have := hm _ (by rw [← z]; exact e2)
    exact this
  exact ⟨c, e1, by rw [upd_ne n2]; exact e2⟩
/-- an object that H does not hold is laid, or changed -/
theorem Le.upd (x : Le T H H1) (hp : H p = none) (hm : ∀ u, H1 p = some u → PlainO u) : Le T H (upd H1 p o) := by
  refine ⟨fun b u e n => ?_, tabs_upd x.tab hm, fun b z => x.no b (upd_none2 z)⟩
  have nb : b ≠ p := ne_of_none e hp
  rw [upd_ne nb]
  exact x.ext b u e n
theorem Le.new (x : Le T H H1) (hp : H1 p = none) : Le T H (L2.upd H1 p o) := x.upd (x.no p hp) fun u e => by rw [hp] at e; cases e
theorem Le.set (x : Le T H H1) (hp : H p = none) {u : HO} (h1 : H1 p = some u) (hu : PlainO u := by trivial) : Le T H (L2.upd H1 p o) := x.upd hp fun v e => by rw [h1] at e; cases e; exact hu
theorem Le.dp {K : PySem.W.Frag} (x : Le T H H1) : ∀ {v : V} {d : PyData}, Dp K H v d → Dp K H1 v d
  | _, _, .non => .non
  | _, _, .bl b => .bl b
  | _, _, .int i => .int i
  | _, _, .str s => .str s
  | _, _, .lst h ds => .lst (x.seqL h) (dps x ds)
  | _, _, .tup h ds => .tup (x.seqT h) (dps x ds)
where dps {K : PySem.W.Frag} (x : Le T H H1) : ∀ {vs : List V} {ds : List PyData}, DpAll K H vs ds → DpAll K H1 vs ds
  | _, _, .nil => .nil
  | _, _, .cons a b => .cons (x.dp a) (dps x b)
end
theorem DpAll.strs {K : PySem.W.Frag} {H : Hp} : ∀ xs : List Str, DpAll K H (xs.map V.str) (xs.map PyData.str)
  | [] => .nil
  | x :: r => .cons (.str x) (DpAll.strs r)
theorem DpAll.ints {K : PySem.W.Frag} {H : Hp} : ∀ xs : List Int, DpAll K H (xs.map V.int) (xs.map PyData.int)
  | [] => .nil
  | x :: r => .cons (.int x) (DpAll.ints r)

/-- a callee that may raise, called where it does not -/
theorem passE0 {X : Cx} {P : Program} {w : World} : Passes (L2.CX P w) X E0 := fun _ _ _ _ _ _ _ ⟨_, _, _, _, _, _, _, _, _, _, _, _, z⟩ => z.elim
abbrev XA (P : Program) (w : World) (K : PySem.W.Frag) (mg : Str → Option Value) (base : Heap) (N : List Str) (qual : Str) (scope : Scope) (f : Addr) (cd : Value) (A : Around) (outer : List Env) (s : Shared) (H : Hp) (E : XK) : Cx := cxOf (L2.CX P w) P w K mg base N qual scope f cd A outer s H E
theorem takesA {P : Program} {w : World} {K : PySem.W.Frag} {mg : Str → Option Value} {base : Heap} {N : List Str} {qual : Str} {scope : Scope} {f : Addr} {cd : Value} {A : Around} {outer : List Env} {s : Shared} {H : Hp} {E : XK} :
    Takes (XA P w K mg base N qual scope f cd A outer s H E) (fun cls d _ H => E cls d H) := takes_of rfl rfl rfl rfl
/-- what a def lets out its caller lets out -/
theorem passA {P : Program} {w : World} {K : PySem.W.Frag} {mg : Str → Option Value} {base : Heap} {N : List Str} {qual : Str} {scope : Scope} {f : Addr} {cd : Value} {A : Around} {outer : List Env} {s : Shared} {H : Hp} {E : XK} :
    Passes (L2.CX P w) (XA P w K mg base N qual scope f cd A outer s H E) E := passes_call takesA fun _ _ _ _ h => h
theorem ownsA {P : Program} {w : World} {K : PySem.W.Frag} {mg : Str → Option Value} {base : Heap} {N : List Str} {qual : Str} {scope : Scope} {f : Addr} {cd : Value} {A : Around} {outer : List Env} {s : Shared} {H : Hp} {E : XK} :
    PassesOwn (model P w) (XA P w K mg base N qual scope f cd A outer s H E).A (XA P w K mg base N qual scope f cd A outer s H E).env (XA P w K mg base N qual scope f cd A outer s H E).xe :=
  passes_of (X := XA P w K mg base N qual scope f cd A outer s H E) (K := fun e s'' => L2.CX P w outer H s E e s'') (E₁ := fun e' s'' => L2.CX P w outer H s E e' s'') rfl
/-- the text of these codes -/
def S (l : List Nat) : Str := ⟨l.toArray⟩
theorem S_cps (l : List Nat) : (S l).cps.toList = l := by simp [S]
theorem S_inj {a b : List Nat} (h : S a = S b) : a = b := by
  have := congrArg (fun z : Str => z.cps.toList) h
  simpa [S] using this
theorem S_eq (z : Str) : S z.cps.toList = z := by
  obtain ⟨c⟩ := z
  simp [S]
theorem S_len (l : List Nat) : (S l).length = l.length := by
  show (S l).cps.size = _
  simp [S]
end GX

-- text K6Base
set_option maxRecDepth 100000
set_option maxHeartbeats 4000000
namespace K6
open PySem PySem.Spec PyProof.Rows L2 LamX GX
theorem nodup_addr {l : List Addr} (hN : l.Nodup) {i j : Nat} {x : Addr} (a : l[i]? = some x) (b : l[j]? = some x) : i = j := by
  obtain ⟨h1, e1⟩ := List.getElem?_eq_some_iff.mp a
  obtain ⟨h2, e2⟩ := List.getElem?_eq_some_iff.mp b
  exact (List.getElem_inj hN).mp (e1.trans e2.symm)
def top (i : Nat) : Stmt := PySem.Challenge.pw_signalstack_k60_whole_days_of_a_relay.main.body.getD i (.Pass ⟨0, 0, 0, 0⟩)
abbrev s_Relay_init : Stmt := inClass (top 7) 0
abbrev n_Relay_init : List Str := (["self", "towers", "links", "hold", "once", "one", "other", "name"] : List Str)
abbrev p_Relay_init : List Str := (["self", "towers", "links", "hold"] : List Str)
theorem sc_Relay_init : FnScope n_Relay_init p_Relay_init (defScope s_Relay_init) := ⟨rfl, rfl, rfl, by decide +kernel, rfl, by decide +kernel, by decide +kernel⟩
/- slots of Relay_init: 0 self, 1 towers, 2 links, 3 hold, 4 once, 5 one, 6 other, 7 name -/
abbrev s_Relay_check_tower : Stmt := inClass (top 7) 1
abbrev n_Relay_check_tower : List Str := (["self", "name"] : List Str)
abbrev p_Relay_check_tower : List Str := (["self", "name"] : List Str)
theorem sc_Relay_check_tower : FnScope n_Relay_check_tower p_Relay_check_tower (defScope s_Relay_check_tower) := ⟨rfl, rfl, rfl, by decide +kernel, rfl, by decide +kernel, by decide +kernel⟩
/- slots of Relay_check_tower: 0 self, 1 name -/
abbrev s_Relay_near : Stmt := inClass (top 7) 2
abbrev n_Relay_near : List Str := (["self", "name", "found", "other"] : List Str)
abbrev p_Relay_near : List Str := (["self", "name"] : List Str)
theorem sc_Relay_near : FnScope n_Relay_near p_Relay_near (defScope s_Relay_near) := ⟨rfl, rfl, rfl, by decide +kernel, rfl, by decide +kernel, by decide +kernel⟩
/- slots of Relay_near: 0 self, 1 name, 2 found, 3 other -/
abbrev s_Relay_route : Stmt := inClass (top 7) 3
abbrev n_Relay_route : List Str := (["self", "start", "end", "edge", "seen", "fresh", "way", "other"] : List Str)
abbrev p_Relay_route : List Str := (["self", "start", "end"] : List Str)
theorem sc_Relay_route : FnScope n_Relay_route p_Relay_route (defScope s_Relay_route) := ⟨rfl, rfl, rfl, by decide +kernel, rfl, by decide +kernel, by decide +kernel⟩
/- slots of Relay_route: 0 self, 1 start, 2 end, 3 edge, 4 seen, 5 fresh, 6 way, 7 other -/
abbrev s_Relay_send : Stmt := inClass (top 7) 4
abbrev n_Relay_send : List Str := (["self", "name", "start", "end", "signs", "urgent"] : List Str)
abbrev p_Relay_send : List Str := (["self", "name", "start", "end", "signs", "urgent"] : List Str)
theorem sc_Relay_send : FnScope n_Relay_send p_Relay_send (defScope s_Relay_send) := ⟨rfl, rfl, rfl, by decide +kernel, rfl, by decide +kernel, by decide +kernel⟩
/- slots of Relay_send: 0 self, 1 name, 2 start, 3 end, 4 signs, 5 urgent -/
abbrev s_Relay_wait : Stmt := inClass (top 7) 5
abbrev n_Relay_wait : List Str := (["self", "name", "tower", "queue", "place"] : List Str)
abbrev p_Relay_wait : List Str := (["self", "name", "tower"] : List Str)
theorem sc_Relay_wait : FnScope n_Relay_wait p_Relay_wait (defScope s_Relay_wait) := ⟨rfl, rfl, rfl, by decide +kernel, rfl, by decide +kernel, by decide +kernel⟩
/- slots of Relay_wait: 0 self, 1 name, 2 tower, 3 queue, 4 place -/
abbrev s_Relay_fogged : Stmt := inClass (top 7) 6
abbrev n_Relay_fogged : List Str := (["self", "name", "minutes"] : List Str)
abbrev p_Relay_fogged : List Str := (["self", "name", "minutes"] : List Str)
theorem sc_Relay_fogged : FnScope n_Relay_fogged p_Relay_fogged (defScope s_Relay_fogged) := ⟨rfl, rfl, rfl, by decide +kernel, rfl, by decide +kernel, by decide +kernel⟩
/- slots of Relay_fogged: 0 self, 1 name, 2 minutes -/
abbrev s_Relay_go_minute : Stmt := inClass (top 7) 7
abbrev n_Relay_go_minute : List Str := (["self", "tower"] : List Str)
abbrev p_Relay_go_minute : List Str := (["self"] : List Str)
theorem sc_Relay_go_minute : FnScope n_Relay_go_minute p_Relay_go_minute (defScope s_Relay_go_minute) := ⟨rfl, rfl, rfl, by decide +kernel, rfl, by decide +kernel, by decide +kernel⟩
/- slots of Relay_go_minute: 0 self, 1 tower -/
abbrev s_Relay_go_on : Stmt := inClass (top 7) 8
abbrev n_Relay_go_on : List Str := (["self", "tower", "name", "other", "left"] : List Str)
abbrev p_Relay_go_on : List Str := (["self", "tower"] : List Str)
theorem sc_Relay_go_on : FnScope n_Relay_go_on p_Relay_go_on (defScope s_Relay_go_on) := ⟨rfl, rfl, rfl, by decide +kernel, rfl, by decide +kernel, by decide +kernel⟩
/- slots of Relay_go_on: 0 self, 1 tower, 2 name, 3 other, 4 left -/
abbrev s_Relay_free : Stmt := inClass (top 7) 9
abbrev n_Relay_free : List Str := (["self", "tower", "other"] : List Str)
abbrev p_Relay_free : List Str := (["self", "tower", "other"] : List Str)
theorem sc_Relay_free : FnScope n_Relay_free p_Relay_free (defScope s_Relay_free) := ⟨rfl, rfl, rfl, by decide +kernel, rfl, by decide +kernel, by decide +kernel⟩
/- slots of Relay_free: 0 self, 1 tower, 2 other -/
abbrev s_Relay_begin : Stmt := inClass (top 7) 10
abbrev n_Relay_begin : List Str := (["self", "tower", "name", "way", "one"] : List Str)
abbrev p_Relay_begin : List Str := (["self", "tower"] : List Str)
theorem sc_Relay_begin : FnScope n_Relay_begin p_Relay_begin (defScope s_Relay_begin) := ⟨rfl, rfl, rfl, by decide +kernel, rfl, by decide +kernel, by decide +kernel⟩
/- slots of Relay_begin: 0 self, 1 tower, 2 name, 3 way, 4 one -/
abbrev s_Relay_where : Stmt := inClass (top 7) 11
abbrev n_Relay_where : List Str := (["self", "name", "tower", "senders"] : List Str)
abbrev p_Relay_where : List Str := (["self", "name"] : List Str)
theorem sc_Relay_where : FnScope n_Relay_where p_Relay_where (defScope s_Relay_where) := ⟨rfl, rfl, rfl, by decide +kernel, rfl, by decide +kernel, by decide +kernel⟩
/- slots of Relay_where: 0 self, 1 name, 2 tower, 3 senders -/
abbrev s_Relay_took : Stmt := inClass (top 7) 12
abbrev n_Relay_took : List Str := (["self", "name", "given", "done", "minute", "what", "tower", "one"] : List Str)
abbrev p_Relay_took : List Str := (["self", "name"] : List Str)
theorem sc_Relay_took : FnScope n_Relay_took p_Relay_took (defScope s_Relay_took) := ⟨rfl, rfl, rfl, by decide +kernel, rfl, by decide +kernel, by decide +kernel⟩
/- slots of Relay_took: 0 self, 1 name, 2 given, 3 done, 4 minute, 5 what, 6 tower, 7 one -/
abbrev s_Relay_least : Stmt := inClass (top 7) 13
abbrev n_Relay_least : List Str := (["self", "name", "start", "end", "signs", "way"] : List Str)
abbrev p_Relay_least : List Str := (["self", "name"] : List Str)
theorem sc_Relay_least : FnScope n_Relay_least p_Relay_least (defScope s_Relay_least) := ⟨rfl, rfl, rfl, by decide +kernel, rfl, by decide +kernel, by decide +kernel⟩
/- slots of Relay_least: 0 self, 1 name, 2 start, 3 end, 4 signs, 5 way -/
abbrev s_l_dice : Stmt := top 9
abbrev n_l_dice : List Str := (["cell"] : List Str)
abbrev p_l_dice : List Str := (["cell"] : List Str)
theorem sc_l_dice : FnScope n_l_dice p_l_dice (defScope s_l_dice) := ⟨rfl, rfl, rfl, by decide +kernel, rfl, by decide +kernel, by decide +kernel⟩
/- slots of l_dice: 0 cell -/
abbrev s_l_roll : Stmt := top 10
abbrev n_l_roll : List Str := (["dice", "many", "found"] : List Str)
abbrev p_l_roll : List Str := (["dice", "many"] : List Str)
theorem sc_l_roll : FnScope n_l_roll p_l_roll (defScope s_l_roll) := ⟨rfl, rfl, rfl, by decide +kernel, rfl, by decide +kernel, by decide +kernel⟩
/- slots of l_roll: 0 dice, 1 many, 2 found -/
abbrev s_l_rounds : Stmt := top 11
abbrev n_l_rounds : List Str := (["script", "most", "cells", "cell"] : List Str)
abbrev p_l_rounds : List Str := (["script", "most"] : List Str)
theorem sc_l_rounds : FnScope n_l_rounds p_l_rounds (defScope s_l_rounds) := ⟨rfl, rfl, rfl, by decide +kernel, rfl, by decide +kernel, by decide +kernel⟩
/- slots of l_rounds: 0 script, 1 most, 2 cells, 3 cell -/
abbrev s_l_told : Stmt := top 12
abbrev n_l_told : List Str := (["what"] : List Str)
abbrev p_l_told : List Str := (["what"] : List Str)
theorem sc_l_told : FnScope n_l_told p_l_told (defScope s_l_told) := ⟨rfl, rfl, rfl, by decide +kernel, rfl, by decide +kernel, by decide +kernel⟩
/- slots of l_told: 0 what -/
abbrev s_l_near : Stmt := top 13
abbrev n_l_near : List Str := (["own", "name", "other"] : List Str)
abbrev p_l_near : List Str := (["own", "name"] : List Str)
theorem sc_l_near : FnScope n_l_near p_l_near (defScope s_l_near) := ⟨rfl, rfl, rfl, by decide +kernel, rfl, by decide +kernel, by decide +kernel⟩
/- slots of l_near: 0 own, 1 name, 2 other -/
abbrev s_l_route : Stmt := top 14
abbrev n_l_route : List Str := (["own", "start", "end", "ways", "seen", "done", "fresh", "way", "other"] : List Str)
abbrev p_l_route : List Str := (["own", "start", "end"] : List Str)
theorem sc_l_route : FnScope n_l_route p_l_route (defScope s_l_route) := ⟨rfl, rfl, rfl, by decide +kernel, rfl, by decide +kernel, by decide +kernel⟩
/- slots of l_route: 0 own, 1 start, 2 end, 3 ways, 4 seen, 5 done, 6 fresh, 7 way, 8 other -/
abbrev s_l_wait : Stmt := top 15
abbrev n_l_wait : List Str := (["own", "name", "tower", "queue", "place", "places", "k", "other"] : List Str)
abbrev p_l_wait : List Str := (["own", "name", "tower"] : List Str)
theorem sc_l_wait : FnScope n_l_wait p_l_wait (defScope s_l_wait) := ⟨rfl, rfl, rfl, by decide +kernel, rfl, by decide +kernel, by decide +kernel⟩
/- slots of l_wait: 0 own, 1 name, 2 tower, 3 queue, 4 place, 5 places, 6 k, 7 other -/
abbrev s_l_minute : Stmt := top 16
abbrev n_l_minute : List Str := (["own", "tower", "name", "other", "left", "busy", "way", "one", "row"] : List Str)
abbrev p_l_minute : List Str := (["own"] : List Str)
theorem sc_l_minute : FnScope n_l_minute p_l_minute (defScope s_l_minute) := ⟨rfl, rfl, rfl, by decide +kernel, rfl, by decide +kernel, by decide +kernel⟩
/- slots of l_minute: 0 own, 1 tower, 2 name, 3 other, 4 left, 5 busy, 6 way, 7 one, 8 row -/
abbrev s_l_where : Stmt := top 17
abbrev n_l_where : List Str := (["own", "name", "tower"] : List Str)
abbrev p_l_where : List Str := (["own", "name"] : List Str)
theorem sc_l_where : FnScope n_l_where p_l_where (defScope s_l_where) := ⟨rfl, rfl, rfl, by decide +kernel, rfl, by decide +kernel, by decide +kernel⟩
/- slots of l_where: 0 own, 1 name, 2 tower -/
abbrev s_l_deed : Stmt := top 18
abbrev n_l_deed : List Str := (["dice", "own", "relay", "sort", "towers", "one", "other", "name", "signs", "urgent", "good", "minutes"] : List Str) ++ (["minute", "tower"] : List Str)
abbrev p_l_deed : List Str := (["dice", "own", "relay"] : List Str)
theorem sc_l_deed : FnScope n_l_deed p_l_deed (defScope s_l_deed) := ⟨rfl, rfl, rfl, by decide +kernel, rfl, by decide +kernel, by decide +kernel⟩
/- slots of l_deed: 0 dice, 1 own, 2 relay, 3 sort, 4 towers, 5 one, 6 other, 7 name, 8 signs, 9 urgent, 10 good, 11 minutes, 12 minute, 13 tower -/
abbrev s_l_plain : Stmt := top 19
abbrev n_l_plain : List Str := (["relay", "bad", "minute", "f", "row"] : List Str)
abbrev p_l_plain : List Str := ([] : List Str)
theorem sc_l_plain : FnScope n_l_plain p_l_plain (defScope s_l_plain) := ⟨rfl, rfl, rfl, by decide +kernel, rfl, by decide +kernel, by decide +kernel⟩
/- slots of l_plain: 0 relay, 1 bad, 2 minute, 3 f, 4 row -/
abbrev s_law : Stmt := top 20
abbrev n_law : List Str := (["script", "dice", "towers", "links", "step", "one", "other", "hold", "relay", "own", "busy", "both"] : List Str) ++ (["way", "name", "start", "end", "signs", "urgent", "state", "times", "took", "tower", "row"] : List Str)
abbrev p_law : List Str := (["script"] : List Str)
theorem sc_law : FnScope n_law p_law (defScope s_law) := ⟨rfl, rfl, rfl, by decide +kernel, rfl, by decide +kernel, by decide +kernel⟩
/- slots of law: 0 script, 1 dice, 2 towers, 3 links, 4 step, 5 one, 6 other, 7 hold, 8 relay, 9 own, 10 busy, 11 both, 12 way, 13 name, 14 start, 15 end, 16 signs, 17 urgent, 18 state, 19 times, 20 took, 21 tower, 22 row -/
open He in
def fn : List DefD := [
  ⟨("Relay", some "__init__"), "__init__", "Relay.__init__", defArgs s_Relay_init, defBody s_Relay_init, defScope s_Relay_init, [], []⟩,
  ⟨("Relay", some "check_tower"), "check_tower", "Relay.check_tower", defArgs s_Relay_check_tower, defBody s_Relay_check_tower, defScope s_Relay_check_tower, [], []⟩,
  ⟨("Relay", some "near"), "near", "Relay.near", defArgs s_Relay_near, defBody s_Relay_near, defScope s_Relay_near, [], []⟩,
  ⟨("Relay", some "route"), "route", "Relay.route", defArgs s_Relay_route, defBody s_Relay_route, defScope s_Relay_route, [], []⟩,
  ⟨("Relay", some "send"), "send", "Relay.send", defArgs s_Relay_send, defBody s_Relay_send, defScope s_Relay_send, [.bl false], []⟩,
  ⟨("Relay", some "wait"), "wait", "Relay.wait", defArgs s_Relay_wait, defBody s_Relay_wait, defScope s_Relay_wait, [], []⟩,
  ⟨("Relay", some "fogged"), "fogged", "Relay.fogged", defArgs s_Relay_fogged, defBody s_Relay_fogged, defScope s_Relay_fogged, [], []⟩,
  ⟨("Relay", some "go_minute"), "go_minute", "Relay.go_minute", defArgs s_Relay_go_minute, defBody s_Relay_go_minute, defScope s_Relay_go_minute, [], []⟩,
  ⟨("Relay", some "go_on"), "go_on", "Relay.go_on", defArgs s_Relay_go_on, defBody s_Relay_go_on, defScope s_Relay_go_on, [], []⟩,
  ⟨("Relay", some "free"), "free", "Relay.free", defArgs s_Relay_free, defBody s_Relay_free, defScope s_Relay_free, [], []⟩,
  ⟨("Relay", some "begin"), "begin", "Relay.begin", defArgs s_Relay_begin, defBody s_Relay_begin, defScope s_Relay_begin, [], []⟩,
  ⟨("Relay", some "where"), "where", "Relay.where", defArgs s_Relay_where, defBody s_Relay_where, defScope s_Relay_where, [], []⟩,
  ⟨("Relay", some "took"), "took", "Relay.took", defArgs s_Relay_took, defBody s_Relay_took, defScope s_Relay_took, [], []⟩,
  ⟨("Relay", some "least"), "least", "Relay.least", defArgs s_Relay_least, defBody s_Relay_least, defScope s_Relay_least, [], []⟩,
  ⟨("_law_dice", none), "_law_dice", "_law_dice", defArgs s_l_dice, defBody s_l_dice, defScope s_l_dice, [], []⟩,
  ⟨("_law_roll", none), "_law_roll", "_law_roll", defArgs s_l_roll, defBody s_l_roll, defScope s_l_roll, [], []⟩,
  ⟨("_law_rounds", none), "_law_rounds", "_law_rounds", defArgs s_l_rounds, defBody s_l_rounds, defScope s_l_rounds, [], []⟩,
  ⟨("_law_told", none), "_law_told", "_law_told", defArgs s_l_told, defBody s_l_told, defScope s_l_told, [], []⟩,
  ⟨("_law_near", none), "_law_near", "_law_near", defArgs s_l_near, defBody s_l_near, defScope s_l_near, [], []⟩,
  ⟨("_law_route", none), "_law_route", "_law_route", defArgs s_l_route, defBody s_l_route, defScope s_l_route, [], []⟩,
  ⟨("_law_wait", none), "_law_wait", "_law_wait", defArgs s_l_wait, defBody s_l_wait, defScope s_l_wait, [], []⟩,
  ⟨("_law_minute", none), "_law_minute", "_law_minute", defArgs s_l_minute, defBody s_l_minute, defScope s_l_minute, [], []⟩,
  ⟨("_law_where", none), "_law_where", "_law_where", defArgs s_l_where, defBody s_l_where, defScope s_l_where, [], []⟩,
  ⟨("_law_deed", none), "_law_deed", "_law_deed", defArgs s_l_deed, defBody s_l_deed, defScope s_l_deed, [], []⟩,
  ⟨("_law_plain", none), "_law_plain", "_law_plain", defArgs s_l_plain, defBody s_l_plain, defScope s_l_plain, [], []⟩,
  ⟨("law", none), "law", "law", defArgs s_law, defBody s_law, defScope s_law, [], []⟩]
open He in
def fa : List Fa := [
  .glo "_law_dice",
  .glo "_law_roll",
  .glo "_law_rounds",
  .glo "_law_told",
  .glo "_law_near",
  .glo "_law_route",
  .glo "_law_wait",
  .glo "_law_minute",
  .glo "_law_where",
  .glo "_law_deed",
  .glo "_law_plain",
  .glo "law",
  .glo "Relay",
  .cls "Relay",
  .mkr "Relay",
  .meth "Relay" "check_tower",
  .meth "Relay" "near",
  .meth "Relay" "route",
  .meth "Relay" "send",
  .meth "Relay" "wait",
  .meth "Relay" "fogged",
  .meth "Relay" "go_minute",
  .meth "Relay" "go_on",
  .meth "Relay" "free",
  .meth "Relay" "begin",
  .meth "Relay" "where",
  .meth "Relay" "took",
  .meth "Relay" "least",
  .noat "Relay" "busy",
  .noat "Relay" "fog",
  .noat "Relay" "hold",
  .noat "Relay" "links",
  .noat "Relay" "messages",
  .noat "Relay" "minute",
  .noat "Relay" "queues",
  .noat "Relay" "rows",
  .noat "Relay" "towers",
  .glo "SignalError",
  .exc "SignalError",
  .exm "SignalError" "SignalError" true,
  .exm "SignalError" "RouteError" false,
  .exm "SignalError" "RelayError" false,
  .glo "RouteError",
  .exc "RouteError",
  .exm "RouteError" "SignalError" true,
  .exm "RouteError" "RouteError" true,
  .exm "RouteError" "RelayError" false,
  .glo "RelayError",
  .exc "RelayError",
  .exm "RelayError" "SignalError" true,
  .exm "RelayError" "RouteError" false,
  .exm "RelayError" "RelayError" true,
  .int "MOST_MESSAGES" 60,
  .int "MOST_HOLD" 20,
  .free "abs",
  .free "any",
  .free "dict",
  .free "enumerate",
  .free "int",
  .free "len",
  .free "list",
  .free "max",
  .free "range",
  .free "sorted",
  .free "str",
  .free "tuple"]
/-- the defs that make code objects: where they stand, the name of what they make -/
def tq : List (He.Defn × Str) := [(("Relay", some "__init__"), ("Relay.__init__" : Str) ++ ".<locals>." ++ "<genexpr>"),
  (("_law_deed", none), ("_law_deed" : Str) ++ ".<locals>." ++ "<lambda>"),
  (("_law_plain", none), ("_law_plain" : Str) ++ ".<locals>." ++ "<lambda>")]
def tf : List He.Defn := tq.map (·.1)
def T (K : PySem.W.Frag) : List (Addr × Str) := tq.map fun p => ((He.cT K p.1).2, p.2)
def ex (K : PySem.W.Frag) : Bool := decide ((tf.map fun p => (He.cT K p).2).Nodup)
theorem T_mem {K : PySem.W.Frag} (i : Nat) {p : He.Defn} {q : Str} (h : tq[i]? = some (p, q) := by rfl) : ((He.cT K p).2, q) ∈ T K := List.mem_map.mpr ⟨(p, q), List.mem_of_getElem? h, rfl⟩
theorem tf_mem (i : Nat) {p : He.Defn} {q : Str} (h : tq[i]? = some (p, q) := by rfl) : p ∈ tf := List.mem_map.mpr ⟨(p, q), List.mem_of_getElem? h, rfl⟩
theorem T_uniq {K : PySem.W.Frag} (hx : ex K = true) (i : Nat) {p : He.Defn} {q : Str} (h : tq[i]? = some (p, q) := by rfl) : ∀ r ∈ T K, r.1 = (He.cT K p).2 → r.2 = q := by
  have nd : (tf.map fun p => (He.cT K p).2).Nodup := of_decide_eq_true hx
  have e : (tf.map fun p => (He.cT K p).2) = (T K).map (·.1) := by
    unfold tf T
    rw [List.map_map, List.map_map]
    rfl
  rw [e] at nd
  intro r hr er
  obtain ⟨j, hj, ej⟩ := List.mem_iff_getElem.mp hr
  have hi : (T K)[i]? = some ((He.cT K p).2, q) := by
    show (tq.map fun p => ((He.cT K p.1).2, p.2))[i]? = _
    rw [List.getElem?_map, h]
    rfl
  have hj2 : (T K)[j]? = some r := by rw [List.getElem?_eq_getElem hj, ej]
  have m1 : ((T K).map (·.1))[i]? = some (He.cT K p).2 := by rw [List.getElem?_map, hi] <;> rfl
  have m2 : ((T K).map (·.1))[j]? = some (He.cT K p).2 := by
    rw [List.getElem?_map, hj2] <;> exact congrArg some er
  have hij : i = j := nodup_addr nd m1 m2
  rw [← hij, hi] at hj2
  exact (congrArg Prod.snd (Option.some.inj hj2)).symm
/-- what is known of the top -/
structure Txt (K : PySem.W.Frag) (mg : Str → Option Value) : Prop where
  m_l_dice : mg "_law_dice" = some (.ref (He.ga K "_law_dice"))
  m_l_roll : mg "_law_roll" = some (.ref (He.ga K "_law_roll"))
  m_l_rounds : mg "_law_rounds" = some (.ref (He.ga K "_law_rounds"))
  m_l_told : mg "_law_told" = some (.ref (He.ga K "_law_told"))
  m_l_near : mg "_law_near" = some (.ref (He.ga K "_law_near"))
  m_l_route : mg "_law_route" = some (.ref (He.ga K "_law_route"))
  m_l_wait : mg "_law_wait" = some (.ref (He.ga K "_law_wait"))
  m_l_minute : mg "_law_minute" = some (.ref (He.ga K "_law_minute"))
  m_l_where : mg "_law_where" = some (.ref (He.ga K "_law_where"))
  m_l_deed : mg "_law_deed" = some (.ref (He.ga K "_law_deed"))
  m_l_plain : mg "_law_plain" = some (.ref (He.ga K "_law_plain"))
  m_law : mg "law" = some (.ref (He.ga K "law"))
  m_Relay : mg "Relay" = some (.ref (He.ga K "Relay"))
  c_Relay : Cls K (He.ga K "Relay")
  k_Relay : Mk K (He.ga K "Relay") (He.ma K (He.ga K "Relay") "__init__")
  t_Relay_check_tower : Meth K (He.ga K "Relay") "check_tower" (He.ma K (He.ga K "Relay") "check_tower")
  t_Relay_near : Meth K (He.ga K "Relay") "near" (He.ma K (He.ga K "Relay") "near")
  t_Relay_route : Meth K (He.ga K "Relay") "route" (He.ma K (He.ga K "Relay") "route")
  t_Relay_send : Meth K (He.ga K "Relay") "send" (He.ma K (He.ga K "Relay") "send")
  t_Relay_wait : Meth K (He.ga K "Relay") "wait" (He.ma K (He.ga K "Relay") "wait")
  t_Relay_fogged : Meth K (He.ga K "Relay") "fogged" (He.ma K (He.ga K "Relay") "fogged")
  t_Relay_go_minute : Meth K (He.ga K "Relay") "go_minute" (He.ma K (He.ga K "Relay") "go_minute")
  t_Relay_go_on : Meth K (He.ga K "Relay") "go_on" (He.ma K (He.ga K "Relay") "go_on")
  t_Relay_free : Meth K (He.ga K "Relay") "free" (He.ma K (He.ga K "Relay") "free")
  t_Relay_begin : Meth K (He.ga K "Relay") "begin" (He.ma K (He.ga K "Relay") "begin")
  t_Relay_where : Meth K (He.ga K "Relay") "where" (He.ma K (He.ga K "Relay") "where")
  t_Relay_took : Meth K (He.ga K "Relay") "took" (He.ma K (He.ga K "Relay") "took")
  t_Relay_least : Meth K (He.ga K "Relay") "least" (He.ma K (He.ga K "Relay") "least")
  a_Relay_busy : NoAttr K (He.ga K "Relay") "busy"
  a_Relay_fog : NoAttr K (He.ga K "Relay") "fog"
  a_Relay_hold : NoAttr K (He.ga K "Relay") "hold"
  a_Relay_links : NoAttr K (He.ga K "Relay") "links"
  a_Relay_messages : NoAttr K (He.ga K "Relay") "messages"
  a_Relay_minute : NoAttr K (He.ga K "Relay") "minute"
  a_Relay_queues : NoAttr K (He.ga K "Relay") "queues"
  a_Relay_rows : NoAttr K (He.ga K "Relay") "rows"
  a_Relay_towers : NoAttr K (He.ga K "Relay") "towers"
  m_SignalError : mg "SignalError" = some (.ref (He.ga K "SignalError"))
  e_SignalError : PySem.W.excIn K (He.ga K "SignalError") He.veBase "ValueError.__new__" = true ∧ PySem.W.keepIn K (.ref (He.ga K "SignalError")) = true ∧ PySem.W.subIn K (.ref (He.ga K "SignalError")) (.type "BaseException") = some true ∧ PySem.W.typeIn K (.ref (He.ga K "SignalError")) = some (.type "type")
  x_SignalError_SignalError : PySem.W.exmOne K (.ref (He.ga K "SignalError")) (.ref (He.ga K "SignalError")) = some true
  x_SignalError_RouteError : PySem.W.exmOne K (.ref (He.ga K "SignalError")) (.ref (He.ga K "RouteError")) = some false
  x_SignalError_RelayError : PySem.W.exmOne K (.ref (He.ga K "SignalError")) (.ref (He.ga K "RelayError")) = some false
  m_RouteError : mg "RouteError" = some (.ref (He.ga K "RouteError"))
  e_RouteError : PySem.W.excIn K (He.ga K "RouteError") He.veBase "ValueError.__new__" = true ∧ PySem.W.keepIn K (.ref (He.ga K "RouteError")) = true ∧ PySem.W.subIn K (.ref (He.ga K "RouteError")) (.type "BaseException") = some true ∧ PySem.W.typeIn K (.ref (He.ga K "RouteError")) = some (.type "type")
  x_RouteError_SignalError : PySem.W.exmOne K (.ref (He.ga K "RouteError")) (.ref (He.ga K "SignalError")) = some true
  x_RouteError_RouteError : PySem.W.exmOne K (.ref (He.ga K "RouteError")) (.ref (He.ga K "RouteError")) = some true
  x_RouteError_RelayError : PySem.W.exmOne K (.ref (He.ga K "RouteError")) (.ref (He.ga K "RelayError")) = some false
  m_RelayError : mg "RelayError" = some (.ref (He.ga K "RelayError"))
  e_RelayError : PySem.W.excIn K (He.ga K "RelayError") He.veBase "ValueError.__new__" = true ∧ PySem.W.keepIn K (.ref (He.ga K "RelayError")) = true ∧ PySem.W.subIn K (.ref (He.ga K "RelayError")) (.type "BaseException") = some true ∧ PySem.W.typeIn K (.ref (He.ga K "RelayError")) = some (.type "type")
  x_RelayError_SignalError : PySem.W.exmOne K (.ref (He.ga K "RelayError")) (.ref (He.ga K "SignalError")) = some true
  x_RelayError_RouteError : PySem.W.exmOne K (.ref (He.ga K "RelayError")) (.ref (He.ga K "RouteError")) = some false
  x_RelayError_RelayError : PySem.W.exmOne K (.ref (He.ga K "RelayError")) (.ref (He.ga K "RelayError")) = some true
  i_MOST_MESSAGES : ∃ t, mg "MOST_MESSAGES" = some (.int 60 t)
  i_MOST_HOLD : ∃ t, mg "MOST_HOLD" = some (.int 20 t)
  b_abs : mg "abs" = none
  b_any : mg "any" = none
  b_dict : mg "dict" = none
  b_enumerate : mg "enumerate" = none
  b_int : mg "int" = none
  b_len : mg "len" = none
  b_list : mg "list" = none
  b_max : mg "max" = none
  b_range : mg "range" = none
  b_sorted : mg "sorted" = none
  b_str : mg "str" = none
  b_tuple : mg "tuple" = none
theorem txt_of {K : PySem.W.Frag} {h : Heap} {mg : Str → Option Value} (X : K.In h) (G : h.Ns mainGlobals mg) (c : He.SaysD fa fn K) : Txt K mg where
  m_l_dice := He.glo_ok X G (c.fact 0 rfl)
  m_l_roll := He.glo_ok X G (c.fact 1 rfl)
  m_l_rounds := He.glo_ok X G (c.fact 2 rfl)
  m_l_told := He.glo_ok X G (c.fact 3 rfl)
  m_l_near := He.glo_ok X G (c.fact 4 rfl)
  m_l_route := He.glo_ok X G (c.fact 5 rfl)
  m_l_wait := He.glo_ok X G (c.fact 6 rfl)
  m_l_minute := He.glo_ok X G (c.fact 7 rfl)
  m_l_where := He.glo_ok X G (c.fact 8 rfl)
  m_l_deed := He.glo_ok X G (c.fact 9 rfl)
  m_l_plain := He.glo_ok X G (c.fact 10 rfl)
  m_law := He.glo_ok X G (c.fact 11 rfl)
  m_Relay := He.glo_ok X G (c.fact 12 rfl)
  c_Relay := He.cls_ok (c.fact 13 rfl)
  k_Relay := He.mkr_ok (c.fact 14 rfl)
  t_Relay_check_tower := He.meth_ok (c.fact 15 rfl)
  t_Relay_near := He.meth_ok (c.fact 16 rfl)
  t_Relay_route := He.meth_ok (c.fact 17 rfl)
  t_Relay_send := He.meth_ok (c.fact 18 rfl)
  t_Relay_wait := He.meth_ok (c.fact 19 rfl)
  t_Relay_fogged := He.meth_ok (c.fact 20 rfl)
  t_Relay_go_minute := He.meth_ok (c.fact 21 rfl)
  t_Relay_go_on := He.meth_ok (c.fact 22 rfl)
  t_Relay_free := He.meth_ok (c.fact 23 rfl)
  t_Relay_begin := He.meth_ok (c.fact 24 rfl)
  t_Relay_where := He.meth_ok (c.fact 25 rfl)
  t_Relay_took := He.meth_ok (c.fact 26 rfl)
  t_Relay_least := He.meth_ok (c.fact 27 rfl)
  a_Relay_busy := He.noat_ok (c.fact 28 rfl)
  a_Relay_fog := He.noat_ok (c.fact 29 rfl)
  a_Relay_hold := He.noat_ok (c.fact 30 rfl)
  a_Relay_links := He.noat_ok (c.fact 31 rfl)
  a_Relay_messages := He.noat_ok (c.fact 32 rfl)
  a_Relay_minute := He.noat_ok (c.fact 33 rfl)
  a_Relay_queues := He.noat_ok (c.fact 34 rfl)
  a_Relay_rows := He.noat_ok (c.fact 35 rfl)
  a_Relay_towers := He.noat_ok (c.fact 36 rfl)
  m_SignalError := He.glo_ok X G (c.fact 37 rfl)
  e_SignalError := He.exc_ok (c.fact 38 rfl)
  x_SignalError_SignalError := He.exm_ok (c.fact 39 rfl)
  x_SignalError_RouteError := He.exm_ok (c.fact 40 rfl)
  x_SignalError_RelayError := He.exm_ok (c.fact 41 rfl)
  m_RouteError := He.glo_ok X G (c.fact 42 rfl)
  e_RouteError := He.exc_ok (c.fact 43 rfl)
  x_RouteError_SignalError := He.exm_ok (c.fact 44 rfl)
  x_RouteError_RouteError := He.exm_ok (c.fact 45 rfl)
  x_RouteError_RelayError := He.exm_ok (c.fact 46 rfl)
  m_RelayError := He.glo_ok X G (c.fact 47 rfl)
  e_RelayError := He.exc_ok (c.fact 48 rfl)
  x_RelayError_SignalError := He.exm_ok (c.fact 49 rfl)
  x_RelayError_RouteError := He.exm_ok (c.fact 50 rfl)
  x_RelayError_RelayError := He.exm_ok (c.fact 51 rfl)
  i_MOST_MESSAGES := He.int_ok X G (c.fact 52 rfl)
  i_MOST_HOLD := He.int_ok X G (c.fact 53 rfl)
  b_abs := He.free_ok X G (c.fact 54 rfl)
  b_any := He.free_ok X G (c.fact 55 rfl)
  b_dict := He.free_ok X G (c.fact 56 rfl)
  b_enumerate := He.free_ok X G (c.fact 57 rfl)
  b_int := He.free_ok X G (c.fact 58 rfl)
  b_len := He.free_ok X G (c.fact 59 rfl)
  b_list := He.free_ok X G (c.fact 60 rfl)
  b_max := He.free_ok X G (c.fact 61 rfl)
  b_range := He.free_ok X G (c.fact 62 rfl)
  b_sorted := He.free_ok X G (c.fact 63 rfl)
  b_str := He.free_ok X G (c.fact 64 rfl)
  b_tuple := He.free_ok X G (c.fact 65 rfl)
/-- a def as the top has left it; its code object is at c -/
structure DefC (K : PySem.W.Frag) (p : He.Defn) (x qual : Str) (st : Stmt) (dvs : List V) (fd : FuncData) : Prop where
  ex : ∃ (oc : Value) (od : Option Addr) (dV kV doc pm : Value) (an : Option Addr) (ct : Value) (osl : Array (Option Value)),
    fd = PySem.W.fnOf x qual (defArgs st) (defBody st) (defScope st) dV kV doc pm an (.ref (He.cT K p).1) ct ∧ K.lookup (He.fAd K p) = some ⟨oc, od, .func fd, osl⟩ ∧ PySem.W.codeIn K (.ref (He.cT K p).1) qual = true ∧ DflV K dV dvs ∧ KwdV K kV []
  kp : PySem.W.keepIn K (.ref (He.fAd K p)) = true
theorem defC_of {K : PySem.W.Frag} {p : He.Defn} {x qual : Str} {st : Stmt} {dvs : List V} {fd : FuncData} (F : FunD K x qual (defArgs st) (defBody st) (defScope st) dvs [] (He.fAd K p) fd) : DefC K p x qual st dvs fd := by
  obtain ⟨oc, od, dV, kV, doc, pm, an, cdv, ct, osl, e, lk, hcd, hd, hk⟩ := F.ex
  obtain ⟨c, e2⟩ := He.codeIn_ref hcd
  subst e2
  have e3 : (He.cT K p).1 = c := He.codeOf_eq lk (by rw [e] <;> rfl)
  refine ⟨⟨oc, od, dV, kV, doc, pm, an, ct, osl, by rw [e3]; exact e, lk, by rw [e3]; exact hcd, hd, hk⟩, F.kp⟩
theorem DefC.funD {K : PySem.W.Frag} {p : He.Defn} {x qual : Str} {st : Stmt} {dvs : List V} {fd : FuncData} (F : DefC K p x qual st dvs fd) : FunD K x qual (defArgs st) (defBody st) (defScope st) dvs [] (He.fAd K p) fd := by
  obtain ⟨oc, od, dV, kV, doc, pm, an, ct, osl, e, lk, hcd, hd, hk⟩ := F.ex
  exact ⟨⟨oc, od, dV, kV, doc, pm, an, _, ct, osl, e, lk, hcd, hd, hk⟩, F.kp⟩
theorem DefC.ok {P : Program} {w : World} {K : PySem.W.Frag} {mg : Str → Option Value} {base : Heap} {p : He.Defn} {x qual : Str} {st : Stmt} {dvs : List V} {fd : FuncData} {CX : CXT} {N ps : List Str} {k : Nat} {sp : Sp} (F : DefC K p x qual st dvs fd) (S : FnScope N ps (defScope st)) (len : ∀ vs H Q E, sp vs H Q E → vs.length = ps.length)
    (hbody : ∀ (A : Around) (outer : List Env) (s : Shared) (H : Hp) (vs : List V) (Q : VK) (E : XK), Room k (A.deeper (envOfC qual (defScope st) s.heap.objs.size (He.fAd K p) (.ref (He.cT K p).1))) → sp vs H Q E →
      ∃ t, PSs (cxOf CX P w K mg base N qual (defScope st) (He.fAd K p) (.ref (He.cT K p).1) A outer s H E) (defBody st) t ∧ t { nx := fun _ H' => Q .non H', rt := Q } (start N vs) H) : FnOk P w K mg base CX (k + 1) (He.fAd K p) fd ps sp := by
  obtain ⟨oc, od, dV, kV, doc, pm, an, ct, osl, rfl, lk, hcd, _, _⟩ := F.ex
  exact fn_of lk hcd S len fun A outer s H vs Q E hr hsp => hbody A outer s H vs Q E hr hsp
/-- each def of the text -/
structure Defs (K : PySem.W.Frag) : Prop where
  d_Relay_init : ∃ fd, DefC K ("Relay", some "__init__") "__init__" "Relay.__init__" s_Relay_init [] fd
  d_Relay_check_tower : ∃ fd, DefC K ("Relay", some "check_tower") "check_tower" "Relay.check_tower" s_Relay_check_tower [] fd
  d_Relay_near : ∃ fd, DefC K ("Relay", some "near") "near" "Relay.near" s_Relay_near [] fd
  d_Relay_route : ∃ fd, DefC K ("Relay", some "route") "route" "Relay.route" s_Relay_route [] fd
  d_Relay_send : ∃ fd, DefC K ("Relay", some "send") "send" "Relay.send" s_Relay_send [V.bl false] fd
  d_Relay_wait : ∃ fd, DefC K ("Relay", some "wait") "wait" "Relay.wait" s_Relay_wait [] fd
  d_Relay_fogged : ∃ fd, DefC K ("Relay", some "fogged") "fogged" "Relay.fogged" s_Relay_fogged [] fd
  d_Relay_go_minute : ∃ fd, DefC K ("Relay", some "go_minute") "go_minute" "Relay.go_minute" s_Relay_go_minute [] fd
  d_Relay_go_on : ∃ fd, DefC K ("Relay", some "go_on") "go_on" "Relay.go_on" s_Relay_go_on [] fd
  d_Relay_free : ∃ fd, DefC K ("Relay", some "free") "free" "Relay.free" s_Relay_free [] fd
  d_Relay_begin : ∃ fd, DefC K ("Relay", some "begin") "begin" "Relay.begin" s_Relay_begin [] fd
  d_Relay_where : ∃ fd, DefC K ("Relay", some "where") "where" "Relay.where" s_Relay_where [] fd
  d_Relay_took : ∃ fd, DefC K ("Relay", some "took") "took" "Relay.took" s_Relay_took [] fd
  d_Relay_least : ∃ fd, DefC K ("Relay", some "least") "least" "Relay.least" s_Relay_least [] fd
  d_l_dice : ∃ fd, DefC K ("_law_dice", none) "_law_dice" "_law_dice" s_l_dice [] fd
  d_l_roll : ∃ fd, DefC K ("_law_roll", none) "_law_roll" "_law_roll" s_l_roll [] fd
  d_l_rounds : ∃ fd, DefC K ("_law_rounds", none) "_law_rounds" "_law_rounds" s_l_rounds [] fd
  d_l_told : ∃ fd, DefC K ("_law_told", none) "_law_told" "_law_told" s_l_told [] fd
  d_l_near : ∃ fd, DefC K ("_law_near", none) "_law_near" "_law_near" s_l_near [] fd
  d_l_route : ∃ fd, DefC K ("_law_route", none) "_law_route" "_law_route" s_l_route [] fd
  d_l_wait : ∃ fd, DefC K ("_law_wait", none) "_law_wait" "_law_wait" s_l_wait [] fd
  d_l_minute : ∃ fd, DefC K ("_law_minute", none) "_law_minute" "_law_minute" s_l_minute [] fd
  d_l_where : ∃ fd, DefC K ("_law_where", none) "_law_where" "_law_where" s_l_where [] fd
  d_l_deed : ∃ fd, DefC K ("_law_deed", none) "_law_deed" "_law_deed" s_l_deed [] fd
  d_l_plain : ∃ fd, DefC K ("_law_plain", none) "_law_plain" "_law_plain" s_l_plain [] fd
  d_law : ∃ fd, DefC K ("law", none) "law" "law" s_law [] fd
theorem defs_of {K : PySem.W.Frag} (c : He.SaysD fa fn K) : Defs K where
  d_Relay_init := let ⟨fd, F⟩ := c.def_ 0 rfl; ⟨fd, defC_of F⟩
  d_Relay_check_tower := let ⟨fd, F⟩ := c.def_ 1 rfl; ⟨fd, defC_of F⟩
  d_Relay_near := let ⟨fd, F⟩ := c.def_ 2 rfl; ⟨fd, defC_of F⟩
  d_Relay_route := let ⟨fd, F⟩ := c.def_ 3 rfl; ⟨fd, defC_of F⟩
  d_Relay_send := let ⟨fd, F⟩ := c.def_ 4 rfl; ⟨fd, defC_of F⟩
  d_Relay_wait := let ⟨fd, F⟩ := c.def_ 5 rfl; ⟨fd, defC_of F⟩
  d_Relay_fogged := let ⟨fd, F⟩ := c.def_ 6 rfl; ⟨fd, defC_of F⟩
  d_Relay_go_minute := let ⟨fd, F⟩ := c.def_ 7 rfl; ⟨fd, defC_of F⟩
  d_Relay_go_on := let ⟨fd, F⟩ := c.def_ 8 rfl; ⟨fd, defC_of F⟩
  d_Relay_free := let ⟨fd, F⟩ := c.def_ 9 rfl; ⟨fd, defC_of F⟩
  d_Relay_begin := let ⟨fd, F⟩ := c.def_ 10 rfl; ⟨fd, defC_of F⟩
  d_Relay_where := let ⟨fd, F⟩ := c.def_ 11 rfl; ⟨fd, defC_of F⟩
  d_Relay_took := let ⟨fd, F⟩ := c.def_ 12 rfl; ⟨fd, defC_of F⟩
  d_Relay_least := let ⟨fd, F⟩ := c.def_ 13 rfl; ⟨fd, defC_of F⟩
  d_l_dice := let ⟨fd, F⟩ := c.def_ 14 rfl; ⟨fd, defC_of F⟩
  d_l_roll := let ⟨fd, F⟩ := c.def_ 15 rfl; ⟨fd, defC_of F⟩
  d_l_rounds := let ⟨fd, F⟩ := c.def_ 16 rfl; ⟨fd, defC_of F⟩
  d_l_told := let ⟨fd, F⟩ := c.def_ 17 rfl; ⟨fd, defC_of F⟩
  d_l_near := let ⟨fd, F⟩ := c.def_ 18 rfl; ⟨fd, defC_of F⟩
  d_l_route := let ⟨fd, F⟩ := c.def_ 19 rfl; ⟨fd, defC_of F⟩
  d_l_wait := let ⟨fd, F⟩ := c.def_ 20 rfl; ⟨fd, defC_of F⟩
  d_l_minute := let ⟨fd, F⟩ := c.def_ 21 rfl; ⟨fd, defC_of F⟩
  d_l_where := let ⟨fd, F⟩ := c.def_ 22 rfl; ⟨fd, defC_of F⟩
  d_l_deed := let ⟨fd, F⟩ := c.def_ 23 rfl; ⟨fd, defC_of F⟩
  d_l_plain := let ⟨fd, F⟩ := c.def_ 24 rfl; ⟨fd, defC_of F⟩
  d_law := let ⟨fd, F⟩ := c.def_ 25 rfl; ⟨fd, defC_of F⟩
/-- all of it, over a base -/
structure Ctx (K : PySem.W.Frag) (mg : Str → Option Value) (base : Heap) : Prop where
  t : Txt K mg
  d : Defs K
  b : ∀ p ∈ tf, TabB base mg (He.cT K p).1 (He.cT K p).2
  u : ex K = true
end K6

-- text ZipS
set_option maxRecDepth 100000
set_option maxHeartbeats 4000000
/-! ZipS: for a, b in zip(x, y), x and y texts. -/
namespace GX
open PySem PySem.Spec PyProof.Rows L2 LamX
/-- the signs of both texts in new pairs -/
def Itzs (x y : Str) : It :=
  ⟨fun i _ => i < min x.cps.size y.cps.size, fun i H v H' => ∃ T c d, v = .ref T ∧ H T = none ∧ H' = upd H T (.tup [.str ⟨#[c]⟩, .str ⟨#[d]⟩]) ∧ x.cps[i]? = some c ∧ y.cps[i]? = some d, fun i _ => min x.cps.size y.cps.size ≤ i⟩
theorem turn_zips {P : Program} {w : World} {K : PySem.W.Frag} {elts : List Expr} {kk : Nat} {tpos : Pos} {x y : Str} {t u : Tok} {z TI TO i1 i2 : Addr} (D : ZipSep2 z TI TO i1 i2 [i1] [i2]) :
    Turn P w K (.Tuple elts kk tpos) (Itzs x y) [z, TI, TO, i1, i2] z (fun i h => (IsZip h z TI TO .none ∧ IsTupOf2 h TI (.ref i1) (.ref i2) ∧ (∃ a1 a2, IsTupOf2 h TO a1 a2) ∧ h.IsStrIter i1 (strIterType x) x t i ∧ h.IsStrIter i2 (strIterType y) y u i) ∧ i ≤ min x.cps.size y.cps.size) where
  mem := List.mem_cons_self
  obj := fun i h st c hc => by
    obtain ⟨⟨hz, hTI, ⟨a1, a2, hTO⟩, ⟨o1, e1, _, d1⟩, ⟨o2, e2, _, d2⟩⟩, _⟩ := st
    simp only [List.mem_cons, List.not_mem_nil, or_false] at hc
    rcases hc with q | q | q | q | q
    · rw [q]; exact ⟨_, hz, nofun⟩
    · rw [q]; exact ⟨_, hTI, nofun⟩
    · rw [q]; exact ⟨_, hTO, nofun⟩
    · rw [q]; exact ⟨o1, e1, fun v q => by rw [d1] at q; cases q⟩
    · rw [q]; exact ⟨o2, e2, fun v q => by rw [d2] at q; cases q⟩
  keep := fun i h h' st k => by
    obtain ⟨⟨hz, hTI, ⟨a1, a2, hTO⟩, ⟨o1, e1, r1⟩, ⟨o2, e2, r2⟩⟩, hl⟩ := st
    exact ⟨⟨k z (by simp) _ hz, k TI (by simp) _ hTI, ⟨a1, a2, k TO (by simp) _ hTO⟩, ⟨o1, k i1 (by simp) _ e1, r1⟩, ⟨o2, k i2 (by simp) _ e2, r2⟩⟩, hl⟩
  item := by
    intro X hP hw hK hc i pins s σ H E I hf st hg
    subst hP hw hK
    have hh := I.ok.hd hc
    have G := GoesN.zip2 (prog := X.prog) (w := X.w) (A := X.A) (elts := elts) (x1 := kk) (pos := tpos) D (Draws.text (A := X.A.in1) hh i1 x t) (Draws.text (A := X.A.in1) hh i2 y u)
    have hi : i < min x.cps.size y.cps.size := hg
    have hlt : ∀ b ∈ [z, TI, TO, i1, i2], b < s.heap.objs.size := fun c hc => by
      obtain ⟨⟨hz, hTI, ⟨a1, a2, hTO⟩, ⟨o1, e1, _, d1⟩, ⟨o2, e2, _, d2⟩⟩, _⟩ := st
      simp only [List.mem_cons, List.not_mem_nil, or_false] at hc
      rcases hc with q | q | q | q | q
      · rw [q]; exact Heap.lt_size hz
      · rw [q]; exact Heap.lt_size hTI
      · rw [q]; exact Heap.lt_size hTO
      · rw [q]; exact Heap.lt_size e1
      · rw [q]; exact Heap.lt_size e2
    refine G.goes i s (fun v s2 => ∃ x' H', Inv X pins σ H' s2 ∧ RelV x' v ∧ (Itzs x y).yld i H x' H' ∧ ((IsZip s2.heap z TI TO .none ∧ IsTupOf2 s2.heap TI (.ref i1) (.ref i2) ∧ (∃ a1 a2, IsTupOf2 s2.heap TO a1 a2) ∧ s2.heap.IsStrIter i1 (strIterType x) x t (i + 1) ∧ s2.heap.IsStrIter i2 (strIterType y) y u (i + 1)) ∧ i + 1 ≤ min x.cps.size y.cps.size) ∧ ∀ b ∈ [z, TI, TO, i1, i2], H' b = none) E hi st.1 fun v h' tk hY st' hk _ => ?_
    obtain ⟨T, vx, vy, rfl, hT, ⟨c, uc, hcx, rfl⟩, ⟨d, ud, hdy, rfl⟩, ⟨oT, hoT, hcl, nT, hdT⟩⟩ := hY
    refine ⟨.ref T, upd H T (.tup [.str ⟨#[c]⟩, .str ⟨#[d]⟩]), ?_, rfl, ⟨T, c, d, rfl, I.hok.fresh hT, rfl, hcx, hdy⟩, ⟨st', hi⟩, fun b hb => ?_⟩
    · refine I.turnedNew (t' := tk) (ch := [z, TI, TO, i1, i2]) (fun b o hb e => hk b o (fun q => hb (by
        simp only [List.mem_cons, List.not_mem_nil, or_false] at q ⊢
        rcases q with q | q | q | q <;> simp [q])) e) hf hT ?_
      exact ⟨by show 2 ≤ sizeLine; decide, [.str ⟨#[c]⟩ uc, .str ⟨#[d]⟩ ud], .cons ⟨uc, rfl⟩ (.cons ⟨ud, rfl⟩ .nil), ⟨oT, hoT, hcl, nT, hdT⟩⟩
    · rw [upd_ne (Nat.ne_of_lt (Nat.lt_of_lt_of_le (hlt b hb) hT))]
      exact (hf b hb).1
  done := by
    intro X hP hw hK hc i pins s σ H E I hf st hg
    subst hP hw hK
    have hh := I.ok.hd hc
    have G := GoesN.zip2 (prog := X.prog) (w := X.w) (A := X.A) (elts := elts) (x1 := kk) (pos := tpos) D (Draws.text (A := X.A.in1) hh i1 x t) (Draws.text (A := X.A.in1) hh i2 y u)
    have hi : i = min x.cps.size y.cps.size := Nat.le_antisymm st.2 hg
    refine G.stops s (fun s1 => Inv X pins σ H s1) E (by rw [← hi]; exact st.1) fun h' tk hk _ => ?_
    exact I.turnedL (t' := tk) (ch := [z, TI, TO, i1, i2]) (fun b o hb e => hk b o (fun q => hb (by
        simp only [List.mem_cons, List.not_mem_nil, or_false] at q ⊢
        rcases q with q | q | q | q <;> simp [q])) e) hf
  self := fun A i s Q E st h => wpAny_pyIter_zip st.1.1 h
def iZipS (ta : TA) : TI := fun σ H R => ta σ H fun vs H1 => ∃ x y, vs = [.str x, .str y] ∧ R (Itzs x y) H1
theorem pi_zipS {X : Cx} {e e2 : Expr} {ta : TA} {p pos tpos : Pos} {elts : List Expr} {kk : Nat} (hg : Gl X "zip") (hm : X.mg "zip" = none) (ha : PA X [e, e2] ta)
    (hs : starEach [e, e2] X.env = (false, eval e X.env) :: starEach [e2] X.env := by rfl) (hpl : (backTo pos (starEach [e2] X.env)).any (·.1) = false := by rfl) :
    PI X (.Tuple elts kk tpos) (.Call (.Name "zip" p) [e, e2] [] pos) (iZipS ta) := by
  refine ⟨fun pins s σ H R I h => ?_⟩
  refine Call_ (ld_blt I hg hm PyProof.Rows.boot_zip (PyProof.Rows.callWith_type1 (thn (ha.run pos pins s σ H _ I h) fun us s1 ⟨vs, H1, I1, r1, x, y, ex, q⟩ => ?_) hs hpl))
  subst ex
  cases r1 with
  | cons r rr =>
    cases rr with
    | cons r' rr =>
      cases rr
      obtain ⟨t, rfl⟩ := r
      obtain ⟨u, rfl⟩ := r'
      refine zip_begins2 (begins_text x t) (begins_text y u) trivial trivial fun h' hz hTI hTO h1 h2 hsz hk => wpAny_pyIter_zip hz ?_
      have I2 : Inv X pins σ H1 { s1 with heap := h' } := I1.kept (t' := s1.toks) hk
      refine ⟨s1.heap.objs.size + 4, [s1.heap.objs.size + 4, s1.heap.objs.size + 2, s1.heap.objs.size + 3, s1.heap.objs.size, s1.heap.objs.size + 1], _, _, H1, rfl, I2,
        turn_zips (x := x) (y := y) (t := t) (u := u) (zip_sep2 (N := s1.heap.objs.size) (fp1 := []) (fp2 := []) (by simp) (by simp)), ⟨⟨hz, hTI, ⟨_, _, hTO⟩, ⟨_, h1, rfl, rfl⟩, ⟨_, h2, rfl, rfl⟩⟩, Nat.zero_le _⟩, fun c hcm => ?_, q⟩
      have hle : s1.heap.objs.size ≤ c := by
        simp only [List.mem_cons, List.not_mem_nil, or_false] at hcm
        rcases hcm with q | q | q | q | q <;> rw [q] <;> first | exact Nat.le_add_right _ _ | exact Nat.le_refl _
      exact I1.fpOk hle (I1.hok.fresh hle)
end GX

-- text Lp
set_option maxRecDepth 100000
set_option maxHeartbeats 4000000
/-! Lp: loops over a walk of n items, by an invariant. -/
namespace GX
open PySem PySem.Spec PyProof.Rows L2 LamX
/-- [e for t in walk if ..]: n items, the invariant Pv by the turn and the heap -/
theorem lc_n {J : It} {g : TG} {tt : TT} {te : TE} {vs : List Nat} {σ : L2.St} {H1 : Hp} {D : Addr} {Qd : Hp → Prop} (n : Nat) (Pv : Nat → Hp → Prop) (h0 : Pv 0 (upd H1 D (.lst [])))
    (hs : ∀ i H, i < n → Pv i H → J.go i H ∧ ∀ x H', J.yld i H x H' → g x (wipe σ vs) H' fun σ2 H2 => wipe σ2 vs = wipe σ vs ∧ tt σ2 H2 fun b H3 =>
      if b = true then te σ2 H3 fun y H4 => ∃ acc, H4 D = some (.lst acc) ∧ acc.length < sizeLine ∧ Pv (i + 1) (upd H4 D (.lst (acc ++ [y]))) else Pv (i + 1) H3)
    (hd : ∀ H, Pv n H → J.stop n H ∧ Qd H) :
    ∃ W : Nat → Nat → Hp → Prop, (∃ m, W 0 m (upd H1 D (.lst []))) ∧ ∀ i m H, W i m H →
      (J.stop i H ∧ Qd H) ∨ (J.go i H ∧ ∃ Nx : Hp → Prop, (∀ H', Nx H' → ∃ m', m' < m ∧ W (i + 1) m' H') ∧ ∀ x H', J.yld i H x H' → g x (wipe σ vs) H' fun σ2 H2 => wipe σ2 vs = wipe σ vs ∧ tt σ2 H2 fun b H3 =>
        if b = true then te σ2 H3 fun y H4 => ∃ acc, H4 D = some (.lst acc) ∧ acc.length < sizeLine ∧ Nx (upd H4 D (.lst (acc ++ [y]))) else Nx H3) := by
  refine ⟨fun i m H => m = n - i ∧ i ≤ n ∧ Pv i H, ⟨n, by simp, Nat.zero_le _, h0⟩, ?_⟩
  rintro i m H ⟨rfl, hi, p⟩
  by_cases hlt : i < n
  · obtain ⟨q1, q2⟩ := hs i H hlt p
    exact .inr ⟨q1, Pv (i + 1), fun H' p' => ⟨n - (i + 1), by omega, rfl, hlt, p'⟩, q2⟩
  · have e : i = n := by omega
    rw [e] at p ⊢
    exact .inl (hd H p)
/-- the same of a loop -/
theorem for_n {J : It} {g : TG} {tb : TS} {D : Ends} {σ : L2.St} {H : Hp} (n : Nat) (Pv : Nat → L2.St → Hp → Prop) (h0 : Pv 0 σ H)
    (hs : ∀ i σ H, i < n → Pv i σ H → J.go i H ∧ ∀ x H', J.yld i H x H' → g x σ H' fun σ2 H2 => tb { D with nx := Pv (i + 1), ct := Pv (i + 1), bk := D.nx } σ2 H2)
    (hd : ∀ σ H, Pv n σ H → J.stop n H ∧ D.nx σ H) :
    ∃ W : Nat → Nat → L2.St → Hp → Prop, (∃ m, W 0 m σ H) ∧ ∀ i m σ H, W i m σ H →
      (J.stop i H ∧ D.nx σ H) ∨ (J.go i H ∧ ∃ N : L2.St → Hp → Prop, (∀ σ' H', N σ' H' → ∃ m', m' < m ∧ W (i + 1) m' σ' H') ∧ ∀ x H', J.yld i H x H' → g x σ H' fun σ2 H2 => tb { D with nx := N, ct := N, bk := D.nx } σ2 H2) := by
  refine ⟨fun i m σ H => m = n - i ∧ i ≤ n ∧ Pv i σ H, ⟨n, by simp, Nat.zero_le _, h0⟩, ?_⟩
  rintro i m σ H ⟨rfl, hi, p⟩
  by_cases hlt : i < n
  · obtain ⟨q1, q2⟩ := hs i σ H hlt p
    exact .inr ⟨q1, Pv (i + 1), fun σ' H' p' => ⟨n - (i + 1), by omega, rfl, hlt, p'⟩, q2⟩
  · have e : i = n := by omega
    rw [e] at p ⊢
    exact .inl (hd σ H p)
/-- a list's walk at a place -/
theorem Itl_go {K : PySem.W.Frag} {a : Addr} {xs : List V} {i : Nat} {H : Hp} (h : SqL K H a xs) (hi : i < xs.length) : (Itl K a).go i H := ⟨xs, xs[i], h, by rw [List.getElem?_eq_getElem hi]⟩
theorem Itl_stop {K : PySem.W.Frag} {a : Addr} {xs : List V} {i : Nat} {H : Hp} (h : SqL K H a xs) (hi : xs.length ≤ i) : (Itl K a).stop i H := ⟨xs, h, hi⟩
theorem Itl_yld {K : PySem.W.Frag} {a : Addr} {xs : List V} {i : Nat} {H H' : Hp} {x : V} (h : SqL K H a xs) (y : (Itl K a).yld i H x H') : H' = H ∧ xs[i]? = some x := ⟨y.1, y.2 xs h⟩
theorem Itt_go {K : PySem.W.Frag} {a : Addr} {xs : List V} {i : Nat} {H : Hp} (h : SqT K H a xs) (hi : i < xs.length) : (Itt K a).go i H := ⟨xs, xs[i], h, by rw [List.getElem?_eq_getElem hi]⟩
theorem Itt_stop {K : PySem.W.Frag} {a : Addr} {xs : List V} {i : Nat} {H : Hp} (h : SqT K H a xs) (hi : xs.length ≤ i) : (Itt K a).stop i H := ⟨xs, h, hi⟩
theorem Itt_yld {K : PySem.W.Frag} {a : Addr} {xs : List V} {i : Nat} {H H' : Hp} {x : V} (h : SqT K H a xs) (y : (Itt K a).yld i H x H') : H' = H ∧ xs[i]? = some x := ⟨y.1, y.2 xs h⟩
theorem get_map {α : Type} {f : α → V} {xs : List α} {i : Nat} {v : V} (h : (xs.map f)[i]? = some v) : ∃ x, xs[i]? = some x ∧ v = f x := by
  rw [List.getElem?_map] at h
  cases e : xs[i]? with
  | none => rw [e] at h; cases h
  | some x => rw [e] at h; exact ⟨x, rfl, (Option.some.inj h).symm⟩
end GX

-- text Cal
set_option maxRecDepth 100000
set_option maxHeartbeats 4000000
/-! Cal: defs, methods and classes of the text that may raise, by one word each. -/
namespace GX
open PySem PySem.Spec PyProof.Rows L2 LamX
section
variable (P : Program) (w : World) (K : PySem.W.Frag) (mg : Str → Option Value) (base : Heap)
/-- the module's x is a def that keeps sp -/
def CalX (k : Nat) (x : Str) (ps : List Str) (sp : Sp) : Prop := ∃ f fd, FnOk P w K mg base (L2.CX P w) k f fd ps sp ∧ Binds K fd ps [] ∧ PySem.W.keepIn K (.ref f) = true ∧ mg x = some (.ref f)
/-- the method m of the class at C keeps sp -/
def MetX (k : Nat) (C : Addr) (m : Str) (ps : List Str) (sp : Sp) : Prop := ∃ f fd, FnOk P w K mg base (L2.CX P w) k f fd ps sp ∧ Binds K fd ps [] ∧ Meth K C m f ∧ Cls K C
/-- the class x at C is made by an __init__ that keeps sp -/
def MakX (k : Nat) (x : Str) (C : Addr) (ps : List Str) (sp : Sp) : Prop := ∃ f fd, FnOk P w K mg base (L2.CX P w) k f fd ps sp ∧ Binds K fd ps [] ∧ Mk K C f ∧ mg x = some (.ref C)
end
section
variable {X : Cx} {k j : Nat} {x m : Str} {C : Addr} {ps : List Str} {sp : Sp} {E : XK} {p pos apos : Pos} {e o : Expr} {es : List Expr} {ta : TE} {t : TA}
theorem pe_cx (c : CalX X.prog X.w X.K X.mg X.base k x ps sp) (hr : Room j X.A) (hk : k ≤ j) (hg : Gl X x) (hx : Passes (L2.CX X.prog X.w) X E) (ha : PA X (e :: es) t) (hdb : (x == ("__debug__" : Str)) = false := by decide)
    (he : starEach (e :: es) X.env = (false, eval e X.env) :: starEach es X.env := by rfl) (hpl : (backTo pos (starEach es X.env)).any (·.1) = false := by rfl) : PE X (.Call (.Name x p) (e :: es) [] pos) (tCall sp [] E t) := by
  obtain ⟨f, fd, F, b, kp, hm⟩ := c
  exact pe_call F (hr.mono hk) hg hm kp b .nil hx ha hdb he hpl
theorem pe_cx0 (c : CalX X.prog X.w X.K X.mg X.base k x ps sp) (hr : Room j X.A) (hk : k ≤ j) (hg : Gl X x) (hx : Passes (L2.CX X.prog X.w) X E) (hdb : (x == ("__debug__" : Str)) = false := by decide) : PE X (.Call (.Name x p) [] [] pos) (tCall sp [] E tNil) := by
  obtain ⟨f, fd, F, b, kp, hm⟩ := c
  exact pe_call0 F (hr.mono hk) hg hm kp b .nil hx hdb
end
end GX

-- text Str1
set_option maxRecDepth 100000
set_option maxHeartbeats 4000000
/-! Str1: texts by their codes. -/
namespace GX
open PySem PySem.Spec PyProof.Rows L2 LamX
theorem S_app (a b : List Nat) : S a ++ S b = S (a ++ b) := by
  show Str.append (S a) (S b) = _
  simp [S, Str.append]
theorem S_app' (a b : List Nat) : Str.append (S a) (S b) = S (a ++ b) := by simp [S, Str.append]
theorem cutS_def (z : Str) (lo hi : Option Int) : cutS z lo hi = S ((z.cps.toList.drop (HT.sIx z.length 0 lo)).take (HT.sIx z.length z.length hi - HT.sIx z.length 0 lo)) := rfl
theorem sIx_none (n d : Nat) : HT.sIx n d none = d := by
  unfold HT.sIx
  rfl
theorem sIx_nat (n d k : Nat) : HT.sIx n d (some (k : Int)) = min k n := by
  unfold HT.sIx
  simp only
  split
  · omega
  · omega
theorem cut_lo (l : List Nat) (k : Nat) : cutS (S l) none (some (k : Int)) = S (l.take k) := by
  rw [cutS_def, sIx_none, sIx_nat, S_cps, S_len]
  congr 1
  rw [List.drop_zero, Nat.sub_zero]
  rcases Nat.le_total k l.length with h | h
  · rw [Nat.min_eq_left h]
  · rw [Nat.min_eq_right h, List.take_of_length_le (Nat.le_refl _), List.take_of_length_le h]
theorem cut_hi (l : List Nat) (k : Nat) : cutS (S l) (some (k : Int)) none = S (l.drop k) := by
  rw [cutS_def, sIx_none, sIx_nat, S_cps, S_len]
  congr 1
  rcases Nat.le_total k l.length with h | h
  · rw [Nat.min_eq_left h, List.take_of_length_le (by rw [List.length_drop]; omega)]
  · rw [Nat.min_eq_right h, Nat.sub_self, List.take_zero, List.drop_of_length_le h]
theorem cut_mid (l : List Nat) (i j : Nat) : cutS (S l) (some (i : Int)) (some (j : Int)) = S ((l.take j).drop i) := by
  rw [cutS_def, sIx_nat, sIx_nat, S_cps, S_len]
  congr 1
  rw [List.drop_take]
  rcases Nat.le_total j l.length with h | h
  · rw [Nat.min_eq_left h]
    rcases Nat.le_total i l.length with h' | h'
    · rw [Nat.min_eq_left h']
    · rw [Nat.min_eq_right h', List.drop_of_length_le (Nat.le_refl _), List.drop_of_length_le h', List.take_nil, List.take_nil]
  · rw [Nat.min_eq_right h]
    rcases Nat.le_total i l.length with h' | h'
    · rw [Nat.min_eq_left h', List.take_of_length_le (by rw [List.length_drop]; exact Nat.le_refl _), List.take_of_length_le (by rw [List.length_drop]; omega)]
    · rw [Nat.min_eq_right h', Nat.sub_self, List.take_zero, List.drop_of_length_le h', List.take_nil]
/-- str(n) of a small number -/
theorem toS_bit {n : Int} (h : n = 0 ∨ n = 1) : (Str.ofString (toString n) : Str) = S [(48 + n.toNat : Nat)] := by
  rcases h with rfl | rfl <;> decide +kernel
theorem log_bit {n : Int} (h : n = 0 ∨ n = 1) : n.natAbs.log2 < 1920 := by
  rcases h with rfl | rfl <;> decide +kernel
theorem int_bit {c : Nat} (h : c = 48 ∨ c = 49) : PySem.intText? (S [c]) = some ((c : Int) - 48) := by
  rcases h with rfl | rfl <;> decide +kernel
theorem S_one (c : Nat) : (⟨#[c]⟩ : Str) = S [c] := rfl
theorem lenS_le {l : List Nat} {n : Nat} (h : l.length ≤ n) (hn : n ≤ sizeLine) : (S l).length ≤ sizeLine := by rw [S_len]; exact Nat.le_trans h hn
theorem atS {l : List Nat} {k c : Nat} (h : l[k]? = some c) : atI (S l).cps.toList (k : Int) = some c := by
  rw [S_cps]
  exact atI_nat h
/-- how often "1" comes -/
def cnt (l : List Nat) : Nat := (l.filter fun c => c == 49).length
end GX

-- text Dat
set_option maxRecDepth 100000
set_option maxHeartbeats 4000000
/-! Dat: data compared, sorted texts. -/
namespace GX
open PySem PySem.Spec PyProof.Rows L2 LamX
theorem eqv_strs : ∀ xs ys : List Str, PyData.eqvAll (xs.map PyData.str) (ys.map PyData.str) = decide (xs = ys)
  | [], [] => rfl
  | [], _ :: _ => rfl
  | _ :: _, [] => rfl
  | x :: xs, y :: ys => by
    show (PyData.eqv (.str x) (.str y) && PyData.eqvAll (xs.map PyData.str) (ys.map PyData.str)) = _
    rw [eqv_strs xs ys]
    show ((x == y) && _) = _
    by_cases h : x = y
    · subst h; simp
    · have : (x == y) = false := by simpa using h
      rw [this]
      simp [h]
theorem eqv_ints : ∀ xs ys : List Int, PyData.eqvAll (xs.map PyData.int) (ys.map PyData.int) = decide (xs = ys)
  | [], [] => rfl
  | [], _ :: _ => rfl
  | _ :: _, [] => rfl
  | x :: xs, y :: ys => by
    show (PyData.eqv (.int x) (.int y) && PyData.eqvAll (xs.map PyData.int) (ys.map PyData.int)) = _
    rw [eqv_ints xs ys]
    show ((x == y) && _) = _
    by_cases h : x = y
    · subst h; simp
    · have : (x == y) = false := by simpa using h
      rw [this]
      simp [h]
/-- data without anything within -/
def scal0 : PyData → Bool
  | .none | .bool _ | .int _ => true
  | .str x => (PyData.str x).canLay0
  | _ => false
theorem scal0_lay : ∀ {d : PyData}, scal0 d = true → d.canLay0 = true ∧ d.depth = 0
  | .none, _ => ⟨rfl, rfl⟩
  | .bool _, _ => ⟨rfl, rfl⟩
  | .int _, _ => ⟨rfl, rfl⟩
  | .str x, h => ⟨h, rfl⟩
  | .list _, h => by cases h
  | .tuple _, h => by cases h
  | .dict _, h => by cases h
theorem all_lay : ∀ {ds : List PyData} {n : Nat}, (∀ d ∈ ds, d.canLay0 = true ∧ d.depth ≤ n) → PyData.canLayAll0 ds = true ∧ PyData.depthAll ds ≤ n
  | [], _, _ => ⟨rfl, Nat.zero_le _⟩
  | d :: r, n, h => by
    obtain ⟨a, b⟩ := h d List.mem_cons_self
    obtain ⟨c, e⟩ := all_lay fun x hx => h x (List.mem_cons_of_mem _ hx)
    refine ⟨?_, ?_⟩
    · show (d.canLay0 && PyData.canLayAll0 r) = true
      rw [a, c]; rfl
    · show max d.depth (PyData.depthAll r) ≤ n
      omega
theorem shaped1 {d : PyData} (h : scal0 d = true) : SeqAt.shaped d = true := by
  obtain ⟨a, b⟩ := scal0_lay h
  unfold SeqAt.shaped
  rw [a, b]; rfl
theorem lay_list {ds : List PyData} {n : Nat} (h : ∀ d ∈ ds, d.canLay0 = true ∧ d.depth ≤ n) : (PyData.list ds).canLay0 = true ∧ (PyData.list ds).depth ≤ n + 1 := by
  obtain ⟨a, b⟩ := all_lay h
  exact ⟨a, by simp only [PyData.depth]; omega⟩
theorem lay_tuple {ds : List PyData} {n : Nat} (h : ∀ d ∈ ds, d.canLay0 = true ∧ d.depth ≤ n) : (PyData.tuple ds).canLay0 = true ∧ (PyData.tuple ds).depth ≤ n + 1 := by
  obtain ⟨a, b⟩ := all_lay h
  exact ⟨a, by simp only [PyData.depth]; omega⟩
theorem shaped_of {d : PyData} {n : Nat} (h : d.canLay0 = true ∧ d.depth ≤ n) (hn : n ≤ 64) : SeqAt.shaped d = true := by
  unfold SeqAt.shaped
  rw [h.1, decide_eq_true (Nat.le_trans h.2 hn)]; rfl
theorem shaped_list {ds : List PyData} (h : ∀ d ∈ ds, scal0 d = true) : SeqAt.shaped (.list ds) = true :=
  shaped_of (n := 1) (lay_list fun d hd => ⟨(scal0_lay (h d hd)).1, Nat.le_of_eq (scal0_lay (h d hd)).2⟩) (by decide)
theorem shaped_tuple {ds : List PyData} (h : ∀ d ∈ ds, scal0 d = true) : SeqAt.shaped (.tuple ds) = true :=
  shaped_of (n := 1) (lay_tuple fun d hd => ⟨(scal0_lay (h d hd)).1, Nat.le_of_eq (scal0_lay (h d hd)).2⟩) (by decide)
theorem shaped_ints (ns : List Int) : SeqAt.shaped (.list (ns.map PyData.int)) = true := shaped_list fun d hd => by
  obtain ⟨n, _, rfl⟩ := List.mem_map.mp hd
  rfl
/-! ### sorted texts -/
theorem rising_pair : ∀ {p : Str} {l : List Str}, risingS p l = true → (p :: l).Pairwise fun a b => ¬ b.cps.toList < a.cps.toList
  | p, [], _ => List.pairwise_singleton _ _
  | p, x :: r, h => by
    have h : (!ltCps x.cps.toList p.cps.toList && risingS x r) = true := h
    rw [Bool.and_eq_true] at h
    have h1 : ¬ x.cps.toList < p.cps.toList := by
      have := h.1
      rw [ltCps_eq] at this
      simpa using this
    have ih := rising_pair h.2
    refine List.pairwise_cons.mpr ⟨fun y hy => ?_, ih⟩
    rcases List.mem_cons.mp hy with rfl | hy
    · exact h1
    · have h2 := (List.pairwise_cons.mp ih).1 y hy
      exact fun z => h1 (List.lt_of_le_of_lt (List.not_lt.mp h2) z)
theorem sortedS_pair {l : List Str} (h : sortedS l = true) : l.Pairwise fun a b => ¬ b.cps.toList < a.cps.toList := by
  cases l with
  | nil => exact List.Pairwise.nil
  | cons x r => exact rising_pair h
theorem str_ext {a b : Str} (h : a.cps.toList = b.cps.toList) : a = b := by
  rw [← S_eq a, ← S_eq b, h]
theorem sorted_uniq {a b : List Str} (ha : sortedS a = true) (hb : sortedS b = true) (p : a.Perm b) : a = b :=
  List.Perm.eq_of_pairwise (fun x y _ _ h1 h2 => str_ext (List.le_antisymm (List.not_lt.mp h1) (List.not_lt.mp h2))) (sortedS_pair ha) (sortedS_pair hb) p
theorem ints_uniq {a b : List Int} (ha : a.Pairwise (· ≤ ·)) (hb : b.Pairwise (· ≤ ·)) (p : a.Perm b) : a = b :=
  List.Perm.eq_of_pairwise (fun x y _ _ h1 h2 => Int.le_antisymm h1 h2) ha hb p
/-! ### cuts of lists -/
theorem cutV_drop (xs : List V) (k : Nat) : cutV xs (some (k : Int)) none = xs.drop k := by
  unfold cutV
  rw [GX.sIx_none, GX.sIx_nat]
  rcases Nat.le_total k xs.length with h | h
  · rw [Nat.min_eq_left h, List.take_of_length_le (by rw [List.length_drop]; exact Nat.le_refl _)]
  · rw [Nat.min_eq_right h, Nat.sub_self, List.take_zero, List.drop_of_length_le h]
theorem cutV_take (xs : List V) (k : Nat) : cutV xs none (some (k : Int)) = xs.take k := by
  unfold cutV
  rw [GX.sIx_none, GX.sIx_nat, List.drop_zero, Nat.sub_zero]
  rcases Nat.le_total k xs.length with h | h
  · rw [Nat.min_eq_left h]
  · rw [Nat.min_eq_right h, List.take_of_length_le (Nat.le_refl _), List.take_of_length_le h]
end GX

-- text SmX
set_option maxRecDepth 100000
set_option maxHeartbeats 4000000
/-! SmX: list(text), a sign times a number, sorted(d.values()). -/
namespace GX
open PySem PySem.Spec PyProof.Rows L2 LamX
section
variable {X : Cx}
theorem signs_vals {l : List Nat} : ∀ {us : List Value}, us.length = l.length → (∀ (j : Nat) (v : Value), us[j]? = some v → ∃ c t, l[j]? = some c ∧ v = .str (S [c]) t) → Vals (l.map fun c => V.str (S [c])) us := by
  induction l with
  | nil =>
    intro us h _
    match us, h with
    | [], _ => exact .nil
  | cons c r ih =>
    intro us h hv
    match us, h with
    | u :: us, h =>
      obtain ⟨c2, t, e1, e2⟩ := hv 0 u rfl
      have e1 : c = c2 := by simpa using e1
      subst e1
      exact .cons ⟨t, e2⟩ (ih (by simpa using h) fun j v e => by
        obtain ⟨c3, t3, a, b⟩ := hv (j + 1) v (by simpa using e)
        exact ⟨c3, t3, by simpa using a, b⟩)
/-- list(s) -/
theorem cr_listS (hc : X.calm = true) : CallR X (.type "list") (fun xs H Q => ∃ l : List Nat, xs = [.str (S l)] ∧ l.length ≤ 1000 ∧ ∀ p, H p = none → Q (.ref p) (upd H p (.lst (l.map fun c => V.str (S [c]))))) := by
  intro pins s σ H xs us Q I r h
  obtain ⟨l, rfl, hl, hq⟩ := h
  obtain ⟨u, rfl, t, rfl⟩ := vals1 r
  have hsz : (S l).cps.size ≤ sizeLine := by
    have e : (S l).cps.size = l.length := S_len l
    rw [e]
    exact Nat.le_trans hl (by decide)
  refine call_list_str (I.ok.hd hc) (S l) t (hn := hsz) fun h' tk acc c kp hS hacc => ?_
  have hlen : acc.toList.length = l.length := by rw [Array.length_toList, hacc.1]; exact S_len l
  refine ⟨.ref s.heap.objs.size, upd H s.heap.objs.size (.lst (l.map fun c => V.str (S [c]))), I.laid (t' := tk) kp (Nat.le_refl _) ⟨by rw [List.length_map]; exact Nat.le_trans hl (by decide), acc.toList, c, signs_vals hlen fun j v e => ?_, hS⟩, rfl, hq _ (I.hok.fresh (Nat.le_refl _))⟩
  obtain ⟨c2, t2, e1, e2⟩ := hacc.2 j v (by rw [← Array.getElem?_toList]; exact e)
  exact ⟨c2, t2, by have : (S l).cps.toList[j]? = some c2 := by rw [Array.getElem?_toList]; exact e1
                    rw [S_cps] at this; exact this, e2⟩
theorem rep_sign (c n : Nat) : (List.replicate n (S [c]).cps).foldl (· ++ ·) #[] = (List.replicate n c).toArray := by
  have key : ∀ (m : Nat) (a : Array Nat), (List.replicate m (S [c]).cps).foldl (· ++ ·) a = a ++ (List.replicate m c).toArray := by
    intro m
    induction m with
    | zero => intro a; simp
    | succ m ih =>
      intro a
      rw [List.replicate_succ, List.foldl_cons, ih, List.replicate_succ]
      apply Array.ext'
      simp [S]
  rw [key]
  simp
/-- a sign times a number -/
theorem op_mulSign : OpR X (binaryOp .Mult) (fun x y H Q => ∃ c n : Nat, x = .str (S [c]) ∧ y = .int (n : Int) ∧ n ≤ 1000 ∧ Q (.str (S (List.replicate n c))) H) := by
  intro pins s σ H x y v u Q I rx ry h
  obtain ⟨c, n, rfl, rfl, hn, hq⟩ := h
  obtain ⟨t, rfl⟩ := rx
  obtain ⟨t2, rfl⟩ := ry
  have hl : (S [c]).length = 1 := S_len _
  refine P.mul_str (by simp; omega) (fun _ _ => ?_) (fun _ _ => ?_) ?_
  · rw [hl]
    have h1 : ((n : Int)) ≤ 1000 := by omega
    intro z
    have h0 : (1 : Int) ≤ (n : Int) := by omega
    have : (2 : Int) ≤ (2 ^ 63 - 1) / (n : Int) := (Int.le_ediv_iff_mul_le (by omega)).mpr (by omega)
    omega
  · rw [hl]
    unfold PySem.Builtin.Str.tooLong
    have : n ≤ sizeLine := Nat.le_trans hn (by decide)
    simp
    omega
  · have I2 := I.tok (s.toks + 1)
    by_cases h0 : n = 0
    · subst h0
      rw [if_pos (by decide)]
      exact ⟨by decide, .str (S (List.replicate 0 c)), H, I2, ⟨_, rfl⟩, hq⟩
    · rw [if_neg (by omega)]
      by_cases h1 : n = 1
      · subst h1
        rw [if_pos (by simp)]
        exact ⟨.str (S [c]), H, I, ⟨_, rfl⟩, hq⟩
      · rw [if_neg (by rw [hl]; simp; omega), show ((n : Int)).toNat = n by omega, rep_sign]
        exact ⟨by show (S (List.replicate n c)).length ≤ sizeLine; rw [S_len, List.length_replicate]; exact Nat.le_trans hn (by decide), .str (S (List.replicate n c)), H, I2, ⟨_, rfl⟩, hq⟩
theorem int_vals : ∀ {kvs : List (Key × V)} {vs : List (Key × Value)} {is : List Int}, KV kvs vs → kvs.map (·.2) = is.map V.int → IntsAre (vs.map (·.2)) is := by
  intro kvs
  induction kvs with
  | nil =>
    intro vs is rel e
    cases rel
    cases is with
    | nil => exact .nil
    | cons a r => cases e
  | cons p r ih =>
    intro vs is rel e
    cases is with
    | nil => cases e
    | cons a r2 =>
      cases rel with
      | cons h t =>
        have e1 : p.2 = V.int a := by injection e
        have e2 : r.map (·.2) = r2.map V.int := by injection e
        obtain ⟨h1, h2⟩ := h
        rw [e1] at h2
        obtain ⟨tk, h3⟩ := h2
        rw [List.map_cons, h3]
        exact .cons _ _ (ih t e2)
/-- the reading of sorted(d.values()), d's values whole numbers -/
def tSortVals (td : TE) : TE := fun σ H Q => td σ H fun x H1 => ∃ a kvs is, x = V.ref a ∧ H1 a = some (.dK kvs) ∧ kvs.map (·.2) = is.map V.int ∧ is.length < 64 ∧
  ∀ (ns : List Int) p, ns.Perm is → ns.Pairwise (· ≤ ·) → H1 p = none → Q (.ref p) (upd H1 p (.lst (ns.map V.int)))
variable {o : Expr} {td : TE} {p pos apos mpos : Pos}
theorem pe_sortVals (hc : X.calm = true) (hg : Gl X "sorted") (hm : X.mg "sorted" = none) (hd : PE X o td) (hbase : attributeBase o "values" X.env (eval o X.env) = eval o X.env := by rfl) (hline : (apos.endLine == mpos.line) = true := by rfl)
    (hse : starEach [Expr.Call (.Attribute o "values" apos) [] [] mpos] X.env = [(false, eval (Expr.Call (.Attribute o "values" apos) [] [] mpos) X.env)] := by rfl) :
    PE X (.Call (.Name "sorted" p) [.Call (.Attribute o "values" apos) [] [] mpos] [] pos) (tSortVals td) := by
  refine ⟨fun pins s σ H Q I h => ?_⟩
  refine wpAny_Call_Name_kw (ld_blt I hg hm (u := .builtin "sorted") (by first | rfl | decide +kernel) ?_ (by first | decide +kernel | decide) (by first | decide +kernel | decide))
  rw [hse]
  refine PySem.callWith_builtin1 (wpAny_Call_method0_late hbase hline (thn (hd.run pins s σ H _ I h) fun v s1 ⟨x, H1, I1, r1, a, kvs, is, ex, ha, hv, h64, q⟩ => ?_))
  subst ex
  obtain rfl : v = Value.ref a := r1
  obtain ⟨_, hsys, vs, rel, dof⟩ := dk_of I1.hok ha
  obtain ⟨ep, dat⟩ := dof.dictAt
  obtain ⟨ob, es, ho, ex, hdat, hko, hpr, hnd⟩ := id dat
  refine ⟨"dict", "dict.values", F.plainAttrs_dict, F.slot_dict_values, F.type_dict_values, ⟨ob, ho, ex.1⟩, fun b e => by cases e; exact ⟨ob, ho, ex.2.1⟩, Calls.callWith_builtin rfl (PySem.evalArgs_none ?_)⟩
  refine call_meetsIn F.slot_dict_values ⟨ob, ho, ex.1⟩ F.entry_dict_values (F.args_dict_values_1 _) (meets_dict_values (mixKind X.prog X.w) a hsys) ⟨⟨vs, dof⟩, ?_⟩
  have k1 : ∀ b u, s1.heap.get? b = some u → (s1.heap.push { cls := .type "dict_values", data := .fields #[.ref a] }).get? b = some u := fun b u e => Heap.get?_push_of_some _ e
  have hiv := int_vals rel hv
  have hln : vs.length = is.length := by have := hiv.length; rw [List.length_map] at this; exact this
  refine Calls.call_function_entry PyProof.Rows.kind_sorted PyProof.Rows.plain_sorted PyProof.Rows.entry_sorted (PyProof.Rows.args_sorted1 _) ?_
  unfold Builtin.«sorted»
  refine wpAny_bind (m := checkCount "sorted" 1 1 _) (wpAny_pure ?_)
  refine wpAny_bind (PySem.W.kdu_collect (A := X.A.in1) (PySem.W.kdl_values (knd := mixKind X.prog X.w) (r := s1.heap.objs.size) (d := a) (kvs := vs) (ep := ep)) (I1.ok.hd hc) ⟨⟨_, Heap.get?_push_size _ rfl, rfl, rfl⟩, dat.keep k1⟩ (by rw [hln]; exact small64 h64) fun h' tk acc hk hacc => ?_)
  have eacc : acc.toList = vs.map (·.2) := PySem.W.kdl_vals_eq _ (by rw [Array.length_toList]; exact hacc.1) fun j v e => hacc.2 j v (by rw [← Array.getElem?_toList]; exact e)
  have hI : IntsAre acc.toList is := by rw [eacc]; exact hiv
  have hl64 : acc.toList.length < 64 := by rw [eacc, List.length_map, hln]; exact h64
  refine wpAny_bind (wpAny_newList ?_ (Nat.le_trans (Nat.le_of_lt hl64) (by decide)))
  have hoL : (h'.push (seqObj "list" acc.toList.toArray 0)).get? h'.objs.size = some (seqObj "list" acc.toList.toArray 0) := Heap.get?_push_size _ rfl
  show wpAny _ _ _ _ _ { s1 with heap := h'.push (seqObj "list" acc.toList.toArray 0), toks := tk }
  refine wpAny_bind (wpAny_holding (wpAny_call_entry slot_list_sort ⟨_, hoL, rfl⟩ entry_list_sort (list_sort_tree hoL hI hl64 fun out ns' a1 a2 a3 => ⟨_, rfl, ?_⟩) (args_list_sort _)))
  have I2 : Inv X pins σ H1 { s1 with heap := h', toks := tk } := I1.kept fun b u e => hk b u (k1 b u e)
  obtain ⟨e', he'⟩ := PyProof.Rows.sortedHeap_at (vs := acc.toList) (out := out) hoL
  have hlen : (ns'.map V.int).length ≤ sizeLine := by rw [List.length_map, a2.length_eq]; exact small64 h64
  refine wpAny_pure ⟨_, rfl, .ref h'.objs.size, upd H1 h'.objs.size (.lst (ns'.map V.int)), I2.laid (t' := tk) (fun b u e => ?_) (Nat.le_refl _) ⟨hlen, out.toList, e', vals_of_ints a1, by rw [Array.toArray_toList]; exact he'⟩, rfl, q ns' _ a2 a3 (I2.hok.fresh (Nat.le_refl _))⟩
  have hb : b < h'.objs.size := Heap.lt_size e
  rw [PyProof.Rows.sortedHeap_old (Nat.ne_of_lt hb) (by rw [size_push']; exact Nat.lt_succ_of_lt hb)]
  exact Heap.get?_push_of_some _ e
end
end GX

-- text Tix
set_option maxRecDepth 100000
set_option maxHeartbeats 4000000
/-! Tix: a tuple made from a list, and its index(..). -/
namespace GX
open PySem PySem.Spec PyProof.Rows L2 LamX
section
variable {X : Cx}
/-- tuple(xs), xs a list: the new tuple's object is known -/
def rTupF (K : PySem.W.Frag) : List V → Hp → VK → Prop := fun vs H Q => ∃ p ys, vs = [.ref p] ∧ SqL K H p ys ∧ ∀ t ob, ob.dict = none → H t = none → Q (.ref t) (upd H t (.frz ob (.tup ys)))
theorem cr_tupF : CallR X (.type "tuple") (rTupF X.K) := by
  intro pins s σ H xs us Q I r h
  obtain ⟨p, ys, rfl, hq, q⟩ := h
  obtain ⟨u, rfl, rx⟩ := vals1 r
  cases rx
  obtain ⟨its, rv, isl, hz⟩ := I.list hq
  have hlen := rv.length
  refine call_tuple_list isl.isList (fun hh keep => ?_) (by simp only [List.size_toArray] <;> omega)
  have J := I.kept (t' := s.toks) keep
  exact ⟨.ref hh.objs.size, _, J.laid (t' := s.toks) (o := .frz { cls := .type "tuple", data := .seq its.toArray } (.tup ys)) (fun b o e => Heap.get?_push_of_some _ e) (Nat.le_refl _) ⟨Heap.get?_push_size _ rfl, hz, its, rv, IsTup.new _ _⟩, rfl, q _ _ rfl (J.hok.fresh (Nat.le_refl _))⟩
variable {o e : Expr} {es : List Expr} {to : TE} {t : TA} {apos cpos : Pos} {r : V → List V → Hp → VK → Prop}
def tTix (r : V → List V → Hp → VK → Prop) (to : TE) (t : TA) : TE := fun σ H Q => to σ H fun x H1 => (∃ p ob xs, x = .ref p ∧ H1 p = some (.frz ob (.tup xs)) ∧ ob.dict = none) ∧ t σ H1 fun xs H2 => r x xs H2 Q
/-- t.index(x) of such a tuple -/
theorem pe_tix (hm : MtR X "tuple.index" r) (ho : PE X o to) (ha : PA X (e :: es) t) (hbase : attributeBase o "index" X.env (eval o X.env) = eval o X.env := by rfl)
    (hfew : ((backTo cpos (starEach (e :: es) X.env)).all (fun x => !x.1) && (backToKw cpos (keywordEach [] X.env)).all (fun x => x.1.isSome)
      && decide ((e :: es).length + ([] : List Keyword).length + (if ([] : List Keyword).isEmpty then 0 else 1) < 30)) = true := by rfl)
    (hline : (apos.endLine == cpos.line) = true := by rfl) (hs : starEach (e :: es) X.env = (false, eval e X.env) :: starEach es X.env := by rfl) (hplain : (backTo cpos (starEach es X.env)).any (·.1) = false := by rfl) :
    PE X (.Call (.Attribute o "index" apos) (e :: es) [] cpos) (tTix r to t) := by
  refine ⟨fun pins s σ H Q I h => wpAny_Call_method_late hbase hfew hline rfl (thn (ho.run pins s σ H _ I h) fun v s1 ⟨x, H1, I1, r1, ⟨p, ob, xs, ex, hp, hob⟩, q1⟩ => ?_)⟩
  subst ex
  obtain rfl : v = Value.ref p := r1
  obtain ⟨hg, _, its, _, tp⟩ := (show ObjOk X.prog X.w H1 s1.heap p (.frz ob (.tup xs)) from I1.hok p _ hp)
  obtain ⟨o2, g2, c2, _⟩ := tp
  have go := ha.run cpos pins s1 σ H1 _ I1 q1
  rw [hs] at go ⊢
  refine ⟨"tuple", "tuple.index", PySem.F.plainAttrs_tuple, PySem.F.slot_tuple_index, PySem.F.type_tuple_index, ⟨o2, g2, c2⟩, fun a ea => ?_, ?_⟩
  · cases ea
    exact ⟨ob, hg, hob⟩
  · refine Calls.callWith_builtin (by show (false || (backTo cpos (starEach es X.env)).any (·.1)) = false; rw [hplain] <;> rfl) (Calls.evalArgs_plain ?_)
    exact thn go fun us s2 ⟨ws, H2, I2, r2, q2⟩ => hm pins s2 σ H2 (.ref p) ws _ us Q I2 rfl r2 q2
end
end GX

-- text Dct
set_option maxRecDepth 100000
set_option maxHeartbeats 4000000
/-! Dct: dicts with texts for keys. -/
namespace GX
open PySem PySem.Spec PyProof.Rows L2 LamX
abbrev SD (α : Type) := List (Str × α)
/-- the entries of a dict -/
def ents {α : Type} (f : α → V) (cs : SD α) : List (L2.Key × V) := cs.map fun p => (Sum.inr p.1, f p.2)
def look {α : Type} (cs : SD α) (n : Str) : Option α := (cs.find? fun p => decide (p.1 = n)).map (·.2)
theorem valV_ents {α : Type} (f : α → V) (n : Str) : ∀ cs : SD α, valV (ents f cs) (Sum.inr n) = (look cs n).map f
  | [] => rfl
  | p :: r => by
    show valV ((Sum.inr p.1, f p.2) :: ents f r) (Sum.inr n) = _
    by_cases h : p.1 = n
    · rw [valV_pos (by rw [h])]
      unfold look
      rw [List.find?_cons_of_pos (by simpa using h)]
      rfl
    · rw [valV_neg (by simpa using h), valV_ents f n r]
      unfold look
      rw [List.find?_cons_of_neg (by simpa using h)]
theorem ents_keys {α : Type} (f : α → V) (cs : SD α) : (ents f cs).map (·.1) = (cs.map (·.1)).map Sum.inr := by
  unfold ents
  rw [List.map_map, List.map_map]
  rfl
theorem ents_len {α : Type} (f : α → V) (cs : SD α) : (ents f cs).length = cs.length := by unfold ents; rw [List.length_map]
theorem look_mem {α : Type} {cs : SD α} {n : Str} (h : n ∈ cs.map (·.1)) : ∃ v, look cs n = some v ∧ (n, v) ∈ cs := by
  obtain ⟨p, hp, rfl⟩ := List.mem_map.mp h
  cases e : cs.find? fun q => decide (q.1 = p.1) with
  | none =>
    have := List.find?_eq_none.mp e p hp
    simp at this
  | some q =>
    have h1 := List.mem_of_find?_eq_some e
    have h2 := List.find?_some e
    have h2 : q.1 = p.1 := by simpa using h2
    refine ⟨q.2, by unfold look; rw [e]; rfl, ?_⟩
    rw [← h2]
    exact h1
theorem look_of {α : Type} {cs : SD α} (hn : (cs.map (·.1)).Nodup) {p : Str × α} (h : p ∈ cs) : look cs p.1 = some p.2 := by
  obtain ⟨v, h1, h2⟩ := look_mem (List.mem_map.mpr ⟨p, h, rfl⟩)
  rw [h1]
  obtain ⟨i, hi, e1⟩ := List.mem_iff_getElem.mp h
  obtain ⟨j, hj, e2⟩ := List.mem_iff_getElem.mp h2
  have hij : i = j := by
    have a : (cs.map (·.1))[i]'(by rw [List.length_map]; exact hi) = (cs.map (·.1))[j]'(by rw [List.length_map]; exact hj) := by
      rw [List.getElem_map, List.getElem_map, e1, e2]
    exact (List.getElem_inj hn).mp a
  subst hij
  rw [e1] at e2
  rw [e2]
theorem look_none {α : Type} {cs : SD α} {n : Str} (h : ¬ n ∈ cs.map (·.1)) : look cs n = none := by
  unfold look
  have : cs.find? (fun p => decide (p.1 = n)) = none := List.find?_eq_none.mpr fun p hp z => h (List.mem_map.mpr ⟨p, hp, by simpa using z⟩)
  rw [this]
  rfl
/-- read at a name, whether the dict is locked or not -/
theorem dget_rd {α : Type} {f : α → V} {cs : SD α} {H : Hp} {a : Addr} {n : Str} {v : α} (h : Rd H a (.dK (ents f cs))) (e : look cs n = some v) : DGet H a (.str n) (some (f v)) :=
  .inl ⟨_, Sum.inr n, h, rfl, by rw [valV_ents, e]; rfl⟩
theorem dget_of {α : Type} {f : α → V} {cs : SD α} {H : Hp} {a : Addr} {n : Str} {v : α} (h : H a = some (.dK (ents f cs))) (e : look cs n = some v) : DGet H a (.str n) (some (f v)) := dget_rd (.inl h) e
section
variable {T : List (Addr × Str)} {H H' : Hp} {d : Addr} {u : HO} {o : Obj}
theorem tabs_lock (t : Tabs T H) (hd : H d = some u) (hu : PlainO u) : Tabs T (upd H d (.frz o u)) := tabs_upd t fun v e => by rw [hd] at e; cases e; exact hu
theorem Le.unlock (hd : H d = some u) (hu : PlainO u) (x : Le T (L2.upd H d (.frz o u)) H') : Le T H (L2.upd H' d u) := by
  have h1 : H' d = some (.frz o u) := x.at upd_same
  refine ⟨fun b v e n => ?_, tabs_upd x.tab fun v e => by rw [h1] at e; cases e; trivial, fun b e => ?_⟩
  · by_cases hb : b = d
    · subst hb
      rw [hd] at e
      cases e
      exact upd_same
    · rw [upd_ne hb]
      exact x.ext b v (by rw [upd_ne hb]; exact e) n
  · have nb : b ≠ d := fun z => by rw [z, upd_same] at e; cases e
    have e1 : L2.upd H d (.frz o u) b = none := x.no b (upd_none2 e)
    rw [upd_ne nb] at e1
    exact e1
/-- what stands beside stands within the lock -/
theorem at_lock {a : Addr} {v : HO} (h : H a = some v) (n : a ≠ d) : upd H d (.frz o u) a = some v := (upd_ne n).trans h
end
/-- b begins a -/
def begins (a b : List Nat) : Bool := decide (a.take b.length = b)
theorem starts_eq (a b : List Nat) : Txt.startswith (S a) (S b) = begins a b := by
  have e : Txt.startswith (S a) (S b) = (decide (0 + (S b).length ≤ (S a).length) && ((S a).cps.extract 0 (0 + (S b).length) == (S b).cps)) := rfl
  rw [e, S_len, S_len, Nat.zero_add]
  unfold begins
  have h : ((S a).cps.extract 0 b.length == (S b).cps) = decide (a.take b.length = b) := by
    have : (S a).cps.extract 0 b.length = (a.take b.length).toArray := by simp [S]
    rw [this]
    by_cases q : a.take b.length = b
    · rw [q, decide_eq_true rfl]
      exact beq_self_eq_true _
    · rw [decide_eq_false q]
      apply beq_false_of_ne
      intro z
      exact q (by simpa [S] using congrArg Array.toList z)
  rw [h]
  by_cases q : a.take b.length = b
  · have : b.length ≤ a.length := by
      have := congrArg List.length q
      rw [List.length_take] at this
      omega
    rw [decide_eq_true this]
    rfl
  · rw [decide_eq_false q, Bool.and_false]
end GX

-- text Any1
set_option maxRecDepth 100000
set_option maxHeartbeats 4000000
/-! Any1: the reading of any(.. for x in xs), xs a list that stands. -/
namespace GX
open PySem PySem.Spec PyProof.Rows L2 LamX
section
variable {T : List (Addr × Str)} {K : PySem.W.Frag} {g : TG} {te : TE} {vs : List Nat} {σ : L2.St} {H : Hp} {Qt Qf : Hp → Prop}
/-- what a turn leaves -/
theorem any_close {pb : Nat → Bool} {i : Nat} {c : Bool} {H4 : Hp} {A : Prop} (hc : c = pb i) (h0 : ∀ j, j < i → pb j = false) (L : Le T H H4) (ht : pb i = true → A) :
    if c = true then A else Le T H H4 ∧ ∀ j, j < i + 1 → pb j = false := by
  subst hc
  cases e : pb i with
  | true => exact iteT (ht e)
  | false =>
    refine iteF ⟨L, fun j hj => ?_⟩
    by_cases hji : j = i
    · rw [hji, e]
    · exact h0 j (by omega)
theorem genAny_list {a : Addr} {xs : List V} (pb : Nat → Bool) (hs : SqL K H a xs)
    (step : ∀ i x H', xs[i]? = some x → (∀ j, j < i → pb j = false) → Le T H H' → g x (wipe σ vs) H' fun σ2 H3 => wipe σ2 vs = wipe σ vs ∧ te σ2 H3 fun y H4 => ∃ c, y = .bl c ∧ if c = true then Qt H4 else Le T H H4 ∧ ∀ j, j < i + 1 → pb j = false)
    (fin : ∀ H', Le T H H' → (∀ j, j < xs.length → pb j = false) → Qf H') :
    ∀ H2, ExtN H H2 → Tabs T H2 → (∀ b, H2 b = none → H b = none) → ∃ (n₀ : Nat) (W : Nat → Hp → Prop), W 0 H2 ∧
      (∀ i H, i < n₀ → W i H → (Itl K a).go i H ∧ ∀ x H', (Itl K a).yld i H x H' → g x (wipe σ vs) H' fun σ2 H3 => wipe σ2 vs = wipe σ vs ∧ te σ2 H3 fun y H4 => ∃ c, y = .bl c ∧ if c = true then Qt H4 else W (i + 1) H4) ∧
      (∀ H, W n₀ H → (Itl K a).stop n₀ H ∧ Qf H) := by
  intro H2 hE hT2 hno2
  refine ⟨xs.length, fun i H' => Le T H H' ∧ ∀ j, j < i → pb j = false, ⟨⟨hE, hT2, hno2⟩, fun j h => absurd h (Nat.not_lt_zero j)⟩, fun i H3 hi ⟨L3, h3⟩ => ⟨Itl_go (L3.seqL hs) hi, fun x H4 y => ?_⟩, fun H3 ⟨L3, h3⟩ => ⟨Itl_stop (L3.seqL hs) (Nat.le_refl _), fin H3 L3 h3⟩⟩
  obtain ⟨rfl, hx⟩ := Itl_yld (L3.seqL hs) y
  exact step i x _ hx h3 L3
end
theorem getD_of {α : Type} {l : List α} {i : Nat} {x d : α} (h : l[i]? = some x) : l.getD i d = x := by rw [List.getD_eq_getElem?_getD, h]; rfl
end GX

-- text Lp2
set_option maxRecDepth 100000
set_option maxHeartbeats 4000000
/-! Lp2: walks over the signs of a text. -/
namespace GX
open PySem PySem.Spec PyProof.Rows L2 LamX
theorem lc_txt {g : TG} {tt : TT} {te : TE} {vs : List Nat} {σ : L2.St} {H1 : Hp} {D : Addr} {Qd : Hp → Prop} (l : List Nat) (Pv : Nat → Hp → Prop) (h0 : Pv 0 (upd H1 D (.lst [])))
    (hs : ∀ i c H, l[i]? = some c → Pv i H → g (.str (S [c])) (wipe σ vs) H fun σ2 H2 => wipe σ2 vs = wipe σ vs ∧ tt σ2 H2 fun b H3 =>
      if b = true then te σ2 H3 fun y H4 => ∃ acc, H4 D = some (.lst acc) ∧ acc.length < sizeLine ∧ Pv (i + 1) (upd H4 D (.lst (acc ++ [y]))) else Pv (i + 1) H3)
    (hd : ∀ H, Pv l.length H → Qd H) :
    ∃ W : Nat → Nat → Hp → Prop, (∃ m, W 0 m (upd H1 D (.lst []))) ∧ ∀ i m H, W i m H →
      ((Its (S l)).stop i H ∧ Qd H) ∨ ((Its (S l)).go i H ∧ ∃ Nx : Hp → Prop, (∀ H', Nx H' → ∃ m', m' < m ∧ W (i + 1) m' H') ∧ ∀ x H', (Its (S l)).yld i H x H' → g x (wipe σ vs) H' fun σ2 H2 => wipe σ2 vs = wipe σ vs ∧ tt σ2 H2 fun b H3 =>
        if b = true then te σ2 H3 fun y H4 => ∃ acc, H4 D = some (.lst acc) ∧ acc.length < sizeLine ∧ Nx (upd H4 D (.lst (acc ++ [y]))) else Nx H3) := by
  refine lc_n l.length Pv h0 (fun i H hi p => ⟨?_, ?_⟩) (fun H p => ⟨?_, hd H p⟩)
  · show i < (S l).cps.size
    simpa [S] using hi
  · rintro x H' ⟨rfl, c, hc, rfl⟩
    exact hs i c _ (by simpa [S] using hc) p
  · show (S l).cps.size ≤ l.length
    simp [S]
theorem for_txt {g : TG} {tb : TS} {D : Ends} {σ : L2.St} {H : Hp} (l : List Nat) (Pv : Nat → L2.St → Hp → Prop) (h0 : Pv 0 σ H)
    (hs : ∀ i c σ H, l[i]? = some c → Pv i σ H → g (.str (S [c])) σ H fun σ2 H2 => tb { D with nx := Pv (i + 1), ct := Pv (i + 1), bk := D.nx } σ2 H2)
    (hd : ∀ σ H, Pv l.length σ H → D.nx σ H) :
    ∃ W : Nat → Nat → L2.St → Hp → Prop, (∃ m, W 0 m σ H) ∧ ∀ i m σ H, W i m σ H →
      ((Its (S l)).stop i H ∧ D.nx σ H) ∨ ((Its (S l)).go i H ∧ ∃ N : L2.St → Hp → Prop, (∀ σ' H', N σ' H' → ∃ m', m' < m ∧ W (i + 1) m' σ' H') ∧ ∀ x H', (Its (S l)).yld i H x H' → g x σ H' fun σ2 H2 => tb { D with nx := N, ct := N, bk := D.nx } σ2 H2) := by
  refine for_n l.length Pv h0 (fun i σ H hi p => ⟨?_, ?_⟩) (fun σ H p => ⟨?_, hd σ H p⟩)
  · show i < (S l).cps.size
    simpa [S] using hi
  · rintro x H' ⟨rfl, c, hc, rfl⟩
    exact hs i c σ _ (by simpa [S] using hc) p
  · show (S l).cps.size ≤ l.length
    simp [S]
/-- the same without a test -/
theorem lc_txtY {g : TG} {te : TE} {vs : List Nat} {σ : L2.St} {H1 : Hp} {D : Addr} {Qd : Hp → Prop} (l : List Nat) (Pv : Nat → Hp → Prop) (h0 : Pv 0 (upd H1 D (.lst [])))
    (hs : ∀ i c H, l[i]? = some c → Pv i H → g (.str (S [c])) (wipe σ vs) H fun σ2 H2 => wipe σ2 vs = wipe σ vs ∧ te σ2 H2 fun y H4 => ∃ acc, H4 D = some (.lst acc) ∧ acc.length < sizeLine ∧ Pv (i + 1) (upd H4 D (.lst (acc ++ [y]))))
    (hd : ∀ H, Pv l.length H → Qd H) (hm : ∀ v σ H Q Q', (∀ σ H, Q σ H → Q' σ H) → g v σ H Q → g v σ H Q') :
    ∃ W : Nat → Nat → Hp → Prop, (∃ m, W 0 m (upd H1 D (.lst []))) ∧ ∀ i m H, W i m H →
      ((Its (S l)).stop i H ∧ Qd H) ∨ ((Its (S l)).go i H ∧ ∃ Nx : Hp → Prop, (∀ H', Nx H' → ∃ m', m' < m ∧ W (i + 1) m' H') ∧ ∀ x H', (Its (S l)).yld i H x H' → g x (wipe σ vs) H' fun σ2 H2 => wipe σ2 vs = wipe σ vs ∧ tYes σ2 H2 fun b H3 =>
        if b = true then te σ2 H3 fun y H4 => ∃ acc, H4 D = some (.lst acc) ∧ acc.length < sizeLine ∧ Nx (upd H4 D (.lst (acc ++ [y]))) else Nx H3) :=
  lc_txt l Pv h0 (fun i c H hc p => hm _ _ _ _ _ (fun σ2 H2 ⟨e, z⟩ => ⟨e, @iteT _ (Pv (i + 1) H2) z⟩) (hs i c H hc p)) hd
theorem mono_name {i : Nat} : ∀ v σ H Q Q', (∀ σ H, Q σ H → Q' σ H) → gName i v σ H Q → gName i v σ H Q' := fun _ _ _ _ _ h z => h _ _ z
theorem lenS_one {c : Nat} : (S [c]).length ≤ 640 := by rw [S_len]; exact Nat.le_trans (Nat.le_refl 1) (by decide)
theorem take_snoc {α : Type} {l : List α} {i : Nat} {c : α} (h : l[i]? = some c) : l.take (i + 1) = l.take i ++ [c] := by rw [List.take_add_one, h]; rfl
end GX

-- text DcU
set_option maxRecDepth 100000
set_option maxHeartbeats 4000000
/-! DcS: y = {..} as a statement; any(..) over a tuple that stands. -/
namespace GX
open PySem PySem.Spec PyProof.Rows L2 LamX
section
variable {X : Cx}
theorem sw_dict {kx vx : Expr} {gs : List Comprehension} {scope : Scope} {pos py : Pos} {y : Str} {l : Nat} {env : Env} (hk : env.scope.kind = .function) (hy : env.scope.names.lookup y = some .local) (hl : (py.line == pos.line) = true)
    (ha : (scope.names.any fun (n, k) => n == y && (k == .local || k == .cell)) = false) : swapsWith (.DictComp kx vx gs scope pos) (some (.Name y py)) l env = pure true := by
  have hb : env.blockKind = .function := by unfold Env.blockKind; rw [hk]; rfl
  have ky : env.kindOf y = some .local := hy
  unfold swapsWith
  simp only [hb, ky, ha, Expr.pos, hl]
  rfl
/-- y = {k: v for target in iter if ..}, y a local -/
theorem ps_setDc {i : Nat} {y : Str} {py spos : Pos} {kx vx tg iter : Expr} {ifs : List Expr} {scope : Scope} {own : List (Str × Nat)} {pos : Pos} {wi : TI} {g : TG} {tt : TT} {tk tv : TE} (hc : X.calm = true) (hN : X.N.Nodup) (hy : X.N[i]? = some y) (hyl : X.env.scope.names.lookup y = some .local)
    (hsw : swapsWith (.DictComp kx vx [⟨tg, iter, ifs, 0⟩] scope pos) (some (.Name y py)) spos.line X.env = pure true) (hi : PI X tg iter wi) (ok : BlkOk X.N X.env.scope scope own)
    (hg : ∀ (s : Shared) (H : Hp) (C : Addr) (cl : List (Str × Addr)) (fp : List Addr), PG (X.blk s H scope (compEnvC scope cl C X.env) fp) tg g) (ht : ∀ (s : Shared) (H : Hp) (C : Addr) (cl : List (Str × Addr)) (fp : List Addr), PTs (X.blk s H scope (compEnvC scope cl C X.env) fp) ifs tt)
    (hk : ∀ (s : Shared) (H : Hp) (C : Addr) (cl : List (Str × Addr)) (fp : List Addr), PE (X.blk s H scope (compEnvC scope cl C X.env) fp) kx tk)
    (he : ∀ (s : Shared) (H : Hp) (C : Addr) (cl : List (Str × Addr)) (fp : List Addr), PE (X.blk s H scope (compEnvC scope cl C X.env) fp) vx tv) (hs : ∀ x, foldedSetIterable iter X.env x = pure x := by intro _; rfl) :
    PS X (.Assign [.Name y py] (.DictComp kx vx [⟨tg, iter, ifs, 0⟩] scope pos) spos) (tAsg (tDc wi g tt tk tv (own.map (·.2))) (gName i)) := by
  refine ⟨fun pins s σ H D I h => ?_⟩
  rw [exec_Assign_Name_used _ _ _ _ hsw]
  refine wpAny_bind (wpAny_standAt (wpAny_bind ?_))
  show wpAny _ X.A (do let _ ← comprehension (.DictComp kx vx [⟨tg, iter, ifs, 0⟩] scope pos) scope X.env (firstIterPos [⟨tg, iter, ifs, 0⟩] pos) newDict false (eval iter X.env) (some (assign (.Name y py) X.env))) _ _ s
  refine wpAny_bind (thn (dc_core (Q := fun x H1 => gName i x σ H1 D.nx) (Qf := fun _ z => SP X pins D .next z) hc hN I hi ok hg ht hk he hs h fun L C z m H' J q hn f => ?_) fun _ _ q => wpAny_pure (wpAny_pure q))
  obtain ⟨k0, k1, k2, k3, k4, k5⟩ := f
  show wpAny _ _ (assign (.Name y py) X.env (.ref L)) _ _ _
  refine wpAny_assign_Name (store_ok2 (v := V.ref L) J hN hy (.inl hyl) rfl (fun z2 J2 ⟨a, sb, ha⟩ => ⟨m, hn.sameBut sb (ha.elim (fun e => by rw [e]; exact k1) fun e z => k4 y a e z.symm), fun g3 sb3 => ?_⟩) (.inr hyl))
  exact ⟨_, H', J2.turned (t' := z2.toks) (fun b o hb e => (sb3.2 b hb).trans e) k0 k1 k3 k4 k5, q⟩
end
section
variable {T : List (Addr × Str)} {K : PySem.W.Frag} {g : TG} {te : TE} {vs : List Nat} {σ : L2.St} {H : Hp} {Qt Qf : Hp → Prop}
theorem genAny_tup {a : Addr} {xs : List V} (pb : Nat → Bool) (hs : SqT K H a xs)
    (step : ∀ i x H', xs[i]? = some x → (∀ j, j < i → pb j = false) → Le T H H' → g x (wipe σ vs) H' fun σ2 H3 => wipe σ2 vs = wipe σ vs ∧ te σ2 H3 fun y H4 => ∃ c, y = .bl c ∧ if c = true then Qt H4 else Le T H H4 ∧ ∀ j, j < i + 1 → pb j = false)
    (fin : ∀ H', Le T H H' → (∀ j, j < xs.length → pb j = false) → Qf H') :
    ∀ H2, ExtN H H2 → Tabs T H2 → (∀ b, H2 b = none → H b = none) → ∃ (n₀ : Nat) (W : Nat → Hp → Prop), W 0 H2 ∧
      (∀ i H, i < n₀ → W i H → (Itt K a).go i H ∧ ∀ x H', (Itt K a).yld i H x H' → g x (wipe σ vs) H' fun σ2 H3 => wipe σ2 vs = wipe σ vs ∧ te σ2 H3 fun y H4 => ∃ c, y = .bl c ∧ if c = true then Qt H4 else W (i + 1) H4) ∧
      (∀ H, W n₀ H → (Itt K a).stop n₀ H ∧ Qf H) := by
  intro H2 hE hT2 hno2
  refine ⟨xs.length, fun i H' => Le T H H' ∧ ∀ j, j < i → pb j = false, ⟨⟨hE, hT2, hno2⟩, fun j h => absurd h (Nat.not_lt_zero j)⟩, fun i H3 hi ⟨L3, h3⟩ => ⟨Itt_go (L3.seqT hs) hi, fun x H4 y => ?_⟩, fun H3 ⟨L3, h3⟩ => ⟨Itt_stop (L3.seqT hs) (Nat.le_refl _), fin H3 L3 h3⟩⟩
  obtain ⟨rfl, hx⟩ := Itt_yld (L3.seqT hs) y
  exact step i x _ hx h3 L3
end
end GX

-- text LcX
set_option maxRecDepth 100000
set_option maxHeartbeats 4000000
/-! LcX: list comprehensions whose element may let an exception out of the def. -/
namespace GX
open PySem PySem.Spec PyProof.Rows L2 LamX
/-- how a comprehension's block ends, the frame told -/
def pastC (M : Model) (A : Around) (E : Value → Shared → Prop) (use : Option (Value → Sem Unit)) (Q : Value → Shared → Prop) (acc : Value) (C : Addr) (Fr : Option Addr) (r : Result) (z : Shared) : Prop :=
  match r with
  | .ok f => compPost M A E use Q acc C (.ok f) z
  | .error x => ∃ m, z.heap.Ns C m ∧ ∀ g, Heap.SameBut C z.heap g → ∀ ce : Env, ce.locals = C → ce.frame = Fr → wpAny M A (PySem.passOn "comprehension.variables-let-go" x ce : Sem Value) (fun _ _ => False) E { z with heap := g }
theorem comp_framed {M : Model} {A : Around} {E : Value → Shared → Prop} {z0 : Shared} {ev : Env} {e : Expr} {scope : Scope} {pos : Pos} {newAcc first : Sem Value} {g : Comprehension} {gs : List Comprehension} {cl : List (Str × Addr)} {use : Option (Value → Sem Unit)} {Q : Value → Shared → Prop}
    (hcl : clausesOf e = g :: gs) (hs : ∀ x, foldedSetIterable g.iter ev x = pure x) (hclos : closureFor scope ev = pure cl) (hkind : scope.kind = .function) (hn0 : ∀ x ∈ scope.names, x.2 = .local → scope.names.lookup x.1 = some .local)
    (h : wpAny M A first (fun x z1 => wpAny M A (pyIter x) (fun it z2 => wpAny M A newAcc (fun acc z3 => wpAny M A (newFunctionEnv scope ev.globals cl [] ev.qual none .none (some ev)) (fun ce z4 =>
        codeAny M A (.compStart e 0 it acc { ce with scope := relabel scope ev }) (pastC M A E use Q acc ce.locals ce.frame) z4) E z3) E z2) E z1) E z0) :
    wpAny M A (comprehension e scope ev pos newAcc false first use) Q E z0 := by
  unfold comprehension
  rw [hclos, hcl]
  refine wpAny_bind (wpAny_mono h (fun x z1 k1 => wpAny_bind (wpAny_standAt (wpAny_bind (wpAny_of_eq (hs x) (wpAny_bind (wpAny_holding (wpAny_mono k1 (fun it z2 k2 =>
    wpAny_standIf (wpAny_bind (wpAny_mono k2 (fun acc z3 k3 => wpAny_bind (wpAny_pure (wpAny_bind (wpAny_mono k3 (fun ce z4 k4 => ?_) fun _ _ y => y)))) fun _ _ y => y))) fun _ _ y => y))))))) fun _ _ y => y)
  dsimp only
  have own : ∀ x ∈ (scope.names.filter fun x => (x.2 == .local || x.2 == .cell) && x.1 != (".0" : Str)).reverse, x.2 = .local → Env.kindOf { ce with scope := relabel scope ev } x.1 = some .local :=
    fun x hx hl => lookup_relabel_local (hn0 x (List.mem_filter.mp (List.mem_reverse.mp hx)).1 hl)
  refine wpAny_holding (wpAny_bind (wpAny_attempt (wpAny_holding (wpAny_run (codeAny_mono k4 fun r z5 kr => ?_)))))
  cases r with
  | ok f =>
    cases use with
    | none =>
      obtain ⟨m, hn, kr⟩ := kr
      exact wpAny_bind (wpAny_holding (wpAny_comp_letGo (cenv := { ce with scope := relabel scope ev }) hkind _ z5 m own hn fun g1 _ _ sb => wpAny_pure (kr g1 sb)))
    | some u =>
      refine wpAny_bind (wpAny_rule (wpAny_bind (wpAny_holding (wpAny_mono kr (fun _ z6 k6 => ?_) fun _ _ y => y))))
      obtain ⟨m, hn, k7⟩ := k6
      exact wpAny_bind (wpAny_comp_letGo (cenv := { ce with scope := relabel scope ev }) hkind _ z6 m (fun x hx hl => (List.mem_append.mp hx).elim (fun q => own x (List.mem_of_mem_drop q) hl) fun q => own x (List.mem_of_mem_take q) hl) hn fun g1 _ _ sb => wpAny_pure (k7 g1 sb))
  | error x =>
    obtain ⟨m, hn, kr⟩ := kr
    exact wpAny_bind (wpAny_holding (wpAny_comp_letGo (cenv := { ce with scope := relabel scope ev }) hkind _ z5 m own hn
      fun g1 _ _ sb => wpAny_mono (kr g1 sb _ rfl rfl) (fun _ _ f => f.elim) fun _ _ y => y))
theorem note_frame {a b : Env} (h : a.frame = b.frame) (e : Value) : noteFrame e a = noteFrame e b := by
  unfold noteFrame PySem.frameOf
  rw [h]
section
variable {X : Cx} {pins : List (Addr × Obj)} {σ : L2.St} {H : Hp} {s s' : Shared} {E : XK} {C : Addr}
/-- an exception in the air of a comprehension's block; C is the block's own dict -/
def AirB (X : Cx) (pins : List (Addr × Obj)) (E : XK) (C : Addr) (u : Value) (s' : Shared) : Prop :=
  ∃ oC, (∃ es ep, oC.data = .dict es ep ∧ StrKeys es) ∧ L2.XE (X.tr ((C, oC) :: (X.pn ++ pins)) fun _ _ => False) (fun cls d _ H => E cls d H) u s'
theorem air_of (I : Inv X pins σ H s) (f : FpOk X pins H C) {m : Str → Option Value} (hn : s.heap.Ns C m) {u : Value} (c : L2.CX X.prog X.w X.stack H s E u s') : AirB X pins E C u s' := by
  obtain ⟨o, es, ep, ho, hd, sk, _⟩ := hn
  refine ⟨o, ⟨es, ep, hd, sk⟩, ?_⟩
  have J : Inv (X.tr ((C, o) :: (X.pn ++ pins)) fun _ _ => False) [] σ H s := ⟨I.ok.toTry _ _, I.os, I.bare, I.base, I.loc, I.cell, I.free, I.freeC, fun p hp => by
    rw [List.append_nil] at hp
    rcases List.mem_cons.mp hp with e | hp
    · rw [e]
      exact ⟨ho, f.1, f.2.1, f.2.2.1, fun v z => by rw [hd] at z; cases z⟩
    · exact I.pin p hp, I.hok, I.len⟩
  exact XE.of_call (X := X.tr ((C, o) :: (X.pn ++ pins)) fun _ _ => False) (W := fun cls d _ H => E cls d H) J (fun _ _ _ h => h) c
theorem air_out (ok : X.Ok) (hs : X.stack = X.env :: X.outer) (hf : X.env.frame = some X.env.locals) (tk : L2.Takes X (fun cls d _ H => E cls d H))
    (st : C ≠ X.env.locals ∧ C ∉ X.fs ∧ (C ∈ X.ex ∨ X.s_0.heap.objs.size ≤ C) ∧ (∀ x c, X.env.cells.lookup x = some c → c ≠ C) ∧ ∀ p ∈ X.pn ++ pins, p.1 ≠ C) {ce : Env} (hce : ce.frame = X.env.frame) {use : Option (Value → Sem Unit)} {Q : Value → Shared → Prop} {acc : Value} {u : Value}
    (x : AirB X pins E C u s') : notedBy (model X.prog X.w) X.A ce (fun e z => pastC (model X.prog X.w) X.A X.xe use Q acc C ce.frame (.error e) z) u s' := by
  obtain ⟨oC, ⟨es, ep, hdC, sk⟩, a, B, sI, pins', σ', H', cls, d, rfl, I, nb, up, sky, na, os, ag, w⟩ := x
  obtain ⟨c1, c2, c3, c4, c5⟩ := st
  have pC := I.pin (C, oC) (List.mem_append_left _ List.mem_cons_self)
  have hfr : X.A.frames = some (X.env :: X.outer) := by rw [ok.frames, hs]
  have nCf : C ∉ frs X.stack := fun hm => by
    rcases List.mem_cons.mp (I.stkSub C hm) with z | z
    · exact c1 z
    · exact c2 z
  have bC : B.get? C = some oC := nb C oC pC.1 nCf
  unfold notedBy
  rw [note_frame hce]
  rw [hs] at sky
  -- noted by our own frame
  suffices fin : ∀ h1, HandSPX.HeldZ B (X.env :: X.outer) a (Zc cls d) X.env.locals h1 → s'.heap.UpToSlots h1 → pastC (model X.prog X.w) X.A X.xe use Q acc C ce.frame (.error (.ref a)) { s' with heap := h1 } by
    rcases sky with ⟨hB, hn, hl, oe, vs, he, hz, hd, h1⟩ | fl | hh
    · exact HandSPX.look_newZ Zc.steady hfr hl hf he hB hn hd h1 hz fin
    · exact HandSPX.looks_onZ Zc.steady hfr hf fl fin
    · exact HandSPX.againZ hf hh.2.2.2 (fin s'.heap hh (Heap.UpToSlots.refl _))
  intro h1 hh up1
  have nsC : sI.heap.Ns C (fun x => nsFind es x) := ⟨oC, es, ep, pC.1, hdC, sk, fun _ => rfl⟩
  refine ⟨_, Heap.UpToSlots.ns up1 (Heap.UpToSlots.ns up nsC), fun g sb ce' hl' hf' => ?_⟩
  obtain ⟨g1, g2, g3, oe, vs, T, oT, ts, he, hz, hd, h1v, hnT, hTe, hT, hdT, h3⟩ := hh
  have aC : a ≠ C := fun z => by rw [z, bC] at g2; cases g2
  have TC : T ≠ C := fun z => by rw [z, bC] at hnT; cases hnT
  have B2 : ∀ b o, (PySem.W.hideAll B [C]).get? b = some o → B.get? b = some o ∧ b ≠ C := fun b o e => ⟨PySem.W.of_hideAll _ e, fun z => by
    have := PySem.W.hideAll_none (h := B) _ (show b ∈ [C] by rw [z]; exact List.mem_singleton.mpr rfl)
    rw [this] at e; cases e⟩
  have B2n : ∀ b, B.get? b = none → (PySem.W.hideAll B [C]).get? b = none := fun b e => by
    cases q : (PySem.W.hideAll B [C]).get? b with
    | none => rfl
    | some o => rw [(B2 b o q).1] at e; cases e
  have FF : ∀ {l : List Env}, h1.FunFrames B l → g.FunFrames (PySem.W.hideAll B [C]) l := fun {l} => by
    induction l with
    | nil => exact fun _ => trivial
    | cons ev l ih =>
      rintro ⟨k1, ⟨L, o, f1, f2, f3, f4⟩, k3⟩
      exact ⟨k1, ⟨L, o, f1, B2n L f2, (sb.2 L fun z => by rw [z, bC] at f2; cases f2).trans f3, f4⟩, ih k3⟩
  have st2 : (PySem.W.hideAll B [C]).StaysIn g := fun b o e => (sb.2 b (B2 b o e).2).trans (g1 b o (B2 b o e).1)
  have he2 : g.get? a = some oe := (sb.2 a aC).trans he
  have hT2 : g.get? T = some oT := (sb.2 T TC).trans hT
  have tz : HandSPX.TracedZ g (PySem.W.hideAll B [C]) a (Zc cls d) (rawInt X.env.locals) := ⟨oe, vs, T, oT, ts, he2, hz, hd, h1v, B2n T hnT, hTe, hT2, hdT, h3⟩
  unfold PySem.passOn
  refine wpAny_bind (wpAny_field he2 hd h1v ?_)
  rw [if_neg (show ¬ ((Value.ref T == Value.none) = true) from by simp)]
  refine wpAny_bind (HandSPX.setFlight_anyZ st2 (FF g3) tz fun h2 k1 k2 k3 k4 => ?_)
  refine wpAny_throw (tk _ _ ?_)
  have hfl : ce'.frame = some X.env.locals := by rw [hf', hce, hf]
  rw [hfl] at k3
  -- the state without it
  have J : Inv X [] σ' H' sI := ⟨ok, I.os, I.bare, I.base, I.loc, I.cell, I.free, I.freeC, fun p hp => I.pin p (List.mem_append_left _ (List.mem_cons_of_mem _ (List.mem_append_left _ (by rw [List.append_nil] at hp; exact hp)))), I.hok, I.len⟩
  have J2 := J.turned (t' := sI.toks) (h' := PySem.W.hideAll sI.heap [C]) (it := C) (fun b o hb e => PySem.W.hideAll_get _ e (by rw [List.mem_singleton]; exact hb)) pC.2.1 c1 c3 c4 (fun p hp => c5 p (List.mem_append_left _ (by rw [List.append_nil] at hp; exact hp)))
  have hid : ∀ b o, (PySem.W.hideAll sI.heap [C]).get? b = some o → sI.heap.get? b = some o ∧ b ≠ C := fun b o e => ⟨PySem.W.of_hideAll _ e, fun z => by
    have := PySem.W.hideAll_none (h := sI.heap) _ (show b ∈ [C] by rw [z]; exact List.mem_singleton.mpr rfl)
    rw [this] at e; cases e⟩
  refine ⟨a, PySem.W.hideAll B [C], _, [], σ', H', cls, d, rfl, J2, fun b o e hb => ?_, fun b o e hnf => ?_, .inr (.inr ?_), na, os, ag, w⟩
  · exact PySem.W.hideAll_get _ (nb b o (hid b o e).1 hb) (by rw [List.mem_singleton]; exact (hid b o e).2)
  · obtain ⟨q1, q2⟩ := hid b o e
    obtain ⟨sl1, e1⟩ := up b o q1 hnf
    obtain ⟨sl2, e2⟩ := up1 b _ e1 hnf
    obtain ⟨sl3, e3⟩ := k4 b _ ((sb.2 b q2).trans e2) hnf
    exact ⟨sl3, e3⟩
  · rw [hs]
    exact ⟨k1, B2n a g2, k2, k3⟩
/-- [elt for target in iter if ..] in a def that exceptions leave: elt may raise; the tests know the def's own state -/
theorem lcB_core {use : Option (Value → Sem Unit)} {Q : VK} {Qf : Value → Shared → Prop} {pos' : Pos} {elt tg iter : Expr} {ifs : List Expr} {scope : Scope} {own : List (Str × Nat)} {pos : Pos} {wi : TI} {g : TG} {tt : L2.St → TT} {te : TE} (hc : X.calm = true) (hN : X.N.Nodup) (hs : X.stack = X.env :: X.outer) (hf : X.env.frame = some X.env.locals)
    (tk : L2.Takes X (fun cls d _ H => E cls d H)) (hi : PI X tg iter wi) (ok : BlkOk X.N X.env.scope scope own)
    (hg : ∀ (s : Shared) (H : Hp) (C : Addr) (cl : List (Str × Addr)) (fp : List Addr), PG (X.blk s H scope (compEnvC scope cl C X.env) fp) tg g)
    (ht : ∀ (s : Shared) (H : Hp) (C : Addr) (cl : List (Str × Addr)) (fp : List Addr) (σ : L2.St), (∀ pn σ' H' z, Inv (X.blk s H scope (compEnvC scope cl C X.env) fp) pn σ' H' z → ∃ ps, Inv X ps σ H' z) → PTs (X.blk s H scope (compEnvC scope cl C X.env) fp) ifs (tt σ))
    (he : ∀ (s : Shared) (H : Hp) (C : Addr) (cl : List (Str × Addr)) (fp : List Addr) (pn : List (Addr × Obj)) (xe : Value → Shared → Prop), Passes (L2.CX X.prog X.w) ((X.blk s H scope (compEnvC scope cl C X.env) fp).tr pn xe) E →
      PE ((X.blk s H scope (compEnvC scope cl C X.env) fp).tr pn xe) elt te) (hsf : ∀ x, foldedSetIterable iter X.env x = pure x) (I : Inv X pins σ H s) (h : tLc wi g (tt σ) te (own.map (·.2)) σ H Q)
    (hRR : ∀ D C s' m H', Inv X pins σ H' s' → Q (.ref D) H' → s'.heap.Ns C m → FpOk X pins H' C → compPost (model X.prog X.w) X.A X.xe use Qf (.ref D) C (.ok .next) s') :
    wpAny (model X.prog X.w) X.A (comprehension (.ListComp elt [⟨tg, iter, ifs, 0⟩] scope pos) scope X.env pos' (newList []) false (eval iter X.env) use) Qf X.xe s := by
  have clo : ∀ y ∈ scope.names, y.2 = .free → ∃ c, X.env.cells.lookup y.1 = some c := fun y hy e => (ok.free y hy e).elim (fun k => I.ok.has _ (.inl k)) fun k => I.ok.has _ (.inr k)
  refine comp_framed rfl hsf (closure_ok clo) ok.kind (fun y hy e => by rw [ok.uniq y hy, e]) (thn (hi.run pins s σ H _ I h) fun xv s1 hx => thn hx fun itv s2 h2 => ?_)
  obtain ⟨it, fp, tn, J, H2, e, I2, T, st2, f2, q⟩ := h2
  subst e
  refine wpAny_newObj_type (newEnv_comp ?_) (by show 0 ≤ sizeLine; decide)
  generalize hD : s2.heap.objs.size = D
  obtain ⟨W, ⟨m0, w0⟩, turn⟩ := q D (I2.hok.fresh (Nat.le_of_eq hD))
  generalize z3 : ({ s2 with heap := s2.heap.push { cls := .type "list", data := .seq ([] : List Value).toArray } } : Shared) = s3
  have I3 : Inv X pins σ (upd H2 D (.lst [])) s3 := by
    rw [← z3]
    refine I2.laid (t' := s2.toks) (fun b o e => Heap.get?_push_of_some _ e) (Nat.le_of_eq hD) ⟨Nat.zero_le _, [], 0, .nil, ?_⟩
    rw [← hD]
    exact Heap.get?_push_size _ rfl
  have e3 : s3.heap = s2.heap.push { cls := .type "list", data := .seq ([] : List Value).toArray } := by rw [← z3]
  have small : ∀ b ∈ fp, b < s2.heap.objs.size := fun b hb => let ⟨_, e, _⟩ := T.obj _ _ st2 b hb; Heap.lt_size e
  have f3 : ∀ b ∈ fp, FpOk X pins (upd H2 D (.lst [])) b ∧ b < s3.heap.objs.size := fun b hb => by
    have hlt := small b hb
    refine ⟨⟨?_, (f2 b hb).2⟩, by rw [e3, Heap.size_push]; exact Nat.lt_succ_of_lt hlt⟩
    rw [upd_ne (by rw [← hD]; exact Nat.ne_of_lt hlt)]
    exact (f2 b hb).1
  have st3 : tn 0 s3.heap := T.keep _ _ _ st2 fun b _ o e => by rw [e3]; exact Heap.get?_push_of_some _ e
  have I4 := block_start I3 ok hN f3
  generalize zC : s3.heap.objs.size = C at I4
  have pg := hg s3 (upd H2 D (.lst [])) C (cellsFrom (C + 1) scope.names (cloFrom X.env.cells scope.names [])) fp
  have pt := ht s3 (upd H2 D (.lst [])) C (cellsFrom (C + 1) scope.names (cloFrom X.env.cells scope.names [])) fp σ
  have pe := he s3 (upd H2 D (.lst [])) C (cellsFrom (C + 1) scope.names (cloFrom X.env.cells scope.names [])) fp
  show codeAny _ _ (.compStart (.ListComp elt [⟨tg, iter, ifs, 0⟩] scope pos) 0 (.ref it) (.ref D) (compEnvC scope (cellsFrom (C + 1) scope.names (cloFrom X.env.cells scope.names [])) C X.env))
    (pastC (model X.prog X.w) X.A X.xe use Qf (.ref D) C X.env.frame) { s3 with heap := pushCells (s3.heap.push { cls := .type "dict", data := .dict #[] }) scope.names }
  have n3 : ∀ b ∈ fp, (upd H2 D (.lst [])) b = none := fun b hb => (f3 b hb).1.1
  generalize zce : compEnvC scope (cellsFrom (C + 1) scope.names (cloFrom X.env.cells scope.names [])) C X.env = ce at I4 pg pt pe ⊢
  have cL : ce.locals = C := by subst zce; rfl
  have cF : ce.frame = X.env.frame := by subst zce; rfl
  generalize zH : upd H2 D (.lst []) = H3 at I3 I4 pg pt pe w0 n3 f3
  generalize z4 : ({ s3 with heap := pushCells (s3.heap.push { cls := .type "dict", data := .dict #[] }) scope.names } : Shared) = s4 at I4 ⊢
  have st4 : tn 0 s4.heap := T.keep _ _ _ st3 fun b _ o e => by rw [← z4]; exact pushCells_keeps _ _ _ _ (Heap.get?_push_of_some _ e)
  -- what holds of C, and the def's own state behind a state of the block
  have sC : ∀ H', H' C = none → FpOk X pins H' C := fun H' n => I3.fpOk (Nat.le_of_eq zC) n
  have back : ∀ {pn : List (Addr × Obj)} {σ' : L2.St} {H' : Hp} {z : Shared}, Inv (X.blk s3 H3 scope ce fp) pn σ' H' z → Inv X pins σ H' z ∧ H' C = none ∧ ∃ m, z.heap.Ns C m := fun {pn σ' H' z} K => by
    refine ⟨I3.call' (ch := fp) K.os K.base K.hok K.bare fun b hb => ⟨(f3 b hb).1.2.2.2.1, (f3 b hb).1.2.1, (f3 b hb).1.2.2.2.2.1, (f3 b hb).1.2.2.2.2.2⟩, ?_, ?_⟩
    · have y : H' ce.locals = none := K.free
      rw [cL] at y
      exact y
    · obtain ⟨m, hn, _⟩ := K.loc
      have hn : z.heap.Ns ce.locals m := hn
      rw [cL] at hn
      exact ⟨m, hn⟩
  have stat : ∀ {σ' : L2.St} {H' : Hp} {z : Shared}, Inv (X.blk s3 H3 scope ce fp) [] σ' H' z → (∀ b ∈ fp, H' b = none) → ∀ b ∈ fp, FpOk (X.blk s3 H3 scope ce fp) [] H' b := fun {σ' H' z} K hn b hb =>
    ⟨hn b hb, (K.ok.exf b hb).1, K.ok.exfs b hb, .inl hb, fun x c e => (K.ok.exf b hb).2 x c e, fun p hp => absurd (show p ∈ ([] : List (Addr × Obj)) ++ [] from hp) (by simp)⟩
  have okX := I.ok
  have out : ∀ u z, AirB X pins E C u z → notedBy (model X.prog X.w) X.A ce (fun e z => pastC (model X.prog X.w) X.A X.xe use Qf (.ref D) C X.env.frame (.error e) z) u z := fun u z x => by
    obtain ⟨_, k1, k2, k3, k4, k5⟩ := I3.fpOk (b := C) (H' := fun _ => none) (Nat.le_of_eq zC) rfl
    have := air_out (use := use) (Q := Qf) (acc := .ref D) okX hs hf tk ⟨k1, k2, k3, k4, k5⟩ cF x
    rw [cF] at this
    exact this
  have loop : codeAny (model X.prog X.w) X.A (.compLoop (.ListComp elt [⟨tg, iter, ifs, 0⟩] scope pos) 0 (.ref it) (.ref D) ce) (pastC (model X.prog X.w) X.A X.xe use Qf (.ref D) C X.env.frame) s4 := by
    refine compLoop_any (fun n z => ∃ i H', Inv (X.blk s3 H3 scope ce fp) [] (wipe σ (own.map (·.2))) H' z ∧ tn i z.heap ∧ (∀ b ∈ fp, H' b = none) ∧ W i n H') ?_ m0 ⟨0, H3, I4, st4, n3, w0⟩
    rintro n s5 ⟨i, H5, I5, st5, n5, w5⟩
    rcases turn i n H5 w5 with ⟨stop, qq⟩ | ⟨go, Nx, hNx, step⟩
    · refine thnF (T.done (X.blk s3 H3 scope ce fp) rfl rfl rfl hc i [] s5 _ H5 (fun _ _ => False) I5 (stat I5 n5) st5 stop) fun r s6 ⟨hr, I6⟩ => ?_
      subst hr
      obtain ⟨I7, nC, m, hn⟩ := back I6
      exact hRR D C s6 m H5 I7 qq hn (sC H5 nC)
    · refine thnF (T.item (X.blk s3 H3 scope ce fp) rfl rfl rfl hc i [] s5 _ H5 (fun _ _ => False) I5 (stat I5 n5) st5 go) fun r s6 ⟨u, hr, h6⟩ => ?_
      subst hr
      refine thnF h6 fun _ s7 ⟨x, H7, I7, r7, y7, st7, n7⟩ => ?_
      refine thnF (pg.run _ s7 _ H7 x u _ (I7.pinned (stat I7 n7) (T.obj _ _ st7)) r7 (step x H7 y7)) fun _ s8 ⟨σ8, H8, I8, hw8, q8⟩ => ?_
      refine thnF ((pt fun pn σ' H' z K => ⟨_, (back K).1⟩).run _ s8 σ8 H8 _ I8 q8) fun b s9 ⟨H9, I9, q9⟩ => ?_
      have fin : ∀ {z : Shared} {H' : Hp}, Inv (X.blk s3 H3 scope ce fp) ([] ++ pinsAt fp s7.heap) σ8 H' z → Nx H' → ∃ m, m < n ∧ ∃ i H', Inv (X.blk s3 H3 scope ce fp) [] (wipe σ (own.map (·.2))) H' z ∧ tn i z.heap ∧ (∀ b ∈ fp, H' b = none) ∧ W i m H' := fun {z H'} K nx => by
        obtain ⟨m', hm, w'⟩ := hNx H' nx
        have pin' : ∀ b ∈ fp, ∀ o, s7.heap.get? b = some o → z.heap.get? b = some o ∧ H' b = none := fun b hb o e =>
          let y := K.pin (b, o) (List.mem_append_right _ (List.mem_append_right _ (mem_pinsAt hb e)))
          ⟨y.1, y.2.1⟩
        refine ⟨m', hm, i + 1, H', (K.unpinned (pins := [])).weak (by rw [← hw8, wipe_length]) (fun j v e => ?_), T.keep _ _ _ st7 fun b hb o e => (pin' b hb o e).1, fun b hb => ?_, w'⟩
        · rw [← hw8] at e
          exact (wipe_some e).1
        · obtain ⟨o, e, _⟩ := T.obj _ _ st7 b hb
          exact (pin' b hb o e).2
      cases b with
      | false =>
        simp only [Bool.false_eq_true, if_false] at q9 ⊢
        exact fin I9 q9
      | true =>
        simp only [if_true] at q9 ⊢
        have px : Passes (L2.CX X.prog X.w) ((X.blk s3 H3 scope ce fp).tr ([] ++ ([] ++ pinsAt fp s7.heap)) (AirB X pins E C)) E := fun pins' σ' H' z u z' K c => by
          obtain ⟨K7, nC, m, hn⟩ := back (show Inv (X.blk s3 H3 scope ce fp) (([] ++ pinsAt fp s7.heap) ++ pins') σ' H' z from ⟨I9.ok, K.os, K.bare, K.base, K.loc, K.cell, K.free, K.freeC, fun p hp => K.pin p (by simpa using hp), K.hok, K.len⟩)
          exact air_of K7 (sC H' nC) hn c
        refine wpAny_mono ((pe _ _ px).run [] s9 σ8 H9 _ (I9.toTry _) q9) (fun y s10 ⟨yv, H10, I10, r10, acc, hD10, hz10, nx⟩ => ?_) out
        refine thnF (app_ok (X := X.blk s3 H3 scope ce fp) (E := fun _ _ => False) (I10.ofTry I9.ok) hD10 hz10 r10 fun s11 I11 => ?_) fun _ _ k => k
        exact fin I11 nx
  exact codeAny_compStart_list loop (T.self X.A 0 _ _ _ st4 loop)
/-- [elt for target in iter if ..] in a def that exceptions leave: elt may raise; the tests know the def's own state -/
theorem pe_lcB {elt tg iter : Expr} {ifs : List Expr} {scope : Scope} {own : List (Str × Nat)} {pos : Pos} {wi : TI} {g : TG} {tt : L2.St → TT} {te : TE} (hc : X.calm = true) (hN : X.N.Nodup) (hs : X.stack = X.env :: X.outer) (hf : X.env.frame = some X.env.locals)
    (tk : L2.Takes X (fun cls d _ H => E cls d H)) (hi : PI X tg iter wi) (ok : BlkOk X.N X.env.scope scope own)
    (hg : ∀ (s : Shared) (H : Hp) (C : Addr) (cl : List (Str × Addr)) (fp : List Addr), PG (X.blk s H scope (compEnvC scope cl C X.env) fp) tg g)
    (ht : ∀ (s : Shared) (H : Hp) (C : Addr) (cl : List (Str × Addr)) (fp : List Addr) (σ : L2.St), (∀ pn σ' H' z, Inv (X.blk s H scope (compEnvC scope cl C X.env) fp) pn σ' H' z → ∃ ps, Inv X ps σ H' z) → PTs (X.blk s H scope (compEnvC scope cl C X.env) fp) ifs (tt σ))
    (he : ∀ (s : Shared) (H : Hp) (C : Addr) (cl : List (Str × Addr)) (fp : List Addr) (pn : List (Addr × Obj)) (xe : Value → Shared → Prop), Passes (L2.CX X.prog X.w) ((X.blk s H scope (compEnvC scope cl C X.env) fp).tr pn xe) E →
      PE ((X.blk s H scope (compEnvC scope cl C X.env) fp).tr pn xe) elt te) (hsf : ∀ x, foldedSetIterable iter X.env x = pure x := by intro _; rfl) :
    PE X (.ListComp elt [⟨tg, iter, ifs, 0⟩] scope pos) (fun σ => tLc wi g (tt σ) te (own.map (·.2)) σ) := by
  refine ⟨fun pins s σ H Q I h => ?_⟩
  rw [eval_ListComp]
  refine lcB_core hc hN hs hf tk hi ok hg ht he hsf I h fun D C s' m H' J q hn f => ⟨m, hn, fun g1 sb => ?_⟩
  obtain ⟨k0, k1, k2, k3, k4, k5⟩ := f
  exact ⟨.ref D, H', J.turned (t' := s'.toks) (fun b o hb e => (sb.2 b hb).trans e) k0 k1 k3 k4 k5, rfl, q⟩
/-- y = [elt for target in iter if ..], the same, y a local -/
theorem ps_setLcX {i : Nat} {y : Str} {py spos : Pos} {elt tg iter : Expr} {ifs : List Expr} {scope : Scope} {own : List (Str × Nat)} {pos : Pos} {wi : TI} {g : TG} {tt : TT} {te : TE} (hc : X.calm = true) (hN : X.N.Nodup) (hs : X.stack = X.env :: X.outer) (hf : X.env.frame = some X.env.locals)
    (tk : L2.Takes X (fun cls d _ H => E cls d H)) (hy : X.N[i]? = some y) (hyl : X.env.scope.names.lookup y = some .local) (hsw : swapsWith (.ListComp elt [⟨tg, iter, ifs, 0⟩] scope pos) (some (.Name y py)) spos.line X.env = pure true) (hi : PI X tg iter wi) (ok : BlkOk X.N X.env.scope scope own)
    (hg : ∀ (s : Shared) (H : Hp) (C : Addr) (cl : List (Str × Addr)) (fp : List Addr), PG (X.blk s H scope (compEnvC scope cl C X.env) fp) tg g)
    (ht : ∀ (s : Shared) (H : Hp) (C : Addr) (cl : List (Str × Addr)) (fp : List Addr), PTs (X.blk s H scope (compEnvC scope cl C X.env) fp) ifs tt)
    (he : ∀ (s : Shared) (H : Hp) (C : Addr) (cl : List (Str × Addr)) (fp : List Addr) (pn : List (Addr × Obj)) (xe : Value → Shared → Prop), Passes (L2.CX X.prog X.w) ((X.blk s H scope (compEnvC scope cl C X.env) fp).tr pn xe) E →
      PE ((X.blk s H scope (compEnvC scope cl C X.env) fp).tr pn xe) elt te) (hsf : ∀ x, foldedSetIterable iter X.env x = pure x := by intro _; rfl) :
    PS X (.Assign [.Name y py] (.ListComp elt [⟨tg, iter, ifs, 0⟩] scope pos) spos) (tAsg (tLc wi g tt te (own.map (·.2))) (gName i)) := by
  refine ⟨fun pins s σ H D I h => ?_⟩
  rw [exec_Assign_Name_used _ _ _ _ hsw]
  refine wpAny_bind (wpAny_standAt (wpAny_bind (wpAny_bind (thn (lcB_core (tt := fun _ => tt) (Q := fun x H1 => gName i x σ H1 D.nx) (Qf := fun _ z => SP X pins D .next z) hc hN hs hf tk hi ok hg (fun s H C cl fp _ _ => ht s H C cl fp) he hsf I h fun L C z m H' J q hn f => ?_) fun _ _ q => wpAny_pure (wpAny_pure q)))))
  obtain ⟨k0, k1, k2, k3, k4, k5⟩ := f
  show wpAny _ _ (assign (.Name y py) X.env (.ref L)) _ _ _
  refine wpAny_assign_Name (store_ok2 (v := V.ref L) J hN hy (.inl hyl) rfl (fun z2 J2 ⟨a, sb, ha⟩ => ⟨m, hn.sameBut sb (ha.elim (fun e => by rw [e]; exact k1) fun e z => k4 y a e z.symm), fun g3 sb3 => ?_⟩) (.inr hyl))
  exact ⟨_, H', J2.turned (t' := z2.toks) (fun b o hb e => (sb3.2 b hb).trans e) k0 k1 k3 k4 k5, q⟩
/-- [elt for target in iter if ..] in a def that exceptions leave: elt may raise -/
theorem pe_lcX {elt tg iter : Expr} {ifs : List Expr} {scope : Scope} {own : List (Str × Nat)} {pos : Pos} {wi : TI} {g : TG} {tt : TT} {te : TE} (hc : X.calm = true) (hN : X.N.Nodup) (hs : X.stack = X.env :: X.outer) (hf : X.env.frame = some X.env.locals)
    (tk : L2.Takes X (fun cls d _ H => E cls d H)) (hi : PI X tg iter wi) (ok : BlkOk X.N X.env.scope scope own)
    (hg : ∀ (s : Shared) (H : Hp) (C : Addr) (cl : List (Str × Addr)) (fp : List Addr), PG (X.blk s H scope (compEnvC scope cl C X.env) fp) tg g)
    (ht : ∀ (s : Shared) (H : Hp) (C : Addr) (cl : List (Str × Addr)) (fp : List Addr), PTs (X.blk s H scope (compEnvC scope cl C X.env) fp) ifs tt)
    (he : ∀ (s : Shared) (H : Hp) (C : Addr) (cl : List (Str × Addr)) (fp : List Addr) (pn : List (Addr × Obj)) (xe : Value → Shared → Prop), Passes (L2.CX X.prog X.w) ((X.blk s H scope (compEnvC scope cl C X.env) fp).tr pn xe) E →
      PE ((X.blk s H scope (compEnvC scope cl C X.env) fp).tr pn xe) elt te) (hsf : ∀ x, foldedSetIterable iter X.env x = pure x := by intro _; rfl) :
    PE X (.ListComp elt [⟨tg, iter, ifs, 0⟩] scope pos) (tLc wi g tt te (own.map (·.2))) :=
  pe_lcB (tt := fun _ => tt) hc hN hs hf tk hi ok hg (fun s H C cl fp _ _ => ht s H C cl fp) he hsf
end
end GX

-- text LcT
set_option maxRecDepth 100000
set_option maxHeartbeats 4000000
/-! LcT: a list comprehension whose tests and element may raise out of the def. -/
namespace GX
open PySem PySem.Spec PyProof.Rows L2 LamX
section
variable {X : Cx} {pins : List (Addr × Obj)} {σ : L2.St} {H : Hp} {s s' : Shared} {E : XK} {C : Addr}
theorem lcT_core {use : Option (Value → Sem Unit)} {Q : VK} {Qf : Value → Shared → Prop} {pos' : Pos} {elt tg iter : Expr} {ifs : List Expr} {scope : Scope} {own : List (Str × Nat)} {pos : Pos} {wi : TI} {g : TG} {tt : TT} {te : TE} (hc : X.calm = true) (hN : X.N.Nodup) (hs : X.stack = X.env :: X.outer) (hf : X.env.frame = some X.env.locals)
    (tk : L2.Takes X (fun cls d _ H => E cls d H)) (hi : PI X tg iter wi) (ok : BlkOk X.N X.env.scope scope own)
    (hg : ∀ (s : Shared) (H : Hp) (C : Addr) (cl : List (Str × Addr)) (fp : List Addr), PG (X.blk s H scope (compEnvC scope cl C X.env) fp) tg g)
    (ht : ∀ (s : Shared) (H : Hp) (C : Addr) (cl : List (Str × Addr)) (fp : List Addr) (pn : List (Addr × Obj)) (xe : Value → Shared → Prop), Passes (L2.CX X.prog X.w) ((X.blk s H scope (compEnvC scope cl C X.env) fp).tr pn xe) E → PTs ((X.blk s H scope (compEnvC scope cl C X.env) fp).tr pn xe) ifs tt)
    (he : ∀ (s : Shared) (H : Hp) (C : Addr) (cl : List (Str × Addr)) (fp : List Addr) (pn : List (Addr × Obj)) (xe : Value → Shared → Prop), Passes (L2.CX X.prog X.w) ((X.blk s H scope (compEnvC scope cl C X.env) fp).tr pn xe) E →
      PE ((X.blk s H scope (compEnvC scope cl C X.env) fp).tr pn xe) elt te) (hsf : ∀ x, foldedSetIterable iter X.env x = pure x) (I : Inv X pins σ H s) (h : tLc wi g tt te (own.map (·.2)) σ H Q)
    (hRR : ∀ D C s' m H', Inv X pins σ H' s' → Q (.ref D) H' → s'.heap.Ns C m → FpOk X pins H' C → compPost (model X.prog X.w) X.A X.xe use Qf (.ref D) C (.ok .next) s') :
    wpAny (model X.prog X.w) X.A (comprehension (.ListComp elt [⟨tg, iter, ifs, 0⟩] scope pos) scope X.env pos' (newList []) false (eval iter X.env) use) Qf X.xe s := by
  have clo : ∀ y ∈ scope.names, y.2 = .free → ∃ c, X.env.cells.lookup y.1 = some c := fun y hy e => (ok.free y hy e).elim (fun k => I.ok.has _ (.inl k)) fun k => I.ok.has _ (.inr k)
  refine comp_framed rfl hsf (closure_ok clo) ok.kind (fun y hy e => by rw [ok.uniq y hy, e]) (thn (hi.run pins s σ H _ I h) fun xv s1 hx => thn hx fun itv s2 h2 => ?_)
  obtain ⟨it, fp, tn, J, H2, e, I2, T, st2, f2, q⟩ := h2
  subst e
  refine wpAny_newObj_type (newEnv_comp ?_) (by show 0 ≤ sizeLine; decide)
  generalize hD : s2.heap.objs.size = D
  obtain ⟨W, ⟨m0, w0⟩, turn⟩ := q D (I2.hok.fresh (Nat.le_of_eq hD))
  generalize z3 : ({ s2 with heap := s2.heap.push { cls := .type "list", data := .seq ([] : List Value).toArray } } : Shared) = s3
  have I3 : Inv X pins σ (upd H2 D (.lst [])) s3 := by
    rw [← z3]
    refine I2.laid (t' := s2.toks) (fun b o e => Heap.get?_push_of_some _ e) (Nat.le_of_eq hD) ⟨Nat.zero_le _, [], 0, .nil, ?_⟩
    rw [← hD]
    exact Heap.get?_push_size _ rfl
  have e3 : s3.heap = s2.heap.push { cls := .type "list", data := .seq ([] : List Value).toArray } := by rw [← z3]
  have small : ∀ b ∈ fp, b < s2.heap.objs.size := fun b hb => let ⟨_, e, _⟩ := T.obj _ _ st2 b hb; Heap.lt_size e
  have f3 : ∀ b ∈ fp, FpOk X pins (upd H2 D (.lst [])) b ∧ b < s3.heap.objs.size := fun b hb => by
    have hlt := small b hb
    refine ⟨⟨?_, (f2 b hb).2⟩, by rw [e3, Heap.size_push]; exact Nat.lt_succ_of_lt hlt⟩
    rw [upd_ne (by rw [← hD]; exact Nat.ne_of_lt hlt)]
    exact (f2 b hb).1
  have st3 : tn 0 s3.heap := T.keep _ _ _ st2 fun b _ o e => by rw [e3]; exact Heap.get?_push_of_some _ e
  have I4 := block_start I3 ok hN f3
  generalize zC : s3.heap.objs.size = C at I4
  have pg := hg s3 (upd H2 D (.lst [])) C (cellsFrom (C + 1) scope.names (cloFrom X.env.cells scope.names [])) fp
  have pt := ht s3 (upd H2 D (.lst [])) C (cellsFrom (C + 1) scope.names (cloFrom X.env.cells scope.names [])) fp
  have pe := he s3 (upd H2 D (.lst [])) C (cellsFrom (C + 1) scope.names (cloFrom X.env.cells scope.names [])) fp
  show codeAny _ _ (.compStart (.ListComp elt [⟨tg, iter, ifs, 0⟩] scope pos) 0 (.ref it) (.ref D) (compEnvC scope (cellsFrom (C + 1) scope.names (cloFrom X.env.cells scope.names [])) C X.env))
    (pastC (model X.prog X.w) X.A X.xe use Qf (.ref D) C X.env.frame) { s3 with heap := pushCells (s3.heap.push { cls := .type "dict", data := .dict #[] }) scope.names }
  have n3 : ∀ b ∈ fp, (upd H2 D (.lst [])) b = none := fun b hb => (f3 b hb).1.1
  generalize zce : compEnvC scope (cellsFrom (C + 1) scope.names (cloFrom X.env.cells scope.names [])) C X.env = ce at I4 pg pt pe ⊢
  have cL : ce.locals = C := by subst zce; rfl
  have cF : ce.frame = X.env.frame := by subst zce; rfl
  generalize zH : upd H2 D (.lst []) = H3 at I3 I4 pg pt pe w0 n3 f3
  generalize z4 : ({ s3 with heap := pushCells (s3.heap.push { cls := .type "dict", data := .dict #[] }) scope.names } : Shared) = s4 at I4 ⊢
  have st4 : tn 0 s4.heap := T.keep _ _ _ st3 fun b _ o e => by rw [← z4]; exact pushCells_keeps _ _ _ _ (Heap.get?_push_of_some _ e)
  -- what holds of C, and the def's own state behind a state of the block
  have sC : ∀ H', H' C = none → FpOk X pins H' C := fun H' n => I3.fpOk (Nat.le_of_eq zC) n
  have back : ∀ {pn : List (Addr × Obj)} {σ' : L2.St} {H' : Hp} {z : Shared}, Inv (X.blk s3 H3 scope ce fp) pn σ' H' z → Inv X pins σ H' z ∧ H' C = none ∧ ∃ m, z.heap.Ns C m := fun {pn σ' H' z} K => by
    refine ⟨I3.call' (ch := fp) K.os K.base K.hok K.bare fun b hb => ⟨(f3 b hb).1.2.2.2.1, (f3 b hb).1.2.1, (f3 b hb).1.2.2.2.2.1, (f3 b hb).1.2.2.2.2.2⟩, ?_, ?_⟩
    · have y : H' ce.locals = none := K.free
      rw [cL] at y
      exact y
    · obtain ⟨m, hn, _⟩ := K.loc
      have hn : z.heap.Ns ce.locals m := hn
      rw [cL] at hn
      exact ⟨m, hn⟩
  have stat : ∀ {σ' : L2.St} {H' : Hp} {z : Shared}, Inv (X.blk s3 H3 scope ce fp) [] σ' H' z → (∀ b ∈ fp, H' b = none) → ∀ b ∈ fp, FpOk (X.blk s3 H3 scope ce fp) [] H' b := fun {σ' H' z} K hn b hb =>
    ⟨hn b hb, (K.ok.exf b hb).1, K.ok.exfs b hb, .inl hb, fun x c e => (K.ok.exf b hb).2 x c e, fun p hp => absurd (show p ∈ ([] : List (Addr × Obj)) ++ [] from hp) (by simp)⟩
  have okX := I.ok
  have out : ∀ u z, AirB X pins E C u z → notedBy (model X.prog X.w) X.A ce (fun e z => pastC (model X.prog X.w) X.A X.xe use Qf (.ref D) C X.env.frame (.error e) z) u z := fun u z x => by
    obtain ⟨_, k1, k2, k3, k4, k5⟩ := I3.fpOk (b := C) (H' := fun _ => none) (Nat.le_of_eq zC) rfl
    have := air_out (use := use) (Q := Qf) (acc := .ref D) okX hs hf tk ⟨k1, k2, k3, k4, k5⟩ cF x
    rw [cF] at this
    exact this
  have loop : codeAny (model X.prog X.w) X.A (.compLoop (.ListComp elt [⟨tg, iter, ifs, 0⟩] scope pos) 0 (.ref it) (.ref D) ce) (pastC (model X.prog X.w) X.A X.xe use Qf (.ref D) C X.env.frame) s4 := by
    refine compLoop_any (fun n z => ∃ i H', Inv (X.blk s3 H3 scope ce fp) [] (wipe σ (own.map (·.2))) H' z ∧ tn i z.heap ∧ (∀ b ∈ fp, H' b = none) ∧ W i n H') ?_ m0 ⟨0, H3, I4, st4, n3, w0⟩
    rintro n s5 ⟨i, H5, I5, st5, n5, w5⟩
    rcases turn i n H5 w5 with ⟨stop, qq⟩ | ⟨go, Nx, hNx, step⟩
    · refine thnF (T.done (X.blk s3 H3 scope ce fp) rfl rfl rfl hc i [] s5 _ H5 (fun _ _ => False) I5 (stat I5 n5) st5 stop) fun r s6 ⟨hr, I6⟩ => ?_
      subst hr
      obtain ⟨I7, nC, m, hn⟩ := back I6
      exact hRR D C s6 m H5 I7 qq hn (sC H5 nC)
    · refine thnF (T.item (X.blk s3 H3 scope ce fp) rfl rfl rfl hc i [] s5 _ H5 (fun _ _ => False) I5 (stat I5 n5) st5 go) fun r s6 ⟨u, hr, h6⟩ => ?_
      subst hr
      refine thnF h6 fun _ s7 ⟨x, H7, I7, r7, y7, st7, n7⟩ => ?_
      refine thnF (pg.run _ s7 _ H7 x u _ (I7.pinned (stat I7 n7) (T.obj _ _ st7)) r7 (step x H7 y7)) fun _ s8 ⟨σ8, H8, I8, hw8, q8⟩ => ?_
      have px : Passes (L2.CX X.prog X.w) ((X.blk s3 H3 scope ce fp).tr ([] ++ ([] ++ pinsAt fp s7.heap)) (AirB X pins E C)) E := fun pins' σ' H' z u z' K c => by
        obtain ⟨K7, nC, m, hn⟩ := back (show Inv (X.blk s3 H3 scope ce fp) (([] ++ pinsAt fp s7.heap) ++ pins') σ' H' z from ⟨I8.ok, K.os, K.bare, K.base, K.loc, K.cell, K.free, K.freeC, fun p hp => K.pin p (by simpa using hp), K.hok, K.len⟩)
        exact air_of K7 (sC H' nC) hn c
      refine wpAny_mono ((pt _ _ px).run [] s8 σ8 H8 _ (I8.toTry _) q8) (fun b s9 ⟨H9, I9t, q9⟩ => ?_) out
      have I9 := I9t.ofTry I8.ok
      have fin : ∀ {z : Shared} {H' : Hp}, Inv (X.blk s3 H3 scope ce fp) ([] ++ pinsAt fp s7.heap) σ8 H' z → Nx H' → ∃ m, m < n ∧ ∃ i H', Inv (X.blk s3 H3 scope ce fp) [] (wipe σ (own.map (·.2))) H' z ∧ tn i z.heap ∧ (∀ b ∈ fp, H' b = none) ∧ W i m H' := fun {z H'} K nx => by
        obtain ⟨m', hm, w'⟩ := hNx H' nx
        have pin' : ∀ b ∈ fp, ∀ o, s7.heap.get? b = some o → z.heap.get? b = some o ∧ H' b = none := fun b hb o e =>
          let y := K.pin (b, o) (List.mem_append_right _ (List.mem_append_right _ (mem_pinsAt hb e)))
          ⟨y.1, y.2.1⟩
        refine ⟨m', hm, i + 1, H', (K.unpinned (pins := [])).weak (by rw [← hw8, wipe_length]) (fun j v e => ?_), T.keep _ _ _ st7 fun b hb o e => (pin' b hb o e).1, fun b hb => ?_, w'⟩
        · rw [← hw8] at e
          exact (wipe_some e).1
        · obtain ⟨o, e, _⟩ := T.obj _ _ st7 b hb
          exact (pin' b hb o e).2
      cases b with
      | false =>
        simp only [Bool.false_eq_true, if_false] at q9 ⊢
        exact fin I9 q9
      | true =>
        simp only [if_true] at q9 ⊢
        refine wpAny_mono ((pe _ _ px).run [] s9 σ8 H9 _ (I9.toTry _) q9) (fun y s10 ⟨yv, H10, I10, r10, acc, hD10, hz10, nx⟩ => ?_) out
        refine thnF (app_ok (X := X.blk s3 H3 scope ce fp) (E := fun _ _ => False) (I10.ofTry I9.ok) hD10 hz10 r10 fun s11 I11 => ?_) fun _ _ k => k
        exact fin I11 nx
  exact codeAny_compStart_list loop (T.self X.A 0 _ _ _ st4 loop)
/-- [elt for target in iter if ..] in a def that exceptions leave: tests and elt may raise -/
theorem pe_lcT {elt tg iter : Expr} {ifs : List Expr} {scope : Scope} {own : List (Str × Nat)} {pos : Pos} {wi : TI} {g : TG} {tt : TT} {te : TE} (hc : X.calm = true) (hN : X.N.Nodup) (hs : X.stack = X.env :: X.outer) (hf : X.env.frame = some X.env.locals)
    (tk : L2.Takes X (fun cls d _ H => E cls d H)) (hi : PI X tg iter wi) (ok : BlkOk X.N X.env.scope scope own)
    (hg : ∀ (s : Shared) (H : Hp) (C : Addr) (cl : List (Str × Addr)) (fp : List Addr), PG (X.blk s H scope (compEnvC scope cl C X.env) fp) tg g)
    (ht : ∀ (s : Shared) (H : Hp) (C : Addr) (cl : List (Str × Addr)) (fp : List Addr) (pn : List (Addr × Obj)) (xe : Value → Shared → Prop), Passes (L2.CX X.prog X.w) ((X.blk s H scope (compEnvC scope cl C X.env) fp).tr pn xe) E → PTs ((X.blk s H scope (compEnvC scope cl C X.env) fp).tr pn xe) ifs tt)
    (he : ∀ (s : Shared) (H : Hp) (C : Addr) (cl : List (Str × Addr)) (fp : List Addr) (pn : List (Addr × Obj)) (xe : Value → Shared → Prop), Passes (L2.CX X.prog X.w) ((X.blk s H scope (compEnvC scope cl C X.env) fp).tr pn xe) E →
      PE ((X.blk s H scope (compEnvC scope cl C X.env) fp).tr pn xe) elt te) (hsf : ∀ x, foldedSetIterable iter X.env x = pure x := by intro _; rfl) :
    PE X (.ListComp elt [⟨tg, iter, ifs, 0⟩] scope pos) (tLc wi g tt te (own.map (·.2))) := by
  refine ⟨fun pins s σ H Q I h => ?_⟩
  rw [eval_ListComp]
  refine lcT_core hc hN hs hf tk hi ok hg ht he hsf I h fun D C s' m H' J q hn f => ⟨m, hn, fun g1 sb => ?_⟩
  obtain ⟨k0, k1, k2, k3, k4, k5⟩ := f
  exact ⟨.ref D, H', J.turned (t' := s'.toks) (fun b o hb e => (sb.2 b hb).trans e) k0 k1 k3 k4 k5, rfl, q⟩
end
end GX

-- text LcT2
set_option maxRecDepth 100000
set_option maxHeartbeats 4000000
/-! LcT2: y = [..] whose tests and element may raise out of the def. -/
namespace GX
open PySem PySem.Spec PyProof.Rows L2 LamX
section
variable {X : Cx} {pins : List (Addr × Obj)} {σ : L2.St} {H : Hp} {s s' : Shared} {E : XK} {C : Addr}
/-- y = [elt for target in iter if ..] in a def that exceptions leave: tests and elt may raise -/
theorem ps_setLcT {i : Nat} {y : Str} {py spos : Pos} {elt tg iter : Expr} {ifs : List Expr} {scope : Scope} {own : List (Str × Nat)} {pos : Pos} {wi : TI} {g : TG} {tt : TT} {te : TE} (hc : X.calm = true) (hN : X.N.Nodup) (hs : X.stack = X.env :: X.outer) (hf : X.env.frame = some X.env.locals)
    (tk : L2.Takes X (fun cls d _ H => E cls d H)) (hy : X.N[i]? = some y) (hyl : X.env.scope.names.lookup y = some .local) (hsw : swapsWith (.ListComp elt [⟨tg, iter, ifs, 0⟩] scope pos) (some (.Name y py)) spos.line X.env = pure true) (hi : PI X tg iter wi) (ok : BlkOk X.N X.env.scope scope own)
    (hg : ∀ (s : Shared) (H : Hp) (C : Addr) (cl : List (Str × Addr)) (fp : List Addr), PG (X.blk s H scope (compEnvC scope cl C X.env) fp) tg g)
    (ht : ∀ (s : Shared) (H : Hp) (C : Addr) (cl : List (Str × Addr)) (fp : List Addr) (pn : List (Addr × Obj)) (xe : Value → Shared → Prop), Passes (L2.CX X.prog X.w) ((X.blk s H scope (compEnvC scope cl C X.env) fp).tr pn xe) E → PTs ((X.blk s H scope (compEnvC scope cl C X.env) fp).tr pn xe) ifs tt)
    (he : ∀ (s : Shared) (H : Hp) (C : Addr) (cl : List (Str × Addr)) (fp : List Addr) (pn : List (Addr × Obj)) (xe : Value → Shared → Prop), Passes (L2.CX X.prog X.w) ((X.blk s H scope (compEnvC scope cl C X.env) fp).tr pn xe) E →
      PE ((X.blk s H scope (compEnvC scope cl C X.env) fp).tr pn xe) elt te) (hsf : ∀ x, foldedSetIterable iter X.env x = pure x := by intro _; rfl) :
    PS X (.Assign [.Name y py] (.ListComp elt [⟨tg, iter, ifs, 0⟩] scope pos) spos) (tAsg (tLc wi g tt te (own.map (·.2))) (gName i)) := by
  refine ⟨fun pins s σ H D I h => ?_⟩
  rw [exec_Assign_Name_used _ _ _ _ hsw]
  refine wpAny_bind (wpAny_standAt (wpAny_bind (wpAny_bind (thn (lcT_core (Q := fun x H1 => gName i x σ H1 D.nx) (Qf := fun _ z => SP X pins D .next z) hc hN hs hf tk hi ok hg ht he hsf I h fun L C z m H' J q hn f => ?_) fun _ _ q => wpAny_pure (wpAny_pure q)))))
  obtain ⟨k0, k1, k2, k3, k4, k5⟩ := f
  show wpAny _ _ (assign (.Name y py) X.env (.ref L)) _ _ _
  refine wpAny_assign_Name (store_ok2 (v := V.ref L) J hN hy (.inl hyl) rfl (fun z2 J2 ⟨a, sb, ha⟩ => ⟨m, hn.sameBut sb (ha.elim (fun e => by rw [e]; exact k1) fun e z => k4 y a e z.symm), fun g3 sb3 => ?_⟩) (.inr hyl))
  exact ⟨_, H', J2.turned (t' := z2.toks) (fun b o hb e => (sb3.2 b hb).trans e) k0 k1 k3 k4 k5, q⟩
end
end GX

-- text Cut
set_option maxRecDepth 100000
set_option maxHeartbeats 4000000
/-! Cut: a word between an expression and what follows. -/
namespace GX
open PySem PySem.Spec PyProof.Rows L2 LamX
/-- what follows is shown once, from Mid -/
def tMid (t : TE) : TE := fun σ H Q => ∃ Mid : V → Hp → Prop, t σ H Mid ∧ ∀ v H', Mid v H' → Q v H'
theorem pe_mid {X : Cx} {e : Expr} {t : TE} (h : PE X e t) : PE X e (tMid t) := by
  refine ⟨fun pins s σ H Q I ⟨Mid, hm, hq⟩ => thn (h.run pins s σ H Mid I hm) fun v s1 ⟨x, H1, I1, r1, q1⟩ => ⟨x, H1, I1, r1, hq x H1 q1⟩⟩
end GX

-- text Kx
set_option maxRecDepth 100000
set_option maxHeartbeats 4000000
/-! Kx: rules with the written part named, so that they fit within comprehensions; small words. -/
namespace GX
open PySem PySem.Spec PyProof.Rows L2 LamX
section
variable {X : Cx} {K : PySem.W.Frag}
def rTupO (K : PySem.W.Frag) : List V → Hp → VK → Prop := fun xs H Q => ∃ p ys, xs = [V.ref p] ∧ ((SqL K H p ys ∧ ∀ l, H l = none → Q (.ref l) (upd H l (.tup ys))) ∨ (SqT K H p ys ∧ Q (.ref p) H))
theorem call_tupK (hK : X.K = K) : CallR X (.type "tuple") (rTupO K) := by
  subst hK
  exact call_tuple_of
def rLenO (K : PySem.W.Frag) : List V → Hp → VK → Prop := fun xs H Q => ∃ p ys, xs = [V.ref p] ∧ (SqL K H p ys ∨ SqT K H p ys) ∧ Q (.int ys.length) H
theorem call_lenK (hK : X.K = K) : CallR X (.builtin "len") (rLenO K) := by
  subst hK
  exact call_len_seq
def rLstO (K : PySem.W.Frag) : List V → Hp → VK → Prop := fun xs H Q => ∃ p ys, xs = [V.ref p] ∧ (SqL K H p ys ∨ SqT K H p ys) ∧ ∀ l, H l = none → Q (.ref l) (upd H l (.lst ys))
theorem call_lstK (hK : X.K = K) : CallR X (.type "list") (rLstO K) := by
  subst hK
  exact call_list_of
theorem pe_bmK {o e : Expr} {es : List Expr} {to : TE} {t : TA} {name : Str} {apos cpos : Pos} {T id : String} {r : V → List V → Hp → VK → Prop} (hK : X.K = K) (pa : PlainAttrs T) (slot : Slot T name id) (hty : typeOf (.builtin id) = pure (.type "method_descriptor")) (hm : MtR X id r) (ho : PE X o to) (ha : PA X (e :: es) t)
    (hbase : attributeBase o name X.env (eval o X.env) = eval o X.env := by rfl)
    (hfew : ((backTo cpos (starEach (e :: es) X.env)).all (fun x => !x.1) && (backToKw cpos (keywordEach [] X.env)).all (fun x => x.1.isSome)
      && decide ((e :: es).length + ([] : List Keyword).length + (if ([] : List Keyword).isEmpty then 0 else 1) < 30)) = true := by rfl)
    (hline : (apos.endLine == cpos.line) = true := by rfl) (hs : starEach (e :: es) X.env = (false, eval e X.env) :: starEach es X.env := by rfl) (hplain : (backTo cpos (starEach es X.env)).any (·.1) = false := by rfl) :
    PE X (.Call (.Attribute o name apos) (e :: es) [] cpos) (tBM K T r to t) := by
  subst hK
  exact pe_bm pa slot hty hm ho ha hbase hfew hline hs hplain
theorem pe_weak {e : Expr} {t t' : TE} (h : PE X e t) (m : ∀ σ H Q, t' σ H Q → t σ H Q) : PE X e t' := ⟨fun pins s σ H Q I g => h.run pins s σ H Q I (m σ H Q g)⟩
theorem pe_ex {e : Expr} {t : Nat → TE} {m : Nat} (h : ∀ n, n ≤ m → PE X e (t n)) : PE X e (fun σ H Q => ∃ n, n ≤ m ∧ t n σ H Q) := ⟨fun pins s σ H Q I ⟨n, hn, g⟩ => (h n hn).run pins s σ H Q I g⟩
theorem pss_ex {ι : Type} {sts : List Stmt} {t : ι → TS} (h : ∀ i, PSs X sts (t i)) : PSs X sts (fun D σ H => ∃ i, t i D σ H) := ⟨fun pins s σ H D I ⟨i, g⟩ => (h i).run pins s σ H D I g⟩
end
theorem blk_any {N : List Str} {sc sc' scope : Scope} {own : List (Str × Nat)} (h : BlkOk N sc scope own) (nf : ∀ y ∈ scope.names, y.2 ≠ .free) : BlkOk N sc' scope own := ⟨h.kind, h.uniq, h.ix, fun y hy e => absurd e (nf y hy), h.own⟩
theorem iteNT {c A B : Prop} [Decidable c] (hc : ¬ c) (h : A) : if (!decide c) = true then A else B := by
  rw [decide_eq_false hc]
  exact iteT h
theorem iteDF {c A B : Prop} [Decidable c] (hc : ¬ c) (h : B) : if decide c = true then A else B := by
  rw [decide_eq_false hc]
  exact iteF h
theorem iteDT {c A B : Prop} [Decidable c] (hc : c) (h : A) : if decide c = true then A else B := by
  rw [decide_eq_true hc]
  exact iteT h
theorem gmap {α β : Type} {f : α → β} {xs : List α} {i : Nat} {v : β} (h : (xs.map f)[i]? = some v) : ∃ x, xs[i]? = some x ∧ v = f x := by
  rw [List.getElem?_map] at h
  cases e : xs[i]? with
  | none => rw [e] at h; cases h
  | some x => rw [e] at h; exact ⟨x, rfl, (Option.some.inj h).symm⟩
/-- one statement, a block: from M to M' -/
def Step (X : Cx) (st : Stmt) (M M' : L2.St → Hp → Prop) : Prop := ∃ t, PS X st t ∧ ∀ (D : Ends) (σ : L2.St) (H : Hp), M σ H → (∀ σ' H', M' σ' H' → D.nx σ' H') → t D σ H
def Steps (X : Cx) (sts : List Stmt) (M M' : L2.St → Hp → Prop) : Prop := ∃ t, PSs X sts t ∧ ∀ (D : Ends) (σ : L2.St) (H : Hp), M σ H → (∀ σ' H', M' σ' H' → D.nx σ' H') → t D σ H
theorem Steps.nil {X : Cx} {M : L2.St → Hp → Prop} : Steps X [] M M := ⟨_, pss_nil, fun D σ H h k => k σ H h⟩
theorem Step.cons {X : Cx} {st : Stmt} {r : List Stmt} {M M1 M' : L2.St → Hp → Prop} (a : Step X st M M1) (b : Steps X r M1 M') : Steps X (st :: r) M M' := by
  obtain ⟨ta, ha, ha2⟩ := a
  obtain ⟨tb, hb, hb2⟩ := b
  exact ⟨_, C8.pss_cut ha hb, fun D σ H h k => ⟨M1, ha2 { D with nx := M1 } σ H h (fun _ _ z => z), fun σ' H' z => hb2 D σ' H' z k⟩⟩
def At (σ : L2.St) (i : Nat) (v : V) : Prop := σ[i]? = some (some v)
theorem ex1 {α : Type} {n : Nat} {l : List α} (h : l.length = n + 1) : ∃ a t, l = a :: t ∧ t.length = n := by
  cases l with
  | nil => cases h
  | cons a t => exact ⟨a, t, rfl, by simpa using h⟩
end GX

-- text RemS
set_option maxRecDepth 100000
set_option maxHeartbeats 4000000
/-! RemS: xs.remove(y) of texts; an attribute with the written part named; a walk over a list or a tuple. -/
namespace GX
open PySem PySem.Spec PyProof.Rows L2 LamX
def eqs (k : Str) (v : Value) : Bool := match v with
  | .str n _ => decide (n = k)
  | _ => false
theorem eqs_gives {k : Str} {t : Tok} : ∀ {us : List Value} {ns : List Str}, StrsAre us ns → ∀ y ∈ us, MeetsSeq.EqGives y (.str k t) (eqs k y)
  | _, _, .nil => fun y hy => by cases hy
  | _, _, .cons n t' h => fun y hy => by
    rcases List.mem_cons.mp hy with e | e
    · rw [e]
      exact fun _ _ _ _ _ _ h => wpAny_eqBool_str h
    · exact eqs_gives h y e
theorem erase_mapS : ∀ (l : List Str) (j : Nat), (l.map V.str).eraseIdx j = (l.eraseIdx j).map V.str
  | [], j => by simp
  | a :: r, 0 => by simp
  | a :: r, j + 1 => by
    have ih := erase_mapS r j
    simp [ih]
section
variable {X : Cx}
def rRemS : V → List V → Hp → VK → Prop := fun x xs H Q => ∃ (l : Addr) (ns : List Str) (k : Str) (j : Nat), x = .ref l ∧ xs = [.str k] ∧ H l = some (.lst (ns.map V.str)) ∧ ns[j]? = some k ∧ (∀ m : Nat, m < j → ns[m]? ≠ some k) ∧ Q .non (upd H l (.lst ((ns.eraseIdx j).map V.str)))
theorem mt_removeS : MtM X "list.remove" rRemS := by
  intro pins s σ H x xs v us Q I rx rxs h
  obtain ⟨l, ns, k, j, rfl, rfl, hH, hj, hno, q⟩ := h
  cases rx
  obtain ⟨u, rfl, ru⟩ := rxs.one
  obtain ⟨t, rfl⟩ := ru
  obtain ⟨z, its, n, r, hl, e⟩ := I.lstM hH
  have hi := strs_of_vals r
  rw [List.length_map] at hl z
  have hjn : j < ns.length := (List.getElem?_eq_some_iff.mp hj).1
  have hjl : j < its.toArray.size := by rw [List.size_toArray]; omega
  refine call_meets PySem.F.slot_list_remove ⟨_, e, rfl⟩ PySem.F.entry_list_remove (PySem.F.args_list_remove_2 _ _)
    (MeetsSeq.list_remove l its.toArray n (.str k t) (eqs k) (fun y hy => eqs_gives hi y (by simpa using hy)) j hjl ?_ ?_ (by rw [List.size_toArray]; omega)) ⟨e, ?_⟩
  · obtain ⟨tj, hjt⟩ := hi.get j k hj
    obtain ⟨h1, h2⟩ := List.getElem?_eq_some_iff.mp hjt
    have e1 : its.toArray[j] = .str k tj := by simpa using h2
    rw [e1]
    exact decide_eq_true rfl
  · intro m hm hmj
    have hmn : m < ns.length := by omega
    obtain ⟨tm, hmt⟩ := hi.get m _ (List.getElem?_eq_getElem hmn)
    obtain ⟨h1, h2⟩ := List.getElem?_eq_some_iff.mp hmt
    have e1 : its.toArray[m] = .str ns[m] tm := by simpa using h2
    rw [e1]
    refine decide_eq_false fun e2 => hno m hmj ?_
    rw [List.getElem?_eq_getElem hmn, e2]
  · have rr := r.eraseIdx j
    rw [erase_mapS] at rr
    refine ⟨.non, _, I.lset (its' := its.eraseIdx j) (t' := s.toks) hH e ?_ rr ?_, rfl, q⟩
    · show its.toArray.eraseIdxIfInBounds j = (its.eraseIdx j).toArray
      rw [List.eraseIdxIfInBounds_toArray]
    · have z2 := len_erase ns j
      rw [List.length_map]
      omega
theorem pe_fldK {K : PySem.W.Frag} {e : Expr} {f : Str} {pos : Pos} {ta : TE} (hK : X.K = K) (he : PE X e ta) (hb : attributeBase e f X.env (eval e X.env) = eval e X.env) : PE X (.Attribute e f pos) (tFld K ta f) := by
  subst hK
  exact pe_fld he hb
/-- one walk or another -/
theorem pi_or {tg e : Expr} {w1 w2 : TI} (h1 : PI X tg e w1) (h2 : PI X tg e w2) : PI X tg e (fun σ H R => w1 σ H R ∨ w2 σ H R) :=
  ⟨fun pins s σ H R I h => h.elim (h1.run pins s σ H R I) (h2.run pins s σ H R I)⟩
end
end GX

-- text KeyS
set_option maxRecDepth 100000
set_option maxHeartbeats 4000000
/-! KeyS: sorted(xs, key=f), f a def of the text that gives the first two of a tuple. -/
namespace GX
open PySem PySem.Spec PyProof.Rows L2 LamX
section
variable {P : Program} {w : World} {A : Around} {E : Value → Shared → Prop} {s : Shared}
theorem item_exact {env : Env} {x : Str} {m : Str → Option Value} {t : Addr} {items : Array Value} {i j : Nat} {y : Value} {p1 p2 p3 : Pos} {Q : Value → Shared → Prop} (hk : env.scope.kind = .function) (hl : env.kindOf x = some .local) (hn : s.heap.Ns env.locals m) (hm : m x = some (.ref t))
    (ht : IsTup s.heap t items) (hy : items[i]? = some y) (hi : i < 100) (hd : (x == ("__debug__" : Str)) = false) (hq : Q y { s with toks := s.toks + 1 }) : wpAny (model P w) A (eval (.Subscript (.Name x p1) (.Constant (.int (i : Int)) j p2) p3) env) Q E s := by
  refine Subscript_ (wpAny_Name (wpAny_loadName_local hk hl hn hm ?_) hd)
  refine wpAny_Constant_int ?_
  have hlt : i < items.size := (Array.getElem?_eq_some_iff.mp hy).1
  refine subscriptTail_builtinR (x := y) (IsTup.typeIs ht) slot_tuple_getitem.lookup (getItem_tuple (j := i) (Q := fun r s' => r = y ∧ Q r s') ht (by omega) (by omega) ?_ hy ⟨rfl, hq⟩) rfl
  rw [seqIndex_of (by omega) (by omega)]
  rfl
/-- f is a def whose key of a tuple is a tuple of its first two -/
structure Key2 (K : PySem.W.Frag) (f : Addr) (q x : Str) (sc : Scope) (bd : List Stmt) : Prop where
  ex : ∃ (pa : Arguments) (oc : Value) (od : Option Addr) (dV kV doc pm cdv ct : Value) (an : Option Addr) (osl : Array (Option Value)),
    K.lookup f = some ⟨oc, od, .func (PySem.W.fnOf q q pa bd sc dV kV doc pm an cdv ct), osl⟩ ∧ PySem.W.codeIn K cdv q = true ∧ L2.Binds K (PySem.W.fnOf q q pa bd sc dV kV doc pm an cdv ct) [x] []
  s : FnScope [x] [x] sc
  l : sc.names.lookup x = some .local
  d : (x == ("__debug__" : Str)) = false
  b : ∃ p1 p2 p3 p4 p5 p6 p7 p8 j1 j2 k, bd = [.Return (some (.Tuple [.Subscript (.Name x p1) (.Constant (.int 0) j1 p2) p3, .Subscript (.Name x p4) (.Constant (.int 1) j2 p5) p6] k p7)) p8]
theorem key_call {K : PySem.W.Frag} {f : Addr} {q x : Str} {sc : Scope} {bd : List Stmt} {t : Addr} {items : Array Value} {a b : Int} {ta tb : Tok} (G : Key2 K f q x sc bd) (hr : Room 1 A) (hK : K.In s.heap) (lim : s.heap.NoLimit) (ht : IsTup s.heap t items) (h0 : items[0]? = some (.int a ta)) (h1 : items[1]? = some (.int b tb)) :
    wpAny (model P w) A (call (.ref f) [.ref t]) (PySem.W.KeyPure (.tuple [.int a, .int b]) s) E s := by
  obtain ⟨pa, oc, od, dV, kV, doc, pm, cdv, ct, an, osl, lk, hcd, hb⟩ := G.ex
  obtain ⟨p1, p2, p3, p4, p5, p6, p7, p8, j1, j2, k, rfl⟩ := G.b
  have hkind : ∀ y ∈ [x].zip [Value.ref t], sc.names.lookup y.1 = some .local ∨ (sc.names.lookup y.1 = some .cell ∧ ((cellsFrom (s.heap.objs.size + 1) sc.names []).lookup y.1).isSome = true) := fun y hy => by
    rw [List.mem_singleton.mp (show y ∈ [(x, Value.ref t)] from hy)]
    exact .inl G.l
  have rc : codeAny (model P w) A (.call (.ref f) ⟨[.ref t], []⟩) (fun r s' => ∃ v, r = .ok (.ret v) ∧ PySem.W.KeyPure (.tuple [.int a, .int b]) s v s') s := by
    refine codeAny_call_function hr.depth (hK _ _ lk) rfl G.s.co G.s.gen rfl (PySem.W.codeRec_of hK hcd) (hb s [.ref t] hK rfl _ _ _ _ ?_)
    refine wpAny_newFunctionEnv_cells G.s.kind hkind fun env he s1 z => ?_
    subst he
    refine ⟨lim.keeps z.toInCall.keep, codeAny_func ?_⟩
    obtain ⟨h', tk, rfl, kp⟩ := z.done
    have hn := z.toInCall.ns
    have hmx : bindL (envOfC q sc s.heap.objs.size f cdv).kindOf ([x].zip [Value.ref t]) (fun _ => none) x = some (Value.ref t) := by
      have hk : (envOfC q sc s.heap.objs.size f cdv).kindOf x = some .local := G.l
      show bindL _ [(x, Value.ref t)] _ x = _
      simp [bindL, hk]
    refine wpAny_execs_cons ?_
    refine wpAny_Return_some (wpAny_Tuple_spliced ?_)
    show wpAny _ _ (spliced ((false, eval _ _) :: backTo p7 [(false, eval _ _)])) _ _ _
    refine Calls.spliced_cons (item_exact (i := 0) (m := _) G.s.kind G.l hn hmx (ht.keeps kp) h0 (by decide) G.d ?_)
    refine Calls.spliced_cons (item_exact (i := 1) (m := _) G.s.kind G.l hn hmx (ht.keeps kp) h1 (by decide) G.d ?_)
    refine Calls.spliced_nil ⟨by show 2 ≤ sizeLine; decide, ?_⟩
    refine ⟨_, rfl, _, _, rfl, fun b o e => Heap.get?_push_of_some _ (kp b o e), ?_⟩
    exact .tuple (Heap.get?_push_size _ rfl) rfl rfl (.cons (.int _ _) (.cons (.int _ _) .nil))
  refine wpAny_call (codeAny_mono rc fun r s' hq => ?_)
  obtain ⟨v, rfl, hq⟩ := hq
  exact hq
end
/-- by the first, then by the second -/
abbrev le2 (p q : Addr × Int × Int) : Bool := decide (p.2.1 < q.2.1 ∨ (p.2.1 = q.2.1 ∧ p.2.2 ≤ q.2.2))
def rSort2 (K : PySem.W.Frag) (f : Addr) : List V → List V → Hp → VK → Prop := fun vs zs H Q => ∃ (a : Addr) (xs : List (Addr × Int × Int)), vs = [V.ref a] ∧ zs = [.ref f] ∧ SqL K H a (xs.map fun x => V.ref x.1) ∧ (∀ x ∈ xs, ∃ rest, H x.1 = some (.tup (V.int x.2.1 :: V.int x.2.2 :: rest))) ∧
  ∀ p, H p = none → Q (.ref p) (upd H p (.lst ((xs.mergeSort le2).map fun x => V.ref x.1)))
theorem vals_refs : ∀ {xs : List (Addr × Int × Int)} {us : List Value}, Vals (xs.map fun x => V.ref x.1) us → PySem.W.EachIs (fun (v : Value) (x : Addr × Int × Int) => v = .ref x.1) us xs
  | [], _, .nil => .nil
  | x :: r, _, .cons h t => .cons h (vals_refs t)
theorem refs_vals : ∀ {xs : List (Addr × Int × Int)} {us : List Value}, PySem.W.EachIs (fun (v : Value) (x : Addr × Int × Int) => v = .ref x.1) us xs → Vals (xs.map fun x => V.ref x.1) us
  | [], _, .nil => .nil
  | x :: r, _, .cons h t => .cons h (refs_vals t)
theorem dataLe_fn {out : List Value} {xs : List (Addr × Int × Int)} (e : PySem.W.EachIs (fun (v : Value) (x : Addr × Int × Int) => v = .ref x.1) out (xs.mergeSort (PySem.W.dataLe false fun x : Addr × Int × Int => PyData.tuple [.int x.2.1, .int x.2.2]))) :
    PySem.W.EachIs (fun (v : Value) (x : Addr × Int × Int) => v = .ref x.1) out (xs.mergeSort le2) := by
  rw [PySem.W.dataLe_ii (β := Addr × Int × Int) (fun p => p.2.1) (fun p => p.2.2)] at e
  exact e
theorem cr_sort2 {X : Cx} {f : Addr} {q x : Str} {sc : Scope} {bd : List Stmt} (G : Key2 X.K f q x sc bd) (hr : Room 3 X.A) : CallRK X (.builtin "sorted") [Str.ofString "key"] (rSort2 X.K f) := by
  intro pins s σ H vs zs us ws Q I r rz h
  obtain ⟨a, xs, rfl, rfl, hs, ht, hq⟩ := h
  obtain rfl := Vals.ref1 r
  obtain rfl := Vals.ref1 rz
  obtain ⟨its, rv, hl, hz⟩ := I.list hs
  rw [List.length_map] at hz
  have hu := hr.units
  have e := vals_refs rv
  refine PySem.W.sorted_key_data (b := false) (fun x : Addr × Int × Int => PyData.tuple [.int x.2.1, .int x.2.2]) hl.isList e (PySem.W.AllAlike.of fun _ _ => by simp [PySem.W.alike, PySem.W.alikeAll]) (PySem.W.Sortable.tuples fun _ => ⟨_, _, rfl⟩) hz (fun x _ => ?_) (PyProof.Rows.ksk_s1 _ _) (fun _ => PyProof.Rows.ksk_l1 _ _) (fun _ => PyProof.Rows.ksk_t1 _ _)
    (fun v x hv hx h tk kp => ?_) fun out c h' tk kp _ hD _ eo => ?_
  · have hd : (PyData.tuple [.int x.2.1, .int x.2.2]).depth = 1 := by simp [PyData.depth, PyData.depthAll]
    rw [hd]
    omega
  · have hv : v = .ref x.1 := hv
    subst hv
    obtain ⟨rest, hx1⟩ := ht x hx
    obtain ⟨_, vs, rvs, it⟩ := I.hok x.1 _ hx1
    cases rvs with
    | cons r1 rvs =>
      cases rvs with
      | cons r2 rvs =>
        obtain ⟨t1, rfl⟩ := r1
        obtain ⟨t2, rfl⟩ := r2
        exact key_call (s := { s with heap := h, toks := tk }) G hr.in1.in1 (I.kIn.keeps kp) (I.nolimit.keeps kp) (it.keeps kp) rfl rfl
  · have e2 := dataLe_fn eo
    have hlen : ((xs.mergeSort le2).map fun x => V.ref x.1).length ≤ sizeLine := by rw [List.length_map, List.length_mergeSort]; exact hz
    exact ⟨.ref _, upd H (s.heap.objs.size + 1) (.lst ((xs.mergeSort le2).map fun x => V.ref x.1)), I.laid (t' := tk) kp (Nat.le_succ _) ⟨hlen, _, c, refs_vals e2, hD⟩, rfl, hq _ (I.hok.fresh (Nat.le_succ _))⟩
end GX

-- text SortT
set_option maxRecDepth 100000
set_option maxHeartbeats 4000000
/-! SortT: sorted of a list or a tuple of data, and by a key that gives data. -/
namespace GX
open PySem PySem.W PySem.Spec PySem.Calls PyProof.Rows L2 LamX
/-- a list or a tuple -/
def IsSeq (h : Heap) (l : Addr) (vs : List Value) : Prop := ∃ o T, h.get? l = some o ∧ o.cls = .type T ∧ (T = "list" ∨ T = "tuple") ∧ ∃ n, o.data = .seq vs.toArray n
section
variable {prog : Program} {w : World} {A : Around} {E : Value → Shared → Prop} {s : Shared}
theorem collect_seq {l : Addr} {vs : List Value} {Q : List Value → Shared → Prop} (hl : IsSeq s.heap l vs)
    (h : Q vs { s with heap := (s.heap.push (seqObj "list" #[] 0)).update s.heap.objs.size (Obj.mapSeq (· ++ vs.toArray)) }) (hsz : vs.length ≤ sizeLine) :
    wpAny (model prog w) A (collect (.ref l)) Q E s := by
  obtain ⟨o, T, ho, hc, hT, n, hd⟩ := id hl
  unfold collect
  refine wpAny_bind (wpAny_runValue (codeAny_builtin entry_proto_collect' ?_))
  show wpAny _ _ (do again (.builtin "list.__iadd__" ⟨[← newList [], .ref l], []⟩)) _ _ s
  refine wpAny_bind (wpAny_newList (wpAny_pure ⟨Code.quiet_builtin _ (by decide +kernel), codeAny_builtin entry_list_iadd' ?_⟩))
  show wpAny _ _ (Builtin.List.listExtendWith (.ref s.heap.objs.size) (.ref l) (.ref s.heap.objs.size)) _ _ { s with heap := s.heap.push (seqObj "list" #[] 0) }
  unfold Builtin.List.listExtendWith
  have ho' : (s.heap.push (seqObj "list" #[] 0)).get? l = some o := Heap.get?_push_of_some _ ho
  refine wpAny_bind (wpAny_typeOf (T := T) ⟨o, ho', hc⟩ ?_)
  have ht : ((Value.type T == Value.type "list") || (Value.type T == Value.type "tuple")) = true := by rcases hT with rfl | rfl <;> rfl
  rw [if_pos (by rw [Bool.or_assoc, ht, Bool.or_true])]
  refine wpAny_bind (listItems_at ho' hd ?_)
  refine wpAny_bind (listItems_at (xs := #[]) (n := 0) (Heap.get?_push_size _ rfl) rfl ?_)
  rw [if_neg (by simp)]
  refine wpAny_bind (listUpdate_at (xs := #[]) (n := 0) (Heap.get?_push_size _ rfl) rfl ?_ (Nat.zero_le _) (by show (#[] ++ vs.toArray).size ≤ sizeLine + 1; simp only [Array.size_append, List.size_toArray, List.length_nil]; omega))
  refine wpAny_pure ?_
  show wpAny (model prog w) A (do
      let o ← load s.heap.objs.size
      match o.data with
      | .seq xs _ => pure xs.toList
      | _ => unsupported "internal:collect") Q E { s with heap := (s.heap.push (seqObj "list" #[] 0)).update s.heap.objs.size (Obj.mapSeq (· ++ vs.toArray)) }
  refine wpAny_bind (wpAny_load (get?_update_seq (Heap.get?_push_size _ rfl) _) ?_)
  show wpAny _ _ (pure ((#[] : Array Value) ++ vs.toArray).toList) Q E _
  rw [show ((#[] : Array Value) ++ vs.toArray).toList = vs by simp]
  exact wpAny_pure h
theorem sorted_of_sortT {l : Addr} {vs : List Value} {kw : List (Str × Value)} {Q : Value → Shared → Prop} (hl : IsSeq s.heap l vs) (hL : vs.length ≤ sizeLine) (ha1 : argsOk "sorted" ⟨[.ref l], kw⟩) (ha2 : ∀ x, argsOk "list.sort" ⟨[.ref x], kw⟩)
    (body : ∀ E' : Value → Shared → Prop, wpAny (model prog w) A.in1.in1 (Builtin.«list.sort» ⟨[.ref (s.heap.objs.size + 1)], kw⟩) (fun f s' => f = .done (.ret .none) ∧ Q (.ref (s.heap.objs.size + 1)) s') E' { s with heap := copyHeap s.heap vs }) :
    wpAny (model prog w) A (call (.builtin "sorted") [.ref l] kw) Q E s := by
  refine call_function_entry_kw kind_sorted plain_sorted entry_sorted ha1 ?_
  unfold Builtin.«sorted»
  refine wpAny_bind (m := checkCount "sorted" 1 1 _) (wpAny_pure ?_)
  refine wpAny_bind (collect_seq hl ?_ hL)
  refine wpAny_bind (wpAny_newList ?_ hL)
  have hsz : ((s.heap.push (seqObj "list" #[] 0)).update s.heap.objs.size (Obj.mapSeq (· ++ vs.toArray))).objs.size = s.heap.objs.size + 1 := by
    rw [Heap.size_update, size_push']
  show wpAny _ _ _ _ _ { s with heap := copyHeap s.heap vs }
  rw [hsz]
  refine wpAny_bind (wpAny_holding (wpAny_call_entry_kw slot_list_sort ⟨_, copyHeap_at s.heap vs, rfl⟩ entry_list_sort ?body (ha2 _)))
  case body =>
    show wpAny (model prog w) A.in1.in1 (Builtin.«list.sort» ⟨[.ref (s.heap.objs.size + 1)], kw⟩) _ _ _
    refine wpAny_mono (body _) (fun f s' hf => ?_) fun _ _ e => e
    obtain ⟨rfl, hq⟩ := hf
    exact ⟨_, rfl, wpAny_pure ⟨_, rfl, hq⟩⟩
end
section
variable {X : Cx} {K : PySem.W.Frag}
theorem inv_seq {pins : List (Addr × Obj)} {σ : L2.St} {H : Hp} {s : Shared} {a : Addr} {xs : List V} (I : Inv X pins σ H s) (h : SqL X.K H a xs ∨ SqT X.K H a xs) : ∃ its, Vals xs its ∧ IsSeq s.heap a its ∧ xs.length ≤ sizeLine := by
  rcases h with h | h
  · obtain ⟨its, rv, ⟨o, n, ho, hc, hdn, hd⟩, hz⟩ := I.list h
    exact ⟨its, rv, ⟨o, "list", ho, hc, .inl rfl, n, hd⟩, hz⟩
  · obtain ⟨its, rv, ⟨o, ho, hc, n, hd⟩, hz⟩ := I.tuple h
    exact ⟨its, rv, ⟨o, "tuple", ho, hc, .inr rfl, n, hd⟩, hz⟩
theorem vals_refsD {α : Type} : ∀ {xs : List (Addr × α)} {us : List Value}, Vals (xs.map fun x => V.ref x.1) us → EachIs (fun (v : Value) (x : Addr × α) => v = .ref x.1) us xs
  | [], _, .nil => .nil
  | x :: r, _, .cons h t => .cons h (vals_refsD t)
theorem refs_valsD {α : Type} : ∀ {xs : List (Addr × α)} {us : List Value}, EachIs (fun (v : Value) (x : Addr × α) => v = .ref x.1) us xs → Vals (xs.map fun x => V.ref x.1) us
  | [], _, .nil => .nil
  | x :: r, _, .cons h t => .cons h (refs_valsD t)
/-- sorted(xs), xs a list or a tuple of objects that read as data -/
def rSortDat (K : PySem.W.Frag) : List V → Hp → VK → Prop := fun vs H Q => ∃ (a : Addr) (xs : List (Addr × PyData)), vs = [V.ref a] ∧ (SqL K H a (xs.map fun x => V.ref x.1) ∨ SqT K H a (xs.map fun x => V.ref x.1)) ∧ (∀ x ∈ xs, Dp K H (.ref x.1) x.2) ∧
  AllAlike (xs.map (·.2)) ∧ Sortable (xs.map (·.2)) ∧ (∀ x ∈ xs, x.2.depth ≤ 8) ∧ ∀ p, H p = none → Q (.ref p) (upd H p (.lst ((xs.mergeSort (dataLe false fun x : Addr × PyData => x.2)).map fun x => V.ref x.1)))
theorem each_mem' {α β : Type} {R : α → β → Prop} {S : α → β → Prop} : ∀ {as : List α} {bs : List β}, EachIs R as bs → (∀ a b, b ∈ bs → R a b → S a b) → EachIs S as bs
  | [], [], _, _ => .nil
  | _ :: _, _ :: _, .cons h t, k => .cons (k _ _ List.mem_cons_self h) (each_mem' t fun a b hb => k a b (List.mem_cons_of_mem _ hb))
theorem cr_sortDat (hr : Room 3 X.A) : CallR X (.builtin "sorted") (rSortDat X.K) := by
  intro pins s σ H vs us Q I r h
  obtain ⟨a, xs, rfl, hs, hd, hal, hk, hdep, hq⟩ := h
  obtain rfl := Vals.ref1 r
  obtain ⟨its, rv, hl, hz⟩ := inv_seq I hs
  rw [List.length_map] at hz
  have hu := hr.units
  have e := vals_refsD rv
  have er : EachIs (fun (v : Value) (x : Addr × PyData) => ∃ as, Reads s.heap v x.2 as) its xs := each_mem' e fun v x hx hv => Dp.reads I x.2 (.ref x.1) v (hd x hx) hv
  have er' : EachIs (fun (v : Value) (x : Addr × PyData) => ∃ as, Reads (sortingHeap (copyHeap s.heap its) (s.heap.objs.size + 1) its) v x.2 as) its xs := er.mono fun _ _ ⟨as, r⟩ => ⟨as, PyProof.Rows.Reads.keeps (fun _ _ => sorting_copy_old) r⟩
  refine sorted_of_sortT hl (by rw [e.length]; exact hz) (args_sorted1 _) (fun _ => args_list_sort _) fun _ => list_sort_vals (s := { s with heap := copyHeap s.heap its }) (copyHeap_at s.heap its)
    (SortsAt.data (s := { s with heap := sortingHeap (copyHeap s.heap its) (s.heap.objs.size + 1) its }) (each_map (R := fun v d => ∃ as, Reads (sortingHeap (copyHeap s.heap its) (s.heap.objs.size + 1) its) v d as) (fun x : Addr × PyData => x.2) er') hal hk (bound_map fun x hx => ?_)) (by rw [e.length]; exact hz) ⟨rfl, ?_⟩
  · have := hdep x hx
    show X.A.units + 2 + x.2.depth < cLine
    omega
  · have eo := sortVals_data false e er' hal
    obtain ⟨ep, he'⟩ := PyProof.Rows.sortedAll_at s.heap its (sortVals (dataKind (sortingHeap (copyHeap s.heap its) (s.heap.objs.size + 1) its) (xs.map fun x : Addr × PyData => x.2)) false its its).toArray
    have hlen : ((xs.mergeSort (dataLe false fun x : Addr × PyData => x.2)).map fun x => V.ref x.1).length ≤ sizeLine := by rw [List.length_map, List.length_mergeSort]; exact hz
    exact ⟨.ref _, upd H (s.heap.objs.size + 1) (.lst ((xs.mergeSort (dataLe false fun x : Addr × PyData => x.2)).map fun x => V.ref x.1)), I.laid (t' := s.toks) (fun _ _ => PyProof.Rows.sortedAll_old) (Nat.le_succ _) ⟨hlen, _, ep, refs_valsD eo, he'⟩, rfl, hq _ (I.hok.fresh (Nat.le_succ _))⟩
end
/-- f is a def whose key of (a, b, n) is (n, a, b) -/
structure Key3 (K : PySem.W.Frag) (f : Addr) (q x : Str) (sc : Scope) (bd : List Stmt) : Prop where
  ex : ∃ (pa : Arguments) (oc : Value) (od : Option Addr) (dV kV doc pm cdv ct : Value) (an : Option Addr) (osl : Array (Option Value)),
    K.lookup f = some ⟨oc, od, .func (PySem.W.fnOf q q pa bd sc dV kV doc pm an cdv ct), osl⟩ ∧ PySem.W.codeIn K cdv q = true ∧ L2.Binds K (PySem.W.fnOf q q pa bd sc dV kV doc pm an cdv ct) [x] []
  s : FnScope [x] [x] sc
  l : sc.names.lookup x = some .local
  d : (x == ("__debug__" : Str)) = false
  b : ∃ p1 p2 p3 p4 p5 p6 p7 p8 p9 p10 p11 j1 j2 j3 k, bd = [.Return (some (.Tuple [.Subscript (.Name x p1) (.Constant (.int 2) j1 p2) p3, .Subscript (.Name x p4) (.Constant (.int 0) j2 p5) p6, .Subscript (.Name x p9) (.Constant (.int 1) j3 p10) p11] k p7)) p8]
section
variable {P : Program} {w : World} {A : Around} {E : Value → Shared → Prop} {s : Shared}
theorem key_call3 {K : PySem.W.Frag} {f : Addr} {q x : Str} {sc : Scope} {bd : List Stmt} {t : Addr} {items : Array Value} {a b : Str} {n : Int} {ta tb tn : Tok} (G : Key3 K f q x sc bd) (hr : Room 1 A) (hK : K.In s.heap) (lim : s.heap.NoLimit) (ht : IsTup s.heap t items) (h0 : items[0]? = some (.str a ta)) (h1 : items[1]? = some (.str b tb)) (h2 : items[2]? = some (.int n tn)) :
    wpAny (model P w) A (call (.ref f) [.ref t]) (PySem.W.KeyPure (.tuple [.int n, .str a, .str b]) s) E s := by
  obtain ⟨pa, oc, od, dV, kV, doc, pm, cdv, ct, an, osl, lk, hcd, hb⟩ := G.ex
  obtain ⟨p1, p2, p3, p4, p5, p6, p7, p8, p9, p10, p11, j1, j2, j3, k, rfl⟩ := G.b
  have hkind : ∀ y ∈ [x].zip [Value.ref t], sc.names.lookup y.1 = some .local ∨ (sc.names.lookup y.1 = some .cell ∧ ((cellsFrom (s.heap.objs.size + 1) sc.names []).lookup y.1).isSome = true) := fun y hy => by
    rw [List.mem_singleton.mp (show y ∈ [(x, Value.ref t)] from hy)]
    exact .inl G.l
  have rc : codeAny (model P w) A (.call (.ref f) ⟨[.ref t], []⟩) (fun r s' => ∃ v, r = .ok (.ret v) ∧ PySem.W.KeyPure (.tuple [.int n, .str a, .str b]) s v s') s := by
    refine codeAny_call_function hr.depth (hK _ _ lk) rfl G.s.co G.s.gen rfl (PySem.W.codeRec_of hK hcd) (hb s [.ref t] hK rfl _ _ _ _ ?_)
    refine wpAny_newFunctionEnv_cells G.s.kind hkind fun env he s1 z => ?_
    subst he
    refine ⟨lim.keeps z.toInCall.keep, codeAny_func ?_⟩
    obtain ⟨h', tk, rfl, kp⟩ := z.done
    have hn := z.toInCall.ns
    have hmx : bindL (envOfC q sc s.heap.objs.size f cdv).kindOf ([x].zip [Value.ref t]) (fun _ => none) x = some (Value.ref t) := by
      have hk : (envOfC q sc s.heap.objs.size f cdv).kindOf x = some .local := G.l
      show bindL _ [(x, Value.ref t)] _ x = _
      simp [bindL, hk]
    refine wpAny_execs_cons ?_
    refine wpAny_Return_some (wpAny_Tuple_spliced ?_)
    show wpAny _ _ (spliced ((false, eval _ _) :: backTo p7 [(false, eval _ _), (false, eval _ _)])) _ _ _
    refine Calls.spliced_cons (item_exact (i := 2) (m := _) G.s.kind G.l hn hmx (ht.keeps kp) h2 (by decide) G.d ?_)
    refine Calls.spliced_cons (item_exact (i := 0) (m := _) G.s.kind G.l hn hmx (ht.keeps kp) h0 (by decide) G.d ?_)
    refine Calls.spliced_cons (item_exact (i := 1) (m := _) G.s.kind G.l hn hmx (ht.keeps kp) h1 (by decide) G.d ?_)
    refine Calls.spliced_nil ⟨by show 3 ≤ sizeLine; decide, ?_⟩
    refine ⟨_, rfl, _, _, rfl, fun b o e => Heap.get?_push_of_some _ (kp b o e), ?_⟩
    exact .tuple (Heap.get?_push_size _ rfl) rfl rfl (.cons (.int _ _) (.cons (.str _ _) (.cons (.str _ _) .nil)))
  refine wpAny_call (codeAny_mono rc fun r s' hq => ?_)
  obtain ⟨v, rfl, hq⟩ := hq
  exact hq
/-- sorted(xs, key=f[, reverse=b]), xs a list or a tuple -/
theorem sorted_key_dataT {β : Type} {vs : List Value} {bs : List β} {R : Value → β → Prop} {l : Addr} {f : Value} {kw : List (Str × Value)} {b : Bool} {Q : Value → Shared → Prop} (k : β → PyData) (hl : IsSeq s.heap l vs) (e : EachIs R vs bs) (hal : AllAlike (bs.map k)) (hk : Sortable (bs.map k)) (hL : bs.length ≤ sizeLine)
    (hu : ∀ x, x ∈ bs → A.units + 2 + (k x).depth < cLine) (ha1 : argsOk "sorted" ⟨[.ref l], kw⟩) (ha2 : ∀ x, argsOk "list.sort" ⟨[.ref x], kw⟩) (ht : ∀ x, Builtin.«list.sort» ⟨[.ref x], kw⟩ = ksk_tree x f b)
    (turn : ∀ (v : Value) (x : β), R v x → x ∈ bs → ∀ (h : Heap) (tk : Nat), (∀ b o, s.heap.get? b = some o → h.get? b = some o) →
      wpAny (model P w) A.in1.in1 (call f [v]) (KeyPure (k x) { s with heap := h, toks := tk }) (fun _ _ => False) { s with heap := h, toks := tk })
    (h : ∀ out c h' tk, (∀ b o, s.heap.get? b = some o → h'.get? b = some o) → s.heap.get? (s.heap.objs.size + 1) = none → h'.get? (s.heap.objs.size + 1) = some (seqObj "list" (List.toArray out) c) → out.length = bs.length → EachIs R out (bs.mergeSort (dataLe b k)) →
      Q (.ref (s.heap.objs.size + 1)) { s with heap := h', toks := tk }) :
    wpAny (model P w) A (call (.builtin "sorted") [.ref l] kw) Q E s := by
  have fresh : s.heap.get? (s.heap.objs.size + 1) = none := Heap.get?_none_of_le (Nat.le_succ _)
  have up : ∀ {g : Heap}, KeepsBut (s.heap.objs.size + 1) (copyHeap s.heap vs) g → ∀ b o, s.heap.get? b = some o → g.get? b = some o := fun {g} kp b o q =>
    kp b o (Nat.ne_of_lt (Nat.lt_succ_of_lt (Heap.lt_size q))) (copyHeap_old q)
  refine sorted_of_sortT hl (by rw [e.length]; exact hL) ha1 ha2 fun E' => ?_
  rw [ht]
  refine keyH_tree (kz := bs.map k) (s := { s with heap := copyHeap s.heap vs }) (copyHeap_at s.heap vs) (by rw [List.length_map]; exact e.length.symm) (by rw [e.length]; exact hL) hal hk (bound_map (A := A.in1.in1) hu)
    (keyH_turns (s := { s with heap := copyHeap s.heap vs }) e fun v x hR hx h tk kp => turn v x hR hx h tk (up kp)) fun h' tk out c kp hD ko => ⟨rfl, ?_⟩
  exact h out c h' tk (up kp) fresh hD ((ko.length (by rw [List.length_map]; exact e.length.symm)).trans e.length) (keyedOut_each k ko e)
end
abbrev Lk3 := Str × Str × Int
/-- what links are put in order by -/
def lkKey (l : Lk3) : PyData := .tuple [.int l.2.2, .str l.1, .str l.2.1]
def rSort3 (K : PySem.W.Frag) (f : Addr) : List V → List V → Hp → VK → Prop := fun vs zs H Q => ∃ (a : Addr) (xs : List (Addr × Lk3)), vs = [V.ref a] ∧ zs = [.ref f] ∧ (SqL K H a (xs.map fun x => V.ref x.1) ∨ SqT K H a (xs.map fun x => V.ref x.1)) ∧ (∀ x ∈ xs, H x.1 = some (.tup [.str x.2.1, .str x.2.2.1, .int x.2.2.2])) ∧
  ∀ p, H p = none → Q (.ref p) (upd H p (.lst ((xs.mergeSort (dataLe false fun x : Addr × Lk3 => lkKey x.2)).map fun x => V.ref x.1)))
theorem cr_sort3 {X : Cx} {f : Addr} {q x : Str} {sc : Scope} {bd : List Stmt} (G : Key3 X.K f q x sc bd) (hr : Room 3 X.A) : CallRK X (.builtin "sorted") [Str.ofString "key"] (rSort3 X.K f) := by
  intro pins s σ H vs zs us ws Q I r rz h
  obtain ⟨a, xs, rfl, rfl, hs, ht, hq⟩ := h
  obtain rfl := Vals.ref1 r
  obtain rfl := Vals.ref1 rz
  obtain ⟨its, rv, hl, hz⟩ := inv_seq I hs
  rw [List.length_map] at hz
  have hu := hr.units
  have e := vals_refsD rv
  refine sorted_key_dataT (b := false) (fun x : Addr × Lk3 => lkKey x.2) hl e (AllAlike.of fun _ _ => by simp [lkKey, PySem.W.alike, PySem.W.alikeAll]) (Sortable.tuples fun _ => ⟨_, _, rfl⟩) hz (fun x _ => ?_) (PyProof.Rows.ksk_s1 _ _) (fun _ => PyProof.Rows.ksk_l1 _ _) (fun _ => PyProof.Rows.ksk_t1 _ _)
    (fun v x hv hx h tk kp => ?_) fun out c h' tk kp _ hD _ eo => ?_
  · have hd : (lkKey x.2).depth = 1 := by simp [lkKey, PyData.depth, PyData.depthAll]
    rw [hd]
    omega
  · have hv : v = .ref x.1 := hv
    subst hv
    have hx1 := ht x hx
    obtain ⟨_, vs, rvs, it⟩ := I.hok x.1 _ hx1
    cases rvs with
    | cons r1 rvs =>
      cases rvs with
      | cons r2 rvs =>
        cases rvs with
        | cons r3 rvs =>
          obtain ⟨t1, rfl⟩ := r1
          obtain ⟨t2, rfl⟩ := r2
          obtain ⟨t3, rfl⟩ := r3
          exact key_call3 (s := { s with heap := h, toks := tk }) G hr.in1.in1 (I.kIn.keeps kp) (I.nolimit.keeps kp) (it.keeps kp) rfl rfl rfl
  · have hlen : ((xs.mergeSort (dataLe false fun x : Addr × Lk3 => lkKey x.2)).map fun x => V.ref x.1).length ≤ sizeLine := by rw [List.length_map, List.length_mergeSort]; exact hz
    exact ⟨.ref _, upd H (s.heap.objs.size + 1) (.lst ((xs.mergeSort (dataLe false fun x : Addr × Lk3 => lkKey x.2)).map fun x => V.ref x.1)), I.laid (t' := tk) kp (Nat.le_succ _) ⟨hlen, _, c, refs_valsD eo, hD⟩, rfl, hq _ (I.hok.fresh (Nat.le_succ _))⟩
end GX

-- text Hid
set_option maxRecDepth 100000
set_option maxHeartbeats 4000000
/-! Hid: the store without some addresses. -/
namespace GX
open PySem PySem.Spec PyProof.Rows L2 LamX
section
variable {H H1 : Hp} {T : List (Addr × Str)}
/-- the store without the addresses ds -/
def hid (H : Hp) (ds : List Addr) : Hp := fun b => if b ∈ ds then none else H b
theorem hid_at {ds : List Addr} {a : Addr} {v : HO} (h : H a = some v) (n : a ∉ ds) : hid H ds a = some v := by unfold hid; rw [if_neg n]; exact h
theorem hid_no {ds : List Addr} {a : Addr} (n : a ∈ ds) : hid H ds a = none := by unfold hid; rw [if_pos n]
theorem hid_sub {ds : List Addr} {b : Addr} {v : HO} (h : hid H ds b = some v) : H b = some v ∧ b ∉ ds := by
  unfold hid at h
  by_cases hb : b ∈ ds
  · rw [if_pos hb] at h; cases h
  · rw [if_neg hb] at h; exact ⟨h, hb⟩
theorem hid_le {ds : List Addr} (t : Tabs T H) : Le T (hid H ds) H := ⟨fun q u e _ => (hid_sub e).1, t, fun q e => by
  unfold hid
  by_cases hq : q ∈ ds
  · rw [if_pos hq]
  · rw [if_neg hq]; exact e⟩
/-- tables do not lie at a list, a dict, an instance .. -/
theorem tabs_hid {ds : List Addr} (t : Tabs T H) (hm : ∀ d ∈ ds, ∀ u, H d = some u → PlainO u) : Tabs T (hid H ds) := fun q hq => by
  obtain ⟨ps, h1, h2, h3⟩ := t q hq
  have n1 : q.1 ∉ ds := fun z => by
    have := hm _ z _ h1
    exact this
  refine ⟨ps, hid_at h1 n1, h2, fun pos cv hc => ?_⟩
  obtain ⟨c, e1, e2⟩ := h3 pos cv hc
  have n2 : c ∉ ds := fun z => by
    have := hm _ z _ e2
    exact this
  exact ⟨c, e1, hid_at e2 n2⟩
/-- what B held, H without ds holds, if B held none of ds -/
theorem Le.hid {B : Hp} {ds : List Addr} (x : Le T B H) (hB : ∀ d ∈ ds, B d = none) (hm : ∀ d ∈ ds, ∀ u, H d = some u → PlainO u) : Le T B (hid H ds) :=
  ⟨fun q u e n => hid_at (x.ext q u e n) fun z => (by rw [hB q z] at e; cases e), tabs_hid x.tab hm, fun q e => by
    by_cases hq : q ∈ ds
    · exact hB q hq
    · unfold GX.hid at e
      rw [if_neg hq] at e
      exact x.no q e⟩
end
end GX

-- text LcP
set_option maxRecDepth 100000
set_option maxHeartbeats 4000000
/-! LcP: [e for t in xs if p]: the list of those picked. -/
namespace GX
open PySem PySem.Spec PyProof.Rows L2 LamX
structure WalksV (K : PySem.W.Frag) (T : List (Addr × Str)) (H1 : Hp) (xs : List V) (J : It) : Prop where
  go : ∀ i H', Le T H1 H' → i < xs.length → J.go i H'
  stop : ∀ H', Le T H1 H' → J.stop xs.length H'
  yld : ∀ i H' x H'', Le T H1 H' → J.yld i H' x H'' → H'' = H' ∧ xs[i]? = some x
theorem walksVL {K : PySem.W.Frag} {T : List (Addr × Str)} {H1 : Hp} {xs : List V} {k : Addr} (h : SqL K H1 k xs) : WalksV K T H1 xs (Itl K k) where
  go i H' l hi := Itl_go (l.seqL h) hi
  stop H' l := Itl_stop (l.seqL h) (Nat.le_refl _)
  yld i H' x H'' l y := Itl_yld (l.seqL h) y
theorem walksVT {K : PySem.W.Frag} {T : List (Addr × Str)} {H1 : Hp} {xs : List V} {k : Addr} (h : SqT K H1 k xs) : WalksV K T H1 xs (Itt K k) where
  go i H' l hi := Itt_go (l.seqT h) hi
  stop H' l := Itt_stop (l.seqT h) (Nat.le_refl _)
  yld i H' x H'' l y := Itt_yld (l.seqT h) y
theorem lc_pick {α : Type} {K : PySem.W.Frag} {T : List (Addr × Str)} {J : It} {g : TG} {tt : TT} {te : TE} {vs : List Nat} {σ : L2.St} {H1 : Hp} {D : Addr} {Qd : Hp → Prop} {xs : List α} {f : α → V} (p : α → Bool) (e : α → V) (hw : WalksV K T H1 (xs.map f) J) (hT : Tabs T H1) (hD : H1 D = none) (hl : xs.length ≤ 100000)
    (hs : ∀ x ∈ xs, ∀ (H' : Hp) (Y : V → Hp → Prop) (N : Hp → Prop), Le T H1 H' → (∀ H4, Le T H' H4 → p x = true → Y (e x) H4) → (∀ H4, Le T H' H4 → p x = false → N H4) →
      g (f x) (wipe σ vs) H' fun σ2 H2 => wipe σ2 vs = wipe σ vs ∧ tt σ2 H2 fun b H3 => if b = true then te σ2 H3 Y else N H3)
    (hq : ∀ H', Le T H1 H' → H' D = some (.lst ((xs.filter p).map e)) → Qd H') :
    ∃ W : Nat → Nat → Hp → Prop, (∃ m, W 0 m (upd H1 D (.lst []))) ∧ ∀ i m H, W i m H →
      (J.stop i H ∧ Qd H) ∨ (J.go i H ∧ ∃ Nx : Hp → Prop, (∀ H', Nx H' → ∃ m', m' < m ∧ W (i + 1) m' H') ∧ ∀ x H', J.yld i H x H' → g x (wipe σ vs) H' fun σ2 H2 => wipe σ2 vs = wipe σ vs ∧ tt σ2 H2 fun b H3 =>
        if b = true then te σ2 H3 fun y H4 => ∃ acc, H4 D = some (.lst acc) ∧ acc.length < sizeLine ∧ Nx (upd H4 D (.lst (acc ++ [y]))) else Nx H3) := by
  have ll : (xs.map f).length = xs.length := List.length_map _
  refine lc_n xs.length (fun m H' => Le T H1 H' ∧ H' D = some (.lst (((xs.take m).filter p).map e))) ⟨(Le.refl hT).new hD, upd_same⟩ (fun m H' hm ⟨L1, h1⟩ => ⟨hw.go m H' L1 (by omega), ?_⟩) (fun H' ⟨L1, h1⟩ => ⟨ll ▸ hw.stop H' L1, ?_⟩)
  · intro x H2 hy
    obtain ⟨rfl, hx⟩ := hw.yld m H' x H2 L1 hy
    obtain ⟨z, hz, rfl⟩ := gmap hx
    have htk : xs.take (m + 1) = xs.take m ++ [z] := GX.take_snoc hz
    refine hs z (List.mem_of_getElem? hz) _ _ _ L1 (fun H4 L4 hp => ⟨_, L4.at h1, ?_, (L1.trans L4).set hD (L4.at h1), ?_⟩) (fun H4 L4 hp => ⟨L1.trans L4, ?_⟩)
    · rw [List.length_map]
      exact Nat.lt_of_le_of_lt (Nat.le_trans (List.length_filter_le _ _) (by rw [List.length_take]; exact Nat.le_trans (Nat.min_le_left _ _) (show m ≤ 100000 by omega))) (by decide)
    · rw [upd_same, htk, List.filter_append, List.filter_cons_of_pos hp, List.map_append]
      rfl
    · rw [htk, List.filter_append, List.filter_cons_of_neg (by rw [hp]; exact Bool.false_ne_true), L4.at h1]
      simp
  · rw [List.take_of_length_le (Nat.le_refl _)] at h1
    exact hq H' L1 h1
end GX

-- text LamV
set_option maxRecDepth 100000
set_option maxHeartbeats 4000000
/-! LamV: lambdas without parameters as values, and a def that is handed one of them from within a list comprehension. -/
namespace GX
open PySem PySem.Spec PyProof.Rows L2 LamX
/-- the object at f is that lambda -/
def LamO (f : Addr) (q : Str) (params : Arguments) (body : Expr) (scope : Scope) (cl : List (Str × Addr)) (c : Addr) : HO :=
  .ext fun h => ∃ pm ctv : Value, h.get? f = some (PySem.W.kla_obj "<lambda>" q params body scope cl pm c ctv)
section
variable {X : Cx} {pins : List (Addr × Obj)} {σ : L2.St} {H HZ : Hp} {s : Shared}
theorem inv_lamO {q : Str} {params : Arguments} {body : Expr} {scope : Scope} {cl : List (Str × Addr)} {pm ctv : Value} {c' : Addr} {t' : Nat} (I : Inv X pins σ H s) :
    Inv X pins σ (upd H s.heap.objs.size (LamO s.heap.objs.size q params body scope cl c')) { s with heap := s.heap.push (PySem.W.kla_obj "<lambda>" q params body scope cl pm c' ctv), toks := t' } := by
  refine I.laid (a := s.heap.objs.size) (fun b u e => Heap.get?_push_of_some _ e) (Nat.le_refl _) ?_
  have e : (s.heap.push (PySem.W.kla_obj "<lambda>" q params body scope cl pm c' ctv)).get? s.heap.objs.size = some (PySem.W.kla_obj "<lambda>" q params body scope cl pm c' ctv) := Heap.get?_push_size _ rfl
  exact ⟨⟨pm, ctv, e⟩, ⟨_, e⟩, fun h1 h2 ⟨pm, ctv, z⟩ st => ⟨pm, ctv, st _ z⟩⟩
/-- the reading of a lambda as a value -/
def tLamV (X : Cx) (T : List (Addr × Str)) (params : Arguments) (body : Expr) (scope : Scope) : TE := fun _ H Q => Tabs T H ∧ ∀ (f c' : Addr) (H1 : Hp), Le T H H1 → H f = none →
  H1 f = some (LamO f (X.env.qual ++ "<lambda>") params body scope (cloFrom X.env.cells scope.names []) c') → H1 c' = some (CodeO c' (X.env.qual ++ "<lambda>")) → Q (.ref f) H1
theorem pe_lam {T : List (Addr × Str)} {c P : Addr} {params : Arguments} {body : Expr} {scope : Scope} {pos : Pos} (TB : TabB X.base X.mg c P) (hcode : X.env.code = .ref c) (hmT : (P, X.env.qual ++ "<lambda>") ∈ T) (hu : ∀ p ∈ T, p.1 = P → p.2 = X.env.qual ++ "<lambda>")
    (L : LamS X.env.scope scope) (hdef : defaultsOf params X.env = ([], [])) : PE X (.Lambda params body scope pos) (tLamV X T params body scope) := by
  refine ⟨fun pins s σ H Q I h => ?_⟩
  obtain ⟨hT, h⟩ := h
  obtain ⟨ps, hP, ht, ha⟩ := hT _ hmT
  refine PySem.W.kla_eval hdef ?_
  have bP : s.heap.BuiltinsAt X.mg P := TB.bm.keeps I.bk
  have hP' : s.heap.get? P = some { cls := .none, data := .fields ps } := I.hok P _ hP
  cases hc : codeAmong pos ps.toList with
  | none =>
    refine PySem.W.kla_makeFunction (mg := X.mg) (c := c) (P := P) (ps := ps) (closure_ok (L.has I.ok)) I.ok.glob (I.mod.glob.keeps I.bk) hcode (TB.code.keeps I.bk) hP' ht hc TB.gP bP fun c' ctv h' tk hx hge hlt hrec htb => ?_
    obtain ⟨c2, oc, vs, t, e2, hoc, hd, hv⟩ := hrec
    cases e2
    have nC : H c' = none := I.hok.fresh hge
    have I1 := inv_table (t' := tk) (more := #[rawInt pos.line, rawInt pos.col, .ref c']) (h' := h') I hP (fun b o hb e => hx b o hb e) htb hge ⟨oc, vs, t, hoc, hd, hv⟩
    have hE : ExtN H (upd (upd H P (.tbl (ps ++ #[rawInt pos.line, rawInt pos.col, .ref c']))) c' (CodeO c' (X.env.qual ++ "<lambda>"))) := fun b o e n => by
      rw [upd_ne (ne_of_none e nC), upd_ne (fun z => n ps (Option.some.inj (e.symm.trans (by rw [z]; exact hP))))]
      exact e
    have eL : (ps ++ #[rawInt pos.line, rawInt pos.col, .ref c']).toList = ps.toList ++ [rawInt pos.line, rawInt pos.col, .ref c'] := by simp
    have T1 : Tabs T (upd (upd H P (.tbl (ps ++ #[rawInt pos.line, rawInt pos.col, .ref c']))) c' (CodeO c' (X.env.qual ++ "<lambda>"))) := fun p hp => by
      by_cases hb : p.1 = P
      · rw [hu p hp hb, hb]
        refine ⟨_, by rw [upd_ne (ne_of_none hP nC), upd_same], by rw [eL]; exact PySem.TriplesOk_snoc _ _ _ _ ht, fun p' cv hcv => ?_⟩
        rw [eL] at hcv
        rcases among_app _ ht hcv with z | z
        · obtain ⟨c0, e1, e2⟩ := ha p' cv z
          exact ⟨c0, e1, hE _ _ e2 codeO_ne⟩
        · exact ⟨c', z, upd_same⟩
      · obtain ⟨ps', a1, a2, a3⟩ := hT p hp
        refine ⟨ps', by rw [upd_ne (ne_of_none a1 nC), upd_ne hb]; exact a1, a2, fun p' cv hcv => ?_⟩
        obtain ⟨c0, e1, e2⟩ := a3 p' cv hcv
        exact ⟨c0, e1, hE _ _ e2 codeO_ne⟩
    have nF := I1.hok.fresh (Nat.le_refl _)
    have L1 : Le T H (upd (upd H P (.tbl (ps ++ #[rawInt pos.line, rawInt pos.col, .ref c']))) c' (CodeO c' (X.env.qual ++ "<lambda>"))) := ⟨hE, T1, fun b e => by
      have e1 : upd H P (.tbl (ps ++ #[rawInt pos.line, rawInt pos.col, .ref c'])) b = none := upd_none2 e
      exact upd_none2 e1⟩
    refine ⟨.ref h'.objs.size, _, inv_lamO (t' := tk) I1, rfl, h h'.objs.size c' _ (L1.new nF) (I.hok.fresh (Nat.le_trans hge (Nat.le_of_lt hlt))) upd_same ?_⟩
    exact (upd_ne (Nat.ne_of_lt hlt)).trans upd_same
  | some cv =>
    obtain ⟨c', e, hco⟩ := ha pos cv hc
    subst e
    refine PySem.W.kla_makeFunctionHit (mg := X.mg) (c := c) (P := P) (ps := ps) (closure_ok (L.has I.ok)) I.ok.glob (I.mod.glob.keeps I.bk) hcode (TB.code.keeps I.bk) hP' ht hc bP fun ctv h' tk hx hsz => ?_
    have I1 : Inv X pins σ H { s with heap := h', toks := tk } := I.kept hx
    have nF : H h'.objs.size = none := I1.hok.fresh (Nat.le_refl _)
    refine ⟨.ref h'.objs.size, _, inv_lamO (t' := tk) I1, rfl, h h'.objs.size c' _ ((Le.refl hT).new nF) nF upd_same ?_⟩
    exact (upd_ne (ne_of_none hco nF)).trans hco
/-- x(), in the def that got the lambda, the lambda's object known -/
theorem pe_actV {CXg : CXT} {Eg : XK} {Ng : List Str} {qg : Str} {sg : Scope} {g f c' : Addr} {cdg : Value} {params : Arguments} {body : Expr} {scope : Scope} {k i : Nat} {a : Str} {pn : List (Addr × Obj)} {xe : Value → Shared → Prop} {W : WX} {E : XK} {tb : TE} {p1 p2 : Pos}
    (I : Inv X pins σ H s) (L : LamS X.env.scope scope) (hbind : ∀ pm ctv, bindArgs (PySem.W.kla_fn "<lambda>" (X.env.qual ++ "<lambda>") params body scope (cloFrom X.env.cells scope.names []) pm (.ref c') ctv) ⟨[], []⟩ = pure [])
    (tk : L2.Takes ((cxOf CXg X.prog X.w X.K X.mg X.base Ng qg sg g cdg X.A X.stack s H Eg).tr pn xe) W) (hW : ∀ cls d σ' H', E cls d H' → W cls d σ' H') (hr : Room (k + 1) (X.A.deeper (envOfC qg sg s.heap.objs.size g cdg)))
    (hbody : ∀ (A : Around) (outer : List Env) (s : Shared) (H : Hp), Room k (A.deeper (lamEnv X scope s.heap.objs.size f c')) → PE (lamCx X A outer s H E scope f c') body tb)
    (hN : Ng[i]? = some a) (hv : Vis sg a) (hd : (a == ("__debug__" : Str)) = false := by decide) (hcd : (a == ("__classdict__" : Str)) = false := by decide) :
    PE ((cxOf CXg X.prog X.w X.K X.mg X.base Ng qg sg g cdg X.A X.stack s H Eg).tr pn xe) (.Call (.Name a p1) [] [] p2)
      (fun σZ HZ Q => σZ[i]? = some (some (.ref f)) ∧ HZ c' = some (CodeO c' (X.env.qual ++ "<lambda>")) ∧ HZ f = some (LamO f (X.env.qual ++ "<lambda>") params body scope (cloFrom X.env.cells scope.names []) c') ∧ tb σ HZ Q) := by
  refine ⟨fun pinsZ sZ σZ HZ Q IZ h => ?_⟩
  obtain ⟨hs, hc, hl, ht⟩ := h
  refine wpAny_Call_Name_kw (thn ((pe_var (pos := p1) (i := i) hN hv hd hcd).run pinsZ sZ σZ HZ (fun v H1 => v = .ref f ∧ H1 = HZ) IZ ⟨.ref f, hs, rfl, rfl⟩) fun u s1 ⟨v, H1, I1, r1, ev, eH⟩ => ?_)
  subst ev
  rw [eH] at I1
  obtain rfl : u = Value.ref f := r1
  obtain ⟨⟨pm, ctv, of1⟩, _, _⟩ := I1.hok f _ hl
  refine PySem.W.callWith_F0 ⟨_, _, _, _, of1⟩ ?_
  obtain ⟨⟨oc, vs, t, hoc, hdc, hvc⟩, _, _⟩ := I1.hok c' _ hc
  have rc : codeAny (model X.prog X.w) (X.A.deeper (envOfC qg sg s.heap.objs.size g cdg)) (.call (.ref f) ⟨[], []⟩) (CR (L2.CX X.prog X.w) (envOfC qg sg s.heap.objs.size g cdg :: X.stack) X.prog X.w HZ s1 Q E) s1 := by
    refine PySem.W.kla_callFunE hr.depth of1 rfl L.co L.gen rfl ⟨c', oc, vs, t, rfl, hoc, hdc, hvc⟩ ?_
    rw [hbind]
    refine wpAny_pure (wpAny_newFunctionEnv (fun y hy => (L.own y hy).2) (fun y hy => absurd hy (by simp)) (fun h₁ hns hsb => ⟨I1.nolimit.fresh _ hsb, ?_⟩) L.kind)
    show codeAny _ _ (.expr body (lamEnv X scope s1.heap.objs.size f c')) _ _
    have J := lam_start2 (E := E) (f := f) (c' := c') (tk := s1.toks + ([] : List (Str × Value)).length) I L I1.env0 hr.hd I1.base hns fun b o e => hsb.extBut b o (Nat.ne_of_lt (Heap.lt_size e)) (Heap.get?_push_of_some _ e)
    refine PySem.W.kla_codeExpr (wpAny_mono ((hbody _ _ s1 HZ (hr.deeper _)).run [] _ _ HZ Q J ht) (fun v s' hq => ?_) fun e s' hq => hq)
    obtain ⟨w', H', J', rv, q⟩ := hq
    exact ⟨w', H', J'.os, J'.bare, J'.base, J'.hok, rv, q⟩
  have hx : Passes (L2.CX X.prog X.w) ((cxOf CXg X.prog X.w X.K X.mg X.base Ng qg sg g cdg X.A X.stack s H Eg).tr pn xe) E := L2.passes_call tk hW
  refine wpAny_call (codeAny_mono rc fun r s' hq => ?_)
  match r, hq with
  | .error e, hq => exact hx pinsZ σZ HZ s1 e s' I1 hq
  | .ok (.ret u), hq => exact I1.after hq
  | .ok .next, hq => exact False.elim hq
  | .ok .brk, hq => exact False.elim hq
  | .ok .cont, hq => exact False.elim hq
end
/-- a lambda's words, and what its body's reading is when E is let out -/
structure LamD where
  params : Arguments
  body : Expr
  scope : Scope
  t : XK → TE
section
variable {X : Cx}
abbrev lamAt (X : Cx) (d : LamD) (f c' : Addr) : HO := LamO f (X.env.qual ++ "<lambda>") d.params d.body d.scope (cloFrom X.env.cells d.scope.names []) c'
/-- the reading of told(f), f one of the lambdas Fam; σ the outer def's names -/
def tTold (X : Cx) (Fam : List LamD) (TT : (XK → Hp → VK → Prop) → Hp → VK → Prop) (σ : L2.St) (j : Nat) : TE := fun σb H Q => ∃ (f c' : Addr) (d : LamD), σb[j]? = some (some (.ref f)) ∧ d ∈ Fam ∧ H f = some (lamAt X d f c') ∧ H c' = some (CodeO c' (X.env.qual ++ "<lambda>")) ∧
  TT (fun E H' Q' => H' f = some (lamAt X d f c') ∧ d.t E σ H' Q') H Q
/-- what is asked of each lambda -/
structure LamOk (X : Cx) (k : Nat) (d : LamD) : Prop where
  s : LamS X.env.scope d.scope
  bind : ∀ (q : Str) (cl : List (Str × Addr)) (pm cv ctv : Value), bindArgs (PySem.W.kla_fn "<lambda>" q d.params d.body d.scope cl pm cv ctv) ⟨[], []⟩ = pure []
  run : ∀ (A : Around) (outer : List Env) (s : Shared) (H : Hp) (E : XK) (f c' : Addr), Room k (A.deeper (lamEnv X d.scope s.heap.objs.size f c')) → PE (lamCx X A outer s H E d.scope f c') d.body (d.t E)
theorem pe_toldV {s0 : Shared} {H0 : Hp} {scope0 : Scope} {ce : Env} {fp : List Addr} {σ : L2.St} {Fam : List LamD} {TT : (XK → Hp → VK → Prop) → Hp → VK → Prop} {x a fn : Str} {g : Addr} {k j : Nat} {pg : Arguments} {bg : List Stmt} {sg : Scope} {dV kV doc pm cdv ct oc : Value} {an od : Option Addr} {osl : Array (Option Value)} {Ng : List Str} {p p2 pos : Pos}
    (back : ∀ pn σ' H' z, Inv (X.blk s0 H0 scope0 ce fp) pn σ' H' z → ∃ ps, Inv X ps σ H' z) (hF : ∀ d ∈ Fam, LamOk X k d)
    (hg : Gl (X.blk s0 H0 scope0 ce fp) x) (hm : X.mg x = some (.ref g)) (hk : PySem.W.keepIn X.K (.ref g) = true)
    (lk : X.K.lookup g = some ⟨oc, od, .func (PySem.W.fnOf x x pg bg sg dV kV doc pm an cdv ct), osl⟩) (hcg : PySem.W.codeIn X.K cdv x = true) (hb : L2.Binds X.K (PySem.W.fnOf x x pg bg sg dV kV doc pm an cdv ct) [a] []) (Sg : FnScope Ng [a] sg) (hNg : Ng[0]? = some a) (hva : Vis sg a)
    (hG : GivesTo X Ng x sg g cdv bg a (X.env.qual ++ "<lambda>") TT) (hr : Room (k + 2) X.A) (hN : X.N[j]? = some fn) (hv : Vis ce.scope fn)
    (hdb : (x == ("__debug__" : Str)) = false := by decide) (hd : (a == ("__debug__" : Str)) = false := by decide) (hcd : (a == ("__classdict__" : Str)) = false := by decide) (hd2 : (fn == ("__debug__" : Str)) = false := by decide) (hcd2 : (fn == ("__classdict__" : Str)) = false := by decide) :
    PE (X.blk s0 H0 scope0 ce fp) (.Call (.Name x p) [.Name fn p2] [] pos) (tTold X Fam TT σ j) := by
  refine ⟨fun pins s σb H Q I h => ?_⟩
  obtain ⟨f, c', d, hs, hdF, hl, hco, h⟩ := h
  have D := hF d hdF
  refine wpAny_Call_Name_kw (ld_glob I hg hm ?_ hdb)
  refine PySem.W.callWith_K (h₀ := X.base) I.ok.mod.kin hk ?_ (by rfl) (by rfl)
  show wpAny _ _ (spliced ((false, eval (.Name fn p2) ce) :: backTo pos (starEach [] ce))) _ _ s
  refine Calls.spliced_cons (thn ((pe_var (X := X.blk s0 H0 scope0 ce fp) (pos := p2) (i := j) hN hv hd2 hcd2).run pins s σb H (fun v H1 => v = .ref f ∧ H1 = H) I ⟨.ref f, hs, rfl, rfl⟩) fun u s1 ⟨v, H1, I1, r1, ev, eH⟩ => ?_)
  subst ev
  rw [eH] at I1
  obtain rfl : u = Value.ref f := r1
  refine Calls.spliced_nil ⟨I1.kIn, ?_⟩
  obtain ⟨ps, IX⟩ := back _ _ _ _ I1
  have rc : codeAny (model X.prog X.w) X.A (.call (.ref g) ⟨[.ref f], []⟩) (CR C8.CX0 X.stack X.prog X.w H s1 Q C8.E0) s1 := by
    refine run_ofS (N := Ng) (ps := [a]) (us := [.ref f]) (vs := [.ref f]) lk hcg Sg hr I1.env0 (hb s1 [.ref f] I1.kIn rfl) (.cons rfl .nil) rfl fun hr' => ?_
    obtain ⟨t', ht', hq'⟩ := hG f c' s1 H Q (fun E H' Q' => H' f = some (lamAt X d f c') ∧ d.t E σ H' Q') (fun W pn xe E p1 p2 tk hW => pe_actV (i := 0) IX D.s (fun _ _ => D.bind _ _ _ _ _) tk hW hr' (fun A outer s H hr2 => D.run A outer s H E f c' hr2) hNg hva hd hcd) hco h
    exact ⟨t', ht'.nox, hq'⟩
  refine wpAny_call (codeAny_mono rc fun r s2 hq => ?_)
  match r, hq with
  | .error e, hq => exact (show False from hq).elim
  | .ok (.ret u), hq => exact I1.after hq
  | .ok .next, hq => exact False.elim hq
  | .ok .brk, hq => exact False.elim hq
  | .ok .cont, hq => exact False.elim hq
end
end GX

-- text LamW
set_option maxRecDepth 100000
set_option maxHeartbeats 4000000
/-! LamW: told(lambda: ..) in a def's own body, the heap behind it known to have grown alone. -/
namespace GX
open PySem PySem.Spec PyProof.Rows L2 LamX
section
variable {X : Cx}
def tToldL (X : Cx) (T : List (Addr × Str)) (d : LamD) (TT : (XK → Hp → VK → Prop) → Hp → VK → Prop) : TE := fun σ H Q => Tabs T H ∧ ∀ (f c' : Addr) (H1 : Hp), Le T H H1 → H f = none →
  H1 f = some (lamAt X d f c') → H1 c' = some (CodeO c' (X.env.qual ++ "<lambda>")) → TT (fun E H' Q' => H' f = some (lamAt X d f c') ∧ d.t E σ H' Q') H1 Q
theorem pe_toldL {T : List (Addr × Str)} {TT : (XK → Hp → VK → Prop) → Hp → VK → Prop} {x a : Str} {g c P : Addr} {k : Nat} {pg : Arguments} {bg : List Stmt} {sg : Scope} {dV kV doc pm cdv ct oc : Value} {an od : Option Addr} {osl : Array (Option Value)} {Ng : List Str} {p lpos pos : Pos}
    (d : LamD) (D : LamOk X k d) (TB : TabB X.base X.mg c P) (hcode : X.env.code = .ref c) (hmT : (P, X.env.qual ++ "<lambda>") ∈ T) (hu : ∀ p ∈ T, p.1 = P → p.2 = X.env.qual ++ "<lambda>") (hdef : defaultsOf d.params X.env = ([], []))
    (hg : Gl X x) (hm : X.mg x = some (.ref g)) (hk : PySem.W.keepIn X.K (.ref g) = true)
    (lk : X.K.lookup g = some ⟨oc, od, .func (PySem.W.fnOf x x pg bg sg dV kV doc pm an cdv ct), osl⟩) (hcg : PySem.W.codeIn X.K cdv x = true) (hb : L2.Binds X.K (PySem.W.fnOf x x pg bg sg dV kV doc pm an cdv ct) [a] []) (Sg : FnScope Ng [a] sg) (hNg : Ng[0]? = some a) (hva : Vis sg a)
    (hG : GivesTo X Ng x sg g cdv bg a (X.env.qual ++ "<lambda>") TT) (hr : Room (k + 2) X.A)
    (hdb : (x == ("__debug__" : Str)) = false := by decide) (hd : (a == ("__debug__" : Str)) = false := by decide) (hcd : (a == ("__classdict__" : Str)) = false := by decide) :
    PE X (.Call (.Name x p) [.Lambda d.params d.body d.scope lpos] [] pos) (tToldL X T d TT) := by
  refine ⟨fun pins s σ H Q I h => ?_⟩
  refine wpAny_Call_Name_kw (ld_glob I hg hm ?_ hdb)
  refine PySem.W.callWith_K (h₀ := X.base) I.ok.mod.kin hk ?_ (by rfl) (by rfl)
  show wpAny _ _ (spliced ((false, eval (.Lambda d.params d.body d.scope lpos) X.env) :: backTo pos (starEach [] X.env))) _ _ s
  refine Calls.spliced_cons (thn ((pe_lam (pos := lpos) TB hcode hmT hu D.s hdef).run pins s σ H (fun v H1 => ∃ f c', v = .ref f ∧ H1 f = some (lamAt X d f c') ∧ H1 c' = some (CodeO c' (X.env.qual ++ "<lambda>")) ∧ TT (fun E H' Q' => H' f = some (lamAt X d f c') ∧ d.t E σ H' Q') H1 Q) I
    ⟨h.1, fun f c' H1 L n e1 e2 => ⟨f, c', rfl, e1, e2, h.2 f c' H1 L n e1 e2⟩⟩) fun u s1 ⟨v, H1, I1, r1, f, c', ev, hl, hco, h⟩ => ?_)
  subst ev
  obtain rfl : u = Value.ref f := r1
  refine Calls.spliced_nil ⟨I1.kIn, ?_⟩
  have rc : codeAny (model X.prog X.w) X.A (.call (.ref g) ⟨[.ref f], []⟩) (CR C8.CX0 X.stack X.prog X.w H1 s1 Q C8.E0) s1 := by
    refine run_ofS (N := Ng) (ps := [a]) (us := [.ref f]) (vs := [.ref f]) lk hcg Sg hr I1.env0 (hb s1 [.ref f] I1.kIn rfl) (.cons rfl .nil) rfl fun hr' => ?_
    obtain ⟨t', ht', hq'⟩ := hG f c' s1 H1 Q (fun E H' Q' => H' f = some (lamAt X d f c') ∧ d.t E σ H' Q') (fun W pn xe E p1 p2 tk hW => pe_actV (i := 0) I1 D.s (fun _ _ => D.bind _ _ _ _ _) tk hW hr' (fun A outer s H hr2 => D.run A outer s H E f c' hr2) hNg hva hd hcd) hco h
    exact ⟨t', ht'.nox, hq'⟩
  refine wpAny_call (codeAny_mono rc fun r s2 hq => ?_)
  match r, hq with
  | .error e, hq => exact (show False from hq).elim
  | .ok (.ret u), hq => exact I1.after hq
  | .ok .next, hq => exact False.elim hq
  | .ok .brk, hq => exact False.elim hq
  | .ok .cont, hq => exact False.elim hq
end
end GX

-- text LamY
set_option maxRecDepth 100000
set_option maxHeartbeats 4000000
/-! LamY: told(lambda: ..), its words as they stand. -/
namespace GX
open PySem PySem.Spec PyProof.Rows L2 LamX
section
variable {X : Cx}
theorem pe_told2 {T : List (Addr × Str)} {TT : (XK → Hp → VK → Prop) → Hp → VK → Prop} {x a : Str} {g c P : Addr} {k : Nat} {pg : Arguments} {bg : List Stmt} {sg : Scope} {dV kV doc pm cdv ct oc : Value} {an od : Option Addr} {osl : Array (Option Value)} {Ng : List Str} {p lpos pos : Pos}
    {params : Arguments} {body : Expr} {scope : Scope} {t : XK → TE} (hg : Gl X x) (hm : X.mg x = some (.ref g)) (hk : PySem.W.keepIn X.K (.ref g) = true)
    (lk : X.K.lookup g = some ⟨oc, od, .func (PySem.W.fnOf x x pg bg sg dV kV doc pm an cdv ct), osl⟩) (hcg : PySem.W.codeIn X.K cdv x = true) (hb : L2.Binds X.K (PySem.W.fnOf x x pg bg sg dV kV doc pm an cdv ct) [a] []) (Sg : FnScope Ng [a] sg) (hNg : Ng[0]? = some a) (hva : Vis sg a)
    (hG : GivesTo X Ng x sg g cdv bg a (X.env.qual ++ "<lambda>") TT)
    (TB : TabB X.base X.mg c P) (hcode : X.env.code = .ref c) (hmT : (P, X.env.qual ++ "<lambda>") ∈ T) (hu : ∀ p ∈ T, p.1 = P → p.2 = X.env.qual ++ "<lambda>") (hr : Room (k + 2) X.A) (L : LamS X.env.scope scope) (hdef : defaultsOf params X.env = ([], []))
    (hbind : ∀ (q : Str) (cl : List (Str × Addr)) (pm cv ctv : Value), bindArgs (PySem.W.kla_fn "<lambda>" q params body scope cl pm cv ctv) ⟨[], []⟩ = pure [])
    (hbody : ∀ (A : Around) (outer : List Env) (s : Shared) (H : Hp) (E : XK) (f c' : Addr), Room k (A.deeper (lamEnv X scope s.heap.objs.size f c')) → PE (lamCx X A outer s H E scope f c') body (t E))
    (hdb : (x == ("__debug__" : Str)) = false := by decide) (hd : (a == ("__debug__" : Str)) = false := by decide) (hcd : (a == ("__classdict__" : Str)) = false := by decide) :
    PE X (.Call (.Name x p) [.Lambda params body scope lpos] [] pos) (tToldL X T ⟨params, body, scope, t⟩ TT) :=
  pe_toldL ⟨params, body, scope, t⟩ ⟨L, hbind, hbody⟩ TB hcode hmT hu hdef hg hm hk lk hcg hb Sg hNg hva hG hr hdb hd hcd
theorem takesL {X : Cx} {A : Around} {outer : List Env} {s : Shared} {H : Hp} {E : XK} {scope : Scope} {f c' : Addr} : L2.Takes (lamCx X A outer s H E scope f c') (fun cls d _ H => E cls d H) := takes_of rfl rfl rfl rfl
theorem passLm {X : Cx} {A : Around} {outer : List Env} {s : Shared} {H : Hp} {E : XK} {scope : Scope} {f c' : Addr} : Passes (L2.CX X.prog X.w) (lamCx X A outer s H E scope f c') E := passes_call takesL fun _ _ _ _ h => h
end
end GX

-- text Gen3
set_option maxRecDepth 100000
set_option maxHeartbeats 4000000
/-! Gen3: dicts put together, heaps that keep all. -/
namespace GX
open PySem PySem.Spec PyProof.Rows L2 LamX
theorem put_ents {α : Type} (f : α → V) {cs : SD α} {n : Str} (h : ¬ n ∈ cs.map (·.1)) (v : α) : putK (ents f cs) (Sum.inr n) (f v) = ents f (cs ++ [(n, v)]) := by
  rw [putK_new _ (by rw [valV_ents, look_none h]; rfl)]
  unfold ents
  rw [List.map_append]
  rfl
theorem merge_ents {α : Type} (f : α → V) : ∀ (more cs : SD α), ((cs ++ more).map (·.1)).Nodup → mergeK (ents f cs) (ents f more) = ents f (cs ++ more)
  | [], cs, _ => by rw [List.append_nil]; rfl
  | p :: r, cs, h => by
    show mergeK (putK (ents f cs) (Sum.inr p.1) (f p.2)) (ents f r) = _
    have hn : ¬ p.1 ∈ cs.map (·.1) := by
      rw [List.map_append, List.map_cons] at h
      exact fun z => (List.nodup_append.mp h).2.2 _ z _ List.mem_cons_self rfl
    rw [put_ents f hn p.2, merge_ents f r _ (by rw [List.append_assoc]; exact h), List.append_assoc]
    rfl
/-- {..}: n turns -/
theorem dc_n {J : It} {g : TG} {tt : TT} {tk tv : TE} {vs : List Nat} {σ : L2.St} {H1 : Hp} {D : Addr} {Qd : Hp → Prop} (n : Nat) (Pv : Nat → Hp → Prop) (h0 : Pv 0 (upd H1 D (.dK [])))
    (hs : ∀ i H, i < n → Pv i H → J.go i H ∧ ∀ x H', J.yld i H x H' → g x (wipe σ vs) H' fun σ2 H2 => wipe σ2 vs = wipe σ vs ∧ tt σ2 H2 fun b H3 =>
      if b = true then tk σ2 H3 fun y H4 => tv σ2 H4 fun z H5 => ∃ kvs k, y = kV k ∧ H5 D = some (.dK kvs) ∧ kvs.length < sizeLine ∧ Pv (i + 1) (upd H5 D (.dK (putK kvs k z))) else Pv (i + 1) H3)
    (hd : ∀ H, Pv n H → J.stop n H ∧ Qd H) :
    ∃ W : Nat → Nat → Hp → Prop, (∃ m, W 0 m (upd H1 D (.dK []))) ∧ ∀ i m H, W i m H →
      (J.stop i H ∧ Qd H) ∨ (J.go i H ∧ ∃ Nx : Hp → Prop, (∀ H', Nx H' → ∃ m', m' < m ∧ W (i + 1) m' H') ∧ ∀ x H', J.yld i H x H' → g x (wipe σ vs) H' fun σ2 H2 => wipe σ2 vs = wipe σ vs ∧ tt σ2 H2 fun b H3 =>
        if b = true then tk σ2 H3 fun y H4 => tv σ2 H4 fun z H5 => ∃ kvs k, y = kV k ∧ H5 D = some (.dK kvs) ∧ kvs.length < sizeLine ∧ Nx (upd H5 D (.dK (putK kvs k z))) else Nx H3) := by
  refine ⟨fun i m H => m = n - i ∧ i ≤ n ∧ Pv i H, ⟨n, by simp, Nat.zero_le _, h0⟩, ?_⟩
  rintro i m H ⟨rfl, hi, p⟩
  by_cases hlt : i < n
  · obtain ⟨q1, q2⟩ := hs i H hlt p
    exact .inr ⟨q1, Pv (i + 1), fun H' p' => ⟨n - (i + 1), by omega, rfl, hlt, p'⟩, q2⟩
  · have e : i = n := by omega
    rw [e] at p ⊢
    exact .inl (hd H p)
theorem paired_map {α β γ : Type} {F : β → γ → Prop} {f : α → β} {g : α → γ} : ∀ {L : List α}, (∀ x ∈ L, F (f x) (g x)) → Paired F (L.map f) (L.map g)
  | [], _ => .nil
  | x :: r, h => .cons (h x List.mem_cons_self) (paired_map fun y hy => h y (List.mem_cons_of_mem _ hy))
/-- all that stood stands -/
theorem le_keep {T : List (Addr × Str)} {H H' : Hp} (keep : ∀ b o, H b = some o → H' b = some o) (t : Tabs T H) : Le T H H' :=
  ⟨fun b o h _ => keep b o h, fun q hq => by
    obtain ⟨ps, h1, h2, h3⟩ := t q hq
    refine ⟨ps, keep _ _ h1, h2, fun pos cv hc => ?_⟩
    obtain ⟨c, e1, e2⟩ := h3 pos cv hc
    exact ⟨c, e1, keep _ _ e2⟩, fun b e => by
    cases h : H b with
    | none => rfl
    | some o => rw [keep b o h] at e; cases e⟩
theorem yes_ {σ : L2.St} {H : Hp} {Q : Bool → Hp → Prop} (h : Q true H) : tYes σ H Q := h
end GX

-- text DnE
set_option maxRecDepth 100000
set_option maxHeartbeats 4000000
/-! DnE: dicts of data compared, both alike. -/
namespace GX
open PySem PySem.Spec PyProof.Rows L2 LamX
section
variable {X : Cx} {pins : List (Addr × Obj)} {σ : L2.St} {H : Hp} {s : Shared}
/-- each entry of ks stands in ls with the same data -/
def SameD (K : PySem.W.Frag) (H : Hp) (ks ls : List (L2.Key × V)) : Prop := ks.length = ls.length ∧ ∀ p ∈ ks, ∃ v d, valV ls p.1 = some v ∧ Dp K H p.2 d ∧ Dp K H v d ∧ SeqAt.shaped d = true ∧ d.canLay0 = true
theorem hits_dp (I : Inv X pins σ H s) {A : Around} (hu : A.in1.units + 64 < cLine) {ls : List (L2.Key × V)} {vb : List (L2.Key × Value)} (rb : KV ls vb) {ks : List (L2.Key × V)} {va : List (L2.Key × Value)} (ra : KV ks va) :
    (∀ p ∈ ks, ∃ v d, valV ls p.1 = some v ∧ Dp X.K H p.2 d ∧ Dp X.K H v d ∧ SeqAt.shaped d = true ∧ d.canLay0 = true) → PySem.W.KeqHits A.in1 s vb va true := by
  unfold KV at ra
  induction ra with
  | nil => intro _; exact .nil
  | @cons p q ps qs h t k =>
    intro hp
    obtain ⟨h1, h2⟩ := h
    obtain ⟨v, d, e, d1, d2, sh, cl⟩ := hp p List.mem_cons_self
    have rr : RelO (some v) (valueAt vb p.1) := by rw [← e]; exact rb.val p.1
    obtain ⟨y, hy, ry⟩ := rr.some_of
    obtain ⟨key, w⟩ := q
    have h1' : p.1 = key := h1
    rw [h1'] at hy
    obtain ⟨as, r1⟩ := Dp.reads I _ _ _ d1 h2
    obtain ⟨bs, r2⟩ := Dp.reads I _ _ _ d2 ry
    have at_ := PySem.W.keq_at (A := A) r1 r2 sh sh hu
    rw [SeqAt.eqv_refl d cl] at at_
    show PySem.W.KeqHits A.in1 s vb ((key, w) :: qs) (true && true)
    exact .hit hy at_ (k fun p' hm => hp p' (List.mem_cons_of_mem _ hm))
def rNeDD (K : PySem.W.Frag) : R2 := fun x y H Q => ∃ a b ks ls, x = .ref a ∧ y = .ref b ∧ H a = some (.dK ks) ∧ H b = some (.dK ls) ∧ SameD K H ks ls ∧ Q (.bl false) H
/-- d != e, dicts that hold the same data -/
theorem op_ne_dictD (hu : X.A.units + 65 < cLine) : OpR X (compareOp .NotEq) (rNeDD X.K) := by
  intro pins s σ H x y v u Q I rx ry h
  obtain ⟨a, b, ks, ls, rfl, rfl, ea, eb, ⟨hlen, hp⟩, q⟩ := h
  obtain rfl : v = Value.ref a := rx
  obtain rfl : u = Value.ref b := ry
  obtain ⟨_, ya, va, ra, da⟩ := (show ObjOk X.prog X.w H s.heap a (.dK ks) from I.hok a _ ea)
  obtain ⟨_, yb, vb, rb, db⟩ := (show ObjOk X.prog X.w H s.heap b (.dK ls) from I.hok b _ eb)
  have hl : va.length = vb.length := by rw [← ra.length, ← rb.length]; exact hlen
  exact PySem.W.keq_ne (knd := mixKind X.prog X.w) (r := true) ya yb da db (by omega) (fun _ => hits_dp I (A := X.A) (by show X.A.units + 1 + 64 < cLine; omega) rb ra hp) (fin_bl I q (by simp [hl]))
def rInDT (K : PySem.W.Frag) : R2 := fun x y H Q => ∃ d ds, Dp K H x d ∧ Dp K H y (.tuple ds) ∧ SeqAt.shaped d = true ∧ SeqAt.shaped (.tuple ds) = true ∧ Q (.bl (ds.any fun z => PyData.eqv z d)) H
/-- x in t, t a tuple of data -/
theorem op_inDT (hu : X.A.units + 65 < cLine) : OpR X (compareOp .In) (rInDT X.K) := by
  intro pins s σ H x y v u Q I rx ry h
  obtain ⟨d, ds, hd, he, sd, se, q⟩ := h
  obtain ⟨as, r1⟩ := Dp.reads I d x v hd rx
  obtain ⟨bs, r2⟩ := Dp.reads I (.tuple ds) y u he ry
  exact SeqAt.in_tuple_reads r2 r1 (SeqAt.canLay_of_shaped se) (SeqAt.canLay_of_shaped sd) (room_in_shaped sd hu) ⟨.bl _, H, I, rfl, q⟩
end
end GX

-- text GenX1
set_option maxRecDepth 100000
set_option maxHeartbeats 4000000
/-! GenX1: sum over a generator expression. -/
namespace GX
open PySem PySem.Spec PyProof.Rows L2 LamX GenW
section
variable {G : GD} {J : It} {tn : Nat → Heap → Prop} {n₀ : Nat} {W : Nat → List V → Hp → Prop} {A : Around} {R : Result → Shared → Prop}
abbrev sumGh (S : Addr) : Nat → Shared → List V → Prop := fun i s ys => ∃ (ns : List Int) (t : Tok) (c : Nat), ys = ns.map V.int ∧ s.heap.get? S = some (lstObj #[.int ns.sum t] c)
abbrev intYd : Nat → List V → V → Hp → Prop := fun _ _ y _ => ∃ n, y = .int n
theorem sum_snoc (ns : List Int) (n : Int) : (ns ++ [n]).sum = ns.sum + n := by rw [List.sum_append, List.sum_singleton]
theorem sum_loop (hA : G.A = A.in1.in1) (hh : A.handled = none) (hr : A.depth < recursionLimit) (hS : G.s.heap.objs.size ≤ G.S) (haS : G.S ≠ G.a) (hiG : ∀ h : Heap, h.get? G.a = some G.go → h.IsGen G.a G.g)
    (hF : ∀ (ns : List Int) (t : Tok) H s1 s2, G.at H s1 → W n₀ (ns.map V.int) H → s2.os = s1.os → AllBare s2.gens → (∀ b o, s1.heap.get? b = some o → s2.heap.get? b = some o) → R (.ok (.ret (.int ns.sum t))) s2) :
    ∀ (n : Nat) (s : Shared) (st : Int) (v0 : Value) (c0 : Nat), (st = 0 ∨ st = 2) → n ≠ 0 → s.heap.get? G.S = some (lstObj #[v0] c0) → G.Wait tn n₀ (sumGh G.S) W intYd yesCt n s → codeAny (model G.X.prog G.X.w) A (.builtin "sum.loop" ⟨[.ref G.a, .ref G.S, rawInt st, rawInt 0], []⟩) R s := by
  intro n
  induction n with
  | zero => exact fun _ _ _ _ _ h => absurd rfl h
  | succ n ih =>
    intro s st v0 c0 hst _ hS0 hw
    refine (codeAny_builtin F.entry_sum_loop ?_)
    rw [Around.under_plainId F.plain_sum_loop _]
    show wpAny _ A.in1 (seqItems? (.ref G.S) >>= _) _ _ s
    refine wpAny_bind (wpAny_seqItems hS0 rfl ?_)
    show wpAny _ A.in1 (tryCatch (pyNext (.ref G.a)) _ >>= _) _ _ s
    refine wpAny_bind (wpAny_tryCatch (next_gen (A := A.in1) (Nat.succ_ne_zero n) hS hA hh hr hiG hw (fun i ys y v H s1 gs' hi hlt hgh rv hat hb hk hyd hk2 => ?_) (fun ys H s1 s2 hn1 hgh hat hk hw2 ho hb hkp => ?_)))
    · obtain ⟨ns, t, c, hys, hSg⟩ := hgh
      have e0 := Option.some.inj (hSg.symm.trans hS0)
      have ev : v0 = .int ns.sum t := by injection e0 with _ _ e1 _; injection e1 with e2 _; have := congrArg Array.toList e2; simpa using this.symm
      subst ev
      have hS1 : s1.heap.get? G.S = some (lstObj #[.int ns.sum t] c0) := hk _ hS0
      obtain ⟨_, _, _, _, ga1, _⟩ := hat.facts
      obtain ⟨m, rfl⟩ := hyd
      obtain ⟨t2, rfl⟩ := rv
      have hn : n ≠ 0 := by omega
      have oth : ∀ (f : Obj → Obj) (h : Heap) b o, b ≠ G.S → h.get? b = some o → (h.update G.S f).get? b = some o := fun f h b o hb e => (Heap.get?_update_other _ _ (fun z => hb z.symm)).trans e
      -- the loop goes on, whatever way the sum was put down
      have next : ∀ (s' : Shared) (st' : Int) (t' : Tok) (c' : Nat), (st' = 0 ∨ st' = 2) → s'.os = s1.os → s'.gens = (s1.setGen G.g gs').gens → (∀ b o, b ≠ G.S → s1.heap.get? b = some o → s'.heap.get? b = some o) → s'.heap.get? G.S = some (lstObj #[.int (ns.sum + m) t'] c') →
          codeAny (model G.X.prog G.X.w) A (.builtin "sum.loop" ⟨[.ref G.a, .ref G.S, rawInt st', rawInt 0], []⟩) R s' := fun s' st' t' c' hst' ho hg hkk hS' => by
        refine ih s' st' _ c' hst' hn hS' (hk2 _ ⟨ho, by rw [hg]; exact hb, hkk, hkk _ _ (Ne.symm haS) ga1, ⟨_, hS', lst_cell⟩⟩ hg trivial ⟨ns ++ [m], t', c', ?_, ?_⟩)
        · rw [hys, List.map_append]
          rfl
        · rw [sum_snoc]
          exact hS'
      rcases hst with rfl | rfl
      · show wpAny _ A.in1 (if (_ : Bool) = true then (mkInt (ns.sum + m) >>= _) else _) _ _ _
        split
        · refine wpAny_bind (wpAny_mkInt ?_)
          show wpAny _ A.in1 (updateSeq G.S (fun _ => #[.int (ns.sum + m) s1.toks]) >>= _) _ _ _
          refine wpAny_bind ?_
          refine wpAny_updateSeq hS1 rfl (wpAny_pure ⟨plainId_quiet F.plain_sum_loop _, ?_⟩)
          exact next _ 0 _ _ (.inl rfl) rfl rfl (fun b o hb e => oth _ _ b o hb e) (Heap.get?_update_self _ hS1 rfl)
        · refine wpAny_bind (wpAny_rule ?_)
          refine wpAny_bind (wpAny_attempt (wpAny_holding (wpAny_add_int ?_)))
          show wpAny _ A.in1 (updateSeq G.S (fun _ => #[.int (ns.sum + m) s1.toks]) >>= _) _ _ _
          refine wpAny_bind (wpAny_updateSeq hS1 rfl ?_)
          have hS2 := Heap.get?_update_self (Obj.mapSeq fun _ => #[Value.int (ns.sum + m) s1.toks]) hS1 rfl
          refine wpAny_bind (wpAny_letGo ?_)
          refine wpAny_bind (wpAny_updateSeq hS2 rfl (wpAny_pure ⟨plainId_quiet F.plain_sum_loop _, ?_⟩))
          exact next _ 2 _ _ (.inr rfl) rfl rfl (fun b o hb e => oth _ _ b o hb (oth _ _ b o hb e)) (Heap.get?_update_self _ hS2 rfl)
      · show wpAny _ A.in1 ((holding [Value.int m t2] (binaryOp .Add (.int ns.sum t) (.int m t2))).attempt >>= _) _ _ _
        refine wpAny_bind (wpAny_attempt (wpAny_holding (wpAny_add_int ?_)))
        show wpAny _ A.in1 (updateSeq G.S (fun _ => #[.int (ns.sum + m) s1.toks]) >>= _) _ _ _
        refine wpAny_bind (wpAny_updateSeq hS1 rfl ?_)
        have hS2 := Heap.get?_update_self (Obj.mapSeq fun _ => #[Value.int (ns.sum + m) s1.toks]) hS1 rfl
        refine wpAny_bind (wpAny_letGo ?_)
        refine wpAny_bind (wpAny_updateSeq hS2 rfl (wpAny_pure ⟨plainId_quiet F.plain_sum_loop _, ?_⟩))
        exact next _ 2 _ _ (.inr rfl) rfl rfl (fun b o hb e => oth _ _ b o hb (oth _ _ b o hb e)) (Heap.get?_update_self _ hS2 rfl)
    · obtain ⟨ns, t, c, hys, hSg⟩ := hgh
      have e0 := Option.some.inj (hSg.symm.trans hS0)
      have ev : v0 = .int ns.sum t := by injection e0 with _ _ e1 _; injection e1 with e2 _; have := congrArg Array.toList e2; simpa using this.symm
      subst ev
      rw [hys] at hw2
      exact wpAny_pure (hF ns t H s1 s2 hat hw2 ho hb hkp)
end
def vint : V → Int
  | .int n => n
  | _ => 0
def vsum (ys : List V) : Int := (ys.map vint).sum
theorem vsum_snoc (ys : List V) (m : Int) : vsum (ys ++ [V.int m]) = vsum ys + m := by
  unfold vsum
  rw [List.map_append, List.sum_append]
  simp [vint]
theorem vsum_map (ns : List Int) : vsum (ns.map V.int) = ns.sum := by
  unfold vsum
  rw [List.map_map]
  congr 1
  exact List.map_id ns
/-- the reading of sum(elt for tg in iter) -/
def tGenSum (T : List (Addr × Str)) (wi : TI) (g : TG) (te : TE) (vs : List Nat) : TE := fun σ H Q => wi σ H fun J H1 => Tabs T H1 ∧ ∀ H2, ExtN H1 H2 → Tabs T H2 → (∀ b, H2 b = none → H1 b = none) →
  ∃ (n₀ : Nat) (W : Nat → Int → Hp → Prop), W 0 0 H2 ∧
    (∀ i a H, i < n₀ → W i a H → J.go i H ∧ ∀ x H', J.yld i H x H' → g x (wipe σ vs) H' fun σ2 H3 => wipe σ2 vs = wipe σ vs ∧ te σ2 H3 fun y H4 => ∃ m, y = .int m ∧ W (i + 1) (a + m) H4) ∧
    (∀ a H, W n₀ a H → J.stop n₀ H ∧ Q (.int a) H)
section
variable {X : Cx}
theorem boot_sum2 : bootBuiltins "sum" = some (.builtin "sum") := by decide +kernel
theorem pe_genSum {T : List (Addr × Str)} {c P : Addr} {own : List (Str × Nat)} {tg iter elt : Expr} {scope : Scope} {gpos p pos : Pos} {wi : TI} {g : TG} {te : TE} {k : Nat}
    (hr : Room (k + 1) X.A) (hgl : Gl X "sum") (hm : X.mg "sum" = none) (hN : X.N.Nodup) (TB : TabB X.base X.mg c P) (hcode : X.env.code = .ref c) (hmT : (P, X.env.qual ++ "<genexpr>") ∈ T) (hu : ∀ p ∈ T, p.1 = P → p.2 = X.env.qual ++ "<genexpr>")
    (hi : PI X tg iter wi) (ok : GSc X.N X.env.scope scope own)
    (hg : ∀ (A : Around) (s : Shared) (H : Hp) (code : Value) (ex : List Addr), PG (gcx X A s H scope code ex) tg g) (he : ∀ (A : Around) (s : Shared) (H : Hp) (code : Value) (ex : List Addr), Room k (gcx X A s H scope code ex).A → PE (gcx X A s H scope code ex) elt te)
    (hs : ∀ v, genFold iter X.env v = pure v := by intro _; rfl)
    (hst : starEach [.GeneratorExp elt [⟨tg, iter, [], 0⟩] scope gpos] X.env = (false, eval (.GeneratorExp elt [⟨tg, iter, [], 0⟩] scope gpos) X.env) :: starEach [] X.env := by rfl) :
    PE X (.Call (.Name "sum" p) [.GeneratorExp elt [⟨tg, iter, [], 0⟩] scope gpos] [] pos) (tGenSum T wi g te (own.map (·.2))) := by
  refine ⟨fun pins s σ H Q I h => ?_⟩
  refine wpAny_Call_Name_kw (ld_blt I hgl hm boot_sum2 ?_)
  refine PyProof.Rows.callWith_builtin1 ?_ hst (by rfl)
  rw [hst]
  show wpAny _ _ (spliced ((false, eval (Expr.GeneratorExp elt [⟨tg, iter, [], 0⟩] scope gpos) X.env) :: backTo pos (starEach [] X.env))) _ _ s
  refine Calls.spliced_cons (gen_make I hi ok TB hcode hmT hu hr.depth hs h fun J H1 H2 it fp tn code a go gi s4 s5 hR hE hT hno M => ?_)
  refine Calls.spliced_nil ?_
  obtain ⟨n₀, W, w0, step, stop⟩ := hR H2 hE hT hno
  let WV : Nat → List V → Hp → Prop := fun i ys H => W i (vsum ys) H
  let G : GD := ⟨X, X.A.in1.in1, s4, H2, scope, code, fp, a, go, gi, s5.heap.objs.size, wipe σ (own.map (·.2))⟩
  have P0 : Turns G J g te (own.map (·.2)) n₀ WV intYd yesCt (fun i ys y H => ∃ m, y = .int m ∧ W (i + 1) (vsum ys + m) H) := by
    refine ⟨fun i ys H hi hw => step i _ H hi hw, fun i ys y H hi hp => ?_, fun ys H hw => (stop _ H hw).1⟩
    obtain ⟨m, rfl, hq⟩ := hp
    exact ⟨⟨m, rfl⟩, fun _ => by show W (i + 1) (vsum (ys ++ [V.int m])) H; rw [vsum_snoc]; exact hq⟩
  refine call_function_tree F.kind_sum F.plain_sum F.entry_sum (F.args_sum1 _) ?_
  unfold Builtin.«sum»
  simp only [List.length_cons, List.length_nil]
  rw [if_neg (by decide)]
  refine wpAny_bind (wpAny_of_eq (show Builtin.Builtins.bindParams "sum" ["start"] 0 { } = pure [none] from rfl) ?_)
  refine wpAny_bind (wpAny_pyIter_gen (M.isG _ M.ga) ?_)
  refine wpAny_bind (wpAny_mkInt ?_)
  refine wpAny_bind (wpAny_pure ?_)
  simp only [List.forIn_cons, List.forIn_nil]
  refine wpAny_bind (wpAny_bind (wpAny_bind (wpAny_isInstance (T := "int") (b := false) (typeIs_int _ _ _) PySem.sub_int_str ?_)))
  simp only [Bool.false_eq_true, if_false]
  refine wpAny_pure (wpAny_bind (wpAny_bind (wpAny_isInstance (T := "int") (b := false) (typeIs_int _ _ _) PySem.sub_int_bytes ?_)))
  simp only [Bool.false_eq_true, if_false]
  refine wpAny_pure (wpAny_bind (wpAny_bind (wpAny_isInstance (T := "int") (b := false) (typeIs_int _ _ _) PySem.sub_int_bytearray ?_)))
  simp only [Bool.false_eq_true, if_false]
  refine wpAny_pure (wpAny_pure ?_)
  refine wpAny_bind (wpAny_newObj_type ?_)
  refine wpAny_pure ⟨plainId_quiet F.plain_sum_loop _, ?_⟩
  refine sum_loop (G := G) (A := X.A) (W := WV) (n₀ := n₀) (tn := tn) rfl hr.hd hr.depth (Nat.le_of_lt (Nat.lt_trans M.lt M.ltS)) (Nat.ne_of_gt M.ltS) M.isG (fun ns t H' s1 s2 hat hw ho hb hk => ?_) (n₀ + 1) _ 0 _ 0 (.inl rfl) (Nat.succ_ne_zero _) (Heap.get?_push_size _ rfl) ?_
  · have hw : W n₀ (vsum (ns.map V.int)) H' := hw
    rw [vsum_map] at hw
    obtain ⟨oS, hc, J'⟩ := hat
    exact ⟨.int ns.sum, H', gen_back M.inv J' (fun b hb => (M.fps b hb).1) ho hk hb, ⟨t, rfl⟩, (stop _ H' hw).2⟩
  · exact made_wait M ok hN hr.hd M.inv.ok.frames (hg _ _ _ _ _) (he _ _ _ _ _ (room_gen2 hr _)) P0 rfl rfl (fun b o e => Heap.get?_push_of_some _ e) (Heap.get?_push_size _ rfl) lst_cell (Nat.lt_trans M.lt M.ltS) ⟨[], s5.toks, 0, rfl, Heap.get?_push_size _ rfl⟩ w0
end
end GX

-- text GenY
set_option maxRecDepth 100000
set_option maxHeartbeats 4000000
/-! GenY: generator expressions with two clauses. -/
namespace GX
open PySem PySem.Spec PyProof.Rows L2 LamX GenW
abbrev gen2 (elt tg iter tg1 iter1 : Expr) (scope : Scope) (pos : Pos) : Expr := .GeneratorExp elt [⟨tg, iter, [], 0⟩, ⟨tg1, iter1, [], 0⟩] scope pos
theorem over_in {A : Around} {elt : Expr} {gs : List Comprehension} {scope : Scope} {pos p : Pos} {it it0 acc : Value} {env : Env} {k : Result → Sem Fin} :
    A.over (.compLoop (.GeneratorExp elt gs scope pos) 1 it acc env) [.ret k none false [] (.compLoop (.GeneratorExp elt gs scope pos) 0 it0 acc env) p []] = A.deeper env := by
  obtain ⟨a, b, c, d, e⟩ := A
  simp [Around.over, Around.deeper, marksOver, markOver, frameCount, unitsOf, envsOf, guardsOf, pushEnvs, pushGuards, Code.envs, Code.env?, Code.isFrame, Code.guards, Code.isGuard, Code.weight, Code.frames, Code.isCreation, Code.isCaller, Code.cUnits, Frame.where_, Frame.marks]
theorem over_inS {A : Around} {elt : Expr} {gs : List Comprehension} {scope : Scope} {pos p : Pos} {it it0 acc : Value} {env : Env} {k : Result → Sem Fin} :
    A.over (.compStart (.GeneratorExp elt gs scope pos) 1 it acc env) [.ret k none false [] (.compLoop (.GeneratorExp elt gs scope pos) 0 it0 acc env) p []] = A.deeper env := by
  obtain ⟨a, b, c, d, e⟩ := A
  simp [Around.over, Around.deeper, marksOver, markOver, frameCount, unitsOf, envsOf, guardsOf, pushEnvs, pushGuards, Code.envs, Code.env?, Code.isFrame, Code.guards, Code.isGuard, Code.weight, Code.frames, Code.isCreation, Code.isCaller, Code.cUnits, Frame.where_, Frame.marks]
theorem over_out {A : Around} {elt : Expr} {gs : List Comprehension} {scope : Scope} {pos : Pos} {it acc : Value} {env : Env} : A.over (.compLoop (.GeneratorExp elt gs scope pos) 0 it acc env) [] = A.deeper env := over_gen
theorem turn2_0 (elt tg iter tg1 iter1 : Expr) (scope : Scope) (pos : Pos) (it acc : Value) (env : Env) : compTurn (gen2 elt tg iter tg1 iter1 scope pos) 0 it acc env = (do
      standAt iter.pos
      match ← pyNext it with
      | none => pure (.done .next)
      | some v =>
        letOwnedTupleGo tg it v
        assign tg env v
        let mut ok := true
        for c in ([] : List Expr) do
          if ok then ok ← isTrue c env (eval c env)
        if ok then
          let x ← eval iter1 env
          standAt iter1.pos
          let x ← foldedSetIterable iter1 env x
          let _ ← runOwn (.compStart (gen2 elt tg iter tg1 iter1 scope pos) 1 (← holding [x] (pyIter x)) acc env) env
        again (.compLoop (gen2 elt tg iter tg1 iter1 scope pos) 0 it acc env)) := by
  rfl
theorem turn2_1 (elt tg iter tg1 iter1 : Expr) (scope : Scope) (pos : Pos) (it acc : Value) (env : Env) : compTurn (gen2 elt tg iter tg1 iter1 scope pos) 1 it acc env = (do
      standAt iter1.pos
      match ← pyNext it with
      | none => pure (.done .next)
      | some v =>
        letOwnedTupleGo tg1 it v
        assign tg1 env v
        let mut ok := true
        for c in ([] : List Expr) do
          if ok then ok ← isTrue c env (eval c env)
        if ok then
          (do let v ← eval elt env; standAt elt.pos; let _ ← yieldOut env v)
        again (.compLoop (gen2 elt tg iter tg1 iter1 scope pos) 1 it acc env)) := by
  rfl
theorem seg_runOwn {M : Model} {A : Around} {R : GenEnd} {Y : Protocol} {n : Nat} {s₀ s : Shared} {c c' : Code} {env : Env} {fs : List Frame} {K : Flow → Sem Fin} {H : Value → Sem Fin} {gd : Bool → Bool} {lv : List Value → List Value}
    (h : ∀ p, Seg M A R Y n s₀ c' (M.den c') (.ret (fun r => ((match r with | .ok f => (.pure f : Sem Flow) | .error e => .raise e).onRaise fun (x : Value) => do
        if (← field x 1) == Value.none then unsupported "frame.own-activation:exception-without-traceback"
        setFlight x env.frame).wrap K H gd lv) none (gd false) (lv []) c p [] :: fs) s) : Seg M A R Y n s₀ c ((runOwn c' env).wrap K H gd lv) fs s := seg_call h
/-- one turn's promise; the inner clause's own turns within -/
structure Turns2 (G : GD) (J : It) (g : TG) (wi1 : TI) (g1 : TG) (te : TE) (vs vs1 : List Nat) (no N : Nat) (W : Nat → List V → Hp → Prop) (Wf : List V → Hp → Prop) (Yd : V → Prop) : Prop where
  step : ∀ i ys H, i < no → W i ys H → J.go i H ∧ ∀ x H', J.yld i H x H' → g x G.σ H' fun σ2 H2 => wipe σ2 vs = G.σ ∧ wi1 σ2 H2 fun J1 H4 => ∃ (m : Nat) (U : Nat → List V → Hp → Prop), U 0 ys H4 ∧
    (∀ j ys H, j < m → U j ys H → ys.length < N ∧ J1.go j H ∧ ∀ x H', J1.yld j H x H' → g1 x (wipe σ2 vs1) H' fun σ3 H5 => wipe σ3 vs1 = wipe σ2 vs1 ∧ te σ3 H5 fun y H6 => Yd y ∧ U (j + 1) (ys ++ [y]) H6) ∧
    (∀ ys H, U m ys H → J1.stop m H ∧ W (i + 1) ys H)
  stop : ∀ ys H, W no ys H → J.stop no H ∧ ys.length = N ∧ Wf ys H
section
variable {G : GD} {elt tg iter tg1 iter1 : Expr} {pos : Pos} {vs vs1 : List Nat} {J : It} {g g1 : TG} {wi1 : TI} {te : TE} {it : Addr} {tn : Nat → Heap → Prop} {no N : Nat} {Gh : Nat → Shared → List V → Prop} {W : Nat → List V → Hp → Prop} {Wf : List V → Hp → Prop} {Yd : V → Prop}
abbrev yd2 (Yd : V → Prop) : Nat → List V → V → Hp → Prop := fun _ _ y _ => Yd y
abbrev we2 (Wf : List V → Hp → Prop) : Nat → List V → Hp → Prop := fun _ ys H => Wf ys H
theorem GD.at.setσ {σ' : L2.St} {H : Hp} {s : Shared} (h : GD.at { G with σ := σ' } H s) (hl : G.σ.length = σ'.length) (w : ∀ (i : Nat) v, G.σ[i]? = some (some v) → σ'[i]? = some (some v)) : G.at H s := by
  obtain ⟨oS, hc, I⟩ := h
  exact ⟨oS, hc, Inv.weak (X := G.cx) I hl w⟩
/-- the inner clause's turns -/
theorem seg_inner {J1 : It} {fp1 : List Addr} {it1 : Addr} {tn1 : Nat → Heap → Prop} {σ2 : L2.St} {m : Nat} {U : Nat → List V → Hp → Prop} {kf : Result → Sem Fin} {pf : Pos} {i : Nat}
    (T : Turn G.X.prog G.X.w G.X.K tg J G.fp it tn) (T1 : Turn G.X.prog G.X.w G.X.K tg1 J1 fp1 it1 tn1) (hg1 : PG G.cx tg1 g1) (he : PE G.cx elt te) (hco : G.scope.isCoroutine = false) (hS : G.s.heap.objs.size ≤ G.S)
    (haS : ∀ b ∈ G.fp, b ≠ G.a ∧ b ≠ G.S) (st1 : ∀ b ∈ fp1, b ≠ G.cx.env.locals ∧ b ∉ G.cx.fs ∧ (b ∈ G.cx.ex ∨ G.cx.s_0.heap.objs.size ≤ b) ∧ (∀ x c, G.cx.env.cells.lookup x = some c → c ≠ b) ∧ b ≠ G.a ∧ b ≠ G.S ∧ b ∉ G.fp)
    (hσ : wipe (wipe σ2 vs1) vs = G.σ)
    (step : ∀ j ys H, j < m → U j ys H → ys.length < N ∧ J1.go j H ∧ ∀ x H', J1.yld j H x H' → g1 x (wipe σ2 vs1) H' fun σ3 H5 => wipe σ3 vs1 = wipe σ2 vs1 ∧ te σ3 H5 fun y H6 => Yd y ∧ U (j + 1) (ys ++ [y]) H6)
    (stop : ∀ ys H, U m ys H → J1.stop m H)
    (cont : ∀ (n : Nat) (s₀ s : Shared) (ys : List V) (H : Hp), ys.length + n = N + 1 → Gh ys.length s₀ ys → G.at H s → tn i s.heap → (∀ b ∈ G.fp, H b = none) → (∀ o, s₀.heap.get? G.S = some o → s.heap.get? G.S = some o) → U m ys H →
      Seg (model G.X.prog G.X.w) G.A (fun n s₀ r s₁ => r = .ok .next ∧ G.E N Gh (we2 Wf) n s₀ s₁) (G.Y tn N Gh (yd2 Yd) yesCt) n s₀ (.compLoop (gen2 elt tg iter tg1 iter1 G.scope pos) 0 (.ref it) .none G.cx.env) (kf (.ok .next)) [] s) :
    ∀ (l j : Nat) (n : Nat) (s₀ s : Shared) (ys : List V) (H : Hp), j + l = m → ys.length + n = N + 1 → Gh ys.length s₀ ys → GD.at { G with σ := wipe σ2 vs1 } H s → tn i s.heap → tn1 j s.heap → (∀ b ∈ G.fp, H b = none) → (∀ b ∈ fp1, H b = none) →
      (∀ o, s₀.heap.get? G.S = some o → s.heap.get? G.S = some o) → U j ys H →
      Seg (model G.X.prog G.X.w) G.A (fun n s₀ r s₁ => r = .ok .next ∧ G.E N Gh (we2 Wf) n s₀ s₁) (G.Y tn N Gh (yd2 Yd) yesCt) n s₀ (.compLoop (gen2 elt tg iter tg1 iter1 G.scope pos) 1 (.ref it1) .none G.cx.env)
        ((model G.X.prog G.X.w).den (.compLoop (gen2 elt tg iter tg1 iter1 G.scope pos) 1 (.ref it1) .none G.cx.env)) [.ret kf none false [] (.compLoop (gen2 elt tg iter tg1 iter1 G.scope pos) 0 (.ref it) .none G.cx.env) pf []] s := by
  have hov : G.A.over (.compLoop (gen2 elt tg iter tg1 iter1 G.scope pos) 1 (.ref it1) .none G.cx.env) [.ret kf none false [] (.compLoop (gen2 elt tg iter tg1 iter1 G.scope pos) 0 (.ref it) .none G.cx.env) pf []] = G.cx.A := over_in
  have fpokO : ∀ {oS : Obj} {σ' : L2.St} {H' : Hp} {s' : Shared}, Inv G.cx [(G.a, G.go), (G.S, oS)] σ' H' s' → (∀ b ∈ G.fp, H' b = none) → ∀ b ∈ G.fp, FpOk G.cx [(G.a, G.go), (G.S, oS)] H' b := fun {oS σ' H' s'} I' hn b hb =>
    ⟨hn b hb, (I'.ok.exf b hb).1, I'.ok.exfs b hb, .inl hb, fun x c e => (I'.ok.exf b hb).2 x c e, fun p hp => by
      have hp : p ∈ [(G.a, G.go), (G.S, oS)] := hp
      rcases List.mem_cons.mp hp with z | z
      · rw [z]; exact fun q => (haS b hb).1 q.symm
      · rw [List.mem_singleton.mp z]; exact fun q => (haS b hb).2 q.symm⟩
  have fpok1 : ∀ {oS : Obj} {h : Heap} {H' : Hp}, (∀ b ∈ fp1, H' b = none) → ∀ b ∈ fp1, FpOk G.cx ([(G.a, G.go), (G.S, oS)] ++ pinsAt G.fp h) H' b := fun {oS h H'} hn b hb => by
    obtain ⟨k1, k2, k3, k4, k5, k6, k7⟩ := st1 b hb
    refine ⟨hn b hb, k1, k2, k3, k4, fun p hp => ?_⟩
    rcases List.mem_append.mp (show p ∈ [(G.a, G.go), (G.S, oS)] ++ pinsAt G.fp h from hp) with hp | hp
    · rcases List.mem_cons.mp hp with z | z
      · rw [z]; exact fun q => k5 q.symm
      · rw [List.mem_singleton.mp z]; exact fun q => k6 q.symm
    · exact fun q => k7 (by rw [← q]; exact (of_pinsAt hp).1)
  have lσ : G.σ.length = (wipe σ2 vs1).length := by rw [← hσ, wipe_length]
  have wσ : ∀ (i : Nat) v, G.σ[i]? = some (some v) → (wipe σ2 vs1)[i]? = some (some v) := fun i v e => by
    rw [← hσ] at e
    exact (wipe_some e).1
  intro l
  induction l with
  | zero =>
    intro j n s₀ s ys H hj hn hgh hat ht ht1 hO h1 hkS hU
    have hjm : j = m := by omega
    subst hjm
    show Seg _ G.A _ _ _ s₀ _ ((compTurn (gen2 elt tg iter tg1 iter1 G.scope pos) 1 (.ref it1) .none G.cx.env).onRaise _) _ s
    rw [turn2_1, Sem.onRaise_eq_wrap]
    refine seg_bind_wrap (wpAny_standAt ?_)
    obtain ⟨oS, hc, I⟩ := hat
    have I : Inv G.cx [(G.a, G.go), (G.S, oS)] (wipe σ2 vs1) H s := I
    have IP := I.pinned (fpokO I hO) (T.obj _ _ ht)
    refine seg_bind_wrap ?_
    rw [hov]
    refine thnZ (T1.done G.cx rfl rfl rfl rfl j _ s _ H (fun _ _ => False) IP (fpok1 h1) ht1 (stop ys H hU)) fun r s6 ⟨hr, I6⟩ => ?_
    subst hr
    have pS := (I.pin (G.S, oS) (List.mem_append_right _ (List.mem_cons_of_mem _ List.mem_cons_self))).1
    have pS6 := (I6.pin (G.S, oS) (List.mem_append_right _ (List.mem_append_left _ (List.mem_cons_of_mem _ List.mem_cons_self)))).1
    have I6' : Inv G.cx [(G.a, G.go), (G.S, oS)] G.σ H s6 := (I6.unpinned).weak lσ wσ
    refine seg_leaf (.ok .next) (cont n s₀ s6 ys H hn hgh ⟨oS, hc, I6'⟩ (T.keep _ _ _ ht fun b hb o e => (I6.pin (b, o) (List.mem_append_right _ (List.mem_append_right _ (mem_pinsAt hb e)))).1) hO (fun o ho => ?_) hU)
    have := hkS o ho
    rw [pS] at this
    rw [← this]
    exact pS6
  | succ l ih =>
    intro j n s₀ s ys H hj hn hgh hat ht ht1 hO h1 hkS hU
    obtain ⟨hlt, hgo, hst⟩ := step j ys H (by omega) hU
    show Seg _ G.A _ _ _ s₀ _ ((compTurn (gen2 elt tg iter tg1 iter1 G.scope pos) 1 (.ref it1) .none G.cx.env).onRaise _) _ s
    rw [turn2_1, Sem.onRaise_eq_wrap]
    refine seg_bind_wrap (wpAny_standAt ?_)
    obtain ⟨oS, hc, I⟩ := hat
    have I : Inv G.cx [(G.a, G.go), (G.S, oS)] (wipe σ2 vs1) H s := I
    have IP := I.pinned (fpokO I hO) (T.obj _ _ ht)
    refine seg_bind_wrap ?_
    rw [hov]
    refine thnZ (T1.item G.cx rfl rfl rfl rfl j _ s _ H (fun _ _ => False) IP (fpok1 h1) ht1 hgo) fun r s6 ⟨u, hr, h6⟩ => ?_
    subst hr
    refine seg_bind_wrap ?_
    rw [hov]
    refine thnZ h6 fun _ s7 ⟨x, H7, I7, r7, y7, st7, n7⟩ => ?_
    refine seg_bind_wrap ?_
    rw [hov]
    refine thnZ (hg1.run _ s7 _ H7 x u _ (I7.pinned (fpok1 n7) (T1.obj _ _ st7)) r7 (hst x H7 y7)) fun _ s8 ⟨σ8, H8, I8, hw8, q8⟩ => ?_
    refine seg_bind_wrap (wpAny_tests_nil ?_)
    have hy : ∀ v, yieldOut G.cx.env v = yieldValue v := fun v => by
      have hco' : G.cx.env.scope.isCoroutine = false := hco
      simp only [yieldOut, hco', Bool.false_eq_true, if_false]
    simp only [if_true, hy]
    rw [Sem.bind_eq_wrap', Sem.bind_eq_wrap', Sem.wrap_wrap, Sem.wrap_wrap]
    refine seg_wrap ?_
    rw [hov]
    refine thnZ (he.run _ s8 σ8 H8 _ I8 q8) fun v s9 ⟨yv, H9, I9, r9, hyd, hU9⟩ => ?_
    have pin9 : ∀ p ∈ [(G.a, G.go), (G.S, oS)] ++ pinsAt G.fp s.heap, s9.heap.get? p.1 = some p.2 ∧ H9 p.1 = none ∧ p.1 ≠ G.cx.env.locals ∧ p.1 ∉ G.cx.fs ∧ ∀ v, p.2.data ≠ .cell v := fun p hp => I9.pin p (List.mem_append_right _ (List.mem_append_left _ hp))
    have I9' : Inv G.cx [(G.a, G.go), (G.S, oS)] (wipe σ2 vs1) H9 s9 := (I9.pins_of (pins' := [(G.a, G.go), (G.S, oS)]) fun p hp => pin9 p (List.mem_append_left _ hp)).weak (by rw [← hw8, wipe_length]) fun j v e => by
      rw [← hw8] at e
      exact (wipe_some e).1
    have pS := (I.pin (G.S, oS) (List.mem_append_right _ (List.mem_cons_of_mem _ List.mem_cons_self))).1
    have pS9 := (I9'.pin (G.S, oS) (List.mem_append_right _ (List.mem_cons_of_mem _ List.mem_cons_self))).1
    have A9 : GD.at { G with σ := wipe σ2 vs1 } H9 s9 := ⟨oS, hc, I9'⟩
    have t9 : tn i s9.heap := T.keep _ _ _ ht fun b hb o e => (pin9 (b, o) (List.mem_append_right _ (mem_pinsAt hb e))).1
    have n9 : ∀ b ∈ G.fp, H9 b = none := fun b hb => by
      obtain ⟨o, e, _⟩ := T.obj _ _ ht b hb
      exact (pin9 (b, o) (List.mem_append_right _ (mem_pinsAt hb e))).2.1
    have pin1 : ∀ b ∈ fp1, ∀ o, s7.heap.get? b = some o → s9.heap.get? b = some o ∧ H9 b = none := fun b hb o e =>
      let z := I9.pin (b, o) (List.mem_append_right _ (List.mem_append_right _ (mem_pinsAt hb e)))
      ⟨z.1, z.2.1⟩
    have t19 : tn1 (j + 1) s9.heap := T1.keep _ _ _ st7 fun b hb o e => (pin1 b hb o e).1
    have n19 : ∀ b ∈ fp1, H9 b = none := fun b hb => by
      obtain ⟨o, e, _⟩ := T1.obj _ _ st7 b hb
      exact (pin1 b hb o e).2
    obtain ⟨n', rfl⟩ : ∃ n', n = n' + 1 := ⟨n - 1, by omega⟩
    refine seg_at (seg_yield rfl rfl rfl ⟨ys.length, ys, yv, H9, by omega, hlt, hgh, r9, A9.setσ lσ wσ, fun o ho => ?_, hyd, fun s' hr hc' hgh' => ?_⟩)
    · have := hkS o ho
      rw [pS] at this
      rw [← this]
      exact pS9
    · have A' : GD.at { G with σ := wipe σ2 vs1 } H9 s' := A9.woken hS ⟨hr.os, hr.bare, hr.keep, hr.ga, hr.gs⟩
      refine seg_again rfl (ih (j + 1) n' s' s' (ys ++ [yv]) H9 (by omega) (by rw [List.length_append, List.length_singleton]; omega) (by rw [List.length_append, List.length_singleton]; exact hgh') A' (T.keep _ _ _ t9 fun b hb o e => hr.keep b o (haS b hb).2 e)
        (T1.keep _ _ _ t19 fun b hb o e => hr.keep b o (st1 b hb).2.2.2.2.2.1 e) n9 n19 (fun o ho => ho) hU9)
/-- the outer clause's turns -/
theorem seg_outer (T : Turn G.X.prog G.X.w G.X.K tg J G.fp it tn) (hg : PG G.cx tg g) (hi1 : PI G.cx tg1 iter1 wi1) (hg1 : PG G.cx tg1 g1) (he : PE G.cx elt te) (hco : G.scope.isCoroutine = false) (hS : G.s.heap.objs.size ≤ G.S)
    (haS : ∀ b ∈ G.fp, b ≠ G.a ∧ b ≠ G.S) (hsf : ∀ x, foldedSetIterable iter1 G.cx.env x = pure x) (hv : ∀ σ : L2.St, wipe (wipe σ vs1) vs = wipe σ vs) (P : Turns2 G J g wi1 g1 te vs vs1 no N W Wf Yd) :
    ∀ (k i : Nat) (n : Nat) (s₀ s : Shared) (ys : List V) (H : Hp), i + k = no → ys.length + n = N + 1 → Gh ys.length s₀ ys → G.at H s → tn i s.heap → (∀ b ∈ G.fp, H b = none) → (∀ o, s₀.heap.get? G.S = some o → s.heap.get? G.S = some o) → W i ys H →
      Seg (model G.X.prog G.X.w) G.A (fun n s₀ r s₁ => r = .ok .next ∧ G.E N Gh (we2 Wf) n s₀ s₁) (G.Y tn N Gh (yd2 Yd) yesCt) n s₀ (.compLoop (gen2 elt tg iter tg1 iter1 G.scope pos) 0 (.ref it) .none G.cx.env)
        ((model G.X.prog G.X.w).den (.compLoop (gen2 elt tg iter tg1 iter1 G.scope pos) 0 (.ref it) .none G.cx.env)) [] s := by
  have hov : G.A.over (.compLoop (gen2 elt tg iter tg1 iter1 G.scope pos) 0 (.ref it) .none G.cx.env) [] = G.cx.A := over_out
  have fpok : ∀ {oS : Obj} {σ' : L2.St} {H' : Hp} {s' : Shared}, Inv G.cx [(G.a, G.go), (G.S, oS)] σ' H' s' → (∀ b ∈ G.fp, H' b = none) → ∀ b ∈ G.fp, FpOk G.cx [(G.a, G.go), (G.S, oS)] H' b := fun {oS σ' H' s'} I' hn b hb =>
    ⟨hn b hb, (I'.ok.exf b hb).1, I'.ok.exfs b hb, .inl hb, fun x c e => (I'.ok.exf b hb).2 x c e, fun p hp => by
      have hp : p ∈ [(G.a, G.go), (G.S, oS)] := hp
      rcases List.mem_cons.mp hp with z | z
      · rw [z]; exact fun q => (haS b hb).1 q.symm
      · rw [List.mem_singleton.mp z]; exact fun q => (haS b hb).2 q.symm⟩
  intro k
  induction k with
  | zero =>
    intro i n s₀ s ys H hi hn hgh hat ht hO hkS hW
    have him : i = no := by omega
    subst him
    obtain ⟨hstop, hlen, hwf⟩ := P.stop ys H hW
    show Seg _ G.A _ _ _ s₀ _ ((compTurn (gen2 elt tg iter tg1 iter1 G.scope pos) 0 (.ref it) .none G.cx.env).onRaise _) _ s
    rw [turn2_0, Sem.onRaise_eq_wrap]
    refine seg_bind_wrap (wpAny_standAt ?_)
    obtain ⟨oS, hc, I⟩ := hat
    refine seg_bind_wrap ?_
    rw [hov]
    refine thnZ (T.done G.cx rfl rfl rfl rfl i _ s _ H (fun _ _ => False) I (fpok I hO) ht hstop) fun r s6 ⟨hr, I6⟩ => ?_
    subst hr
    have pS := (I.pin (G.S, oS) (List.mem_append_right _ (List.mem_cons_of_mem _ List.mem_cons_self))).1
    have pS6 := (I6.pin (G.S, oS) (List.mem_append_right _ (List.mem_cons_of_mem _ List.mem_cons_self))).1
    rw [hlen] at hgh
    refine seg_end (.ok .next) ⟨rfl, by omega, ys, H, hgh, ⟨oS, hc, I6⟩, fun o ho => ?_, hwf⟩
    have := hkS o ho
    rw [pS] at this
    rw [← this]
    exact pS6
  | succ k ih =>
    intro i n s₀ s ys H hi hn hgh hat ht hO hkS hW
    obtain ⟨hgo, hst⟩ := P.step i ys H (by omega) hW
    show Seg _ G.A _ _ _ s₀ _ ((compTurn (gen2 elt tg iter tg1 iter1 G.scope pos) 0 (.ref it) .none G.cx.env).onRaise _) _ s
    rw [turn2_0, Sem.onRaise_eq_wrap]
    refine seg_bind_wrap (wpAny_standAt ?_)
    obtain ⟨oS, hc, I⟩ := hat
    refine seg_bind_wrap ?_
    rw [hov]
    refine thnZ (T.item G.cx rfl rfl rfl rfl i _ s _ H (fun _ _ => False) I (fpok I hO) ht hgo) fun r s6 ⟨u, hr, h6⟩ => ?_
    subst hr
    refine seg_bind_wrap ?_
    rw [hov]
    refine thnZ h6 fun _ s7 ⟨x, H7, I7, r7, y7, st7, n7⟩ => ?_
    refine seg_bind_wrap ?_
    rw [hov]
    refine thnZ (hg.run _ s7 _ H7 x u _ (I7.pinned (fpok I7 n7) (T.obj _ _ st7)) r7 (hst x H7 y7)) fun _ s8 ⟨σ8, H8, I8, hw8, q8⟩ => ?_
    refine seg_bind_wrap (wpAny_tests_nil ?_)
    simp only [if_true]
    refine seg_bind_wrap ?_
    rw [hov]
    refine thnZ (hi1.run _ s8 σ8 H8 _ I8 q8) fun xv s9 hx => ?_
    refine seg_bind_wrap (wpAny_standAt ?_)
    rw [hsf]
    refine seg_bind_wrap (wpAny_pure ?_)
    refine seg_bind_wrap ?_
    rw [hov]
    refine wpAny_holding (thnZ hx fun itv s10 hx2 => ?_)
    obtain ⟨it1, fp1, tn1, J1, H10, e, I10, T1, t10, f10, m, U, hU0, step1, stop1⟩ := hx2
    subst e
    have pinO : ∀ p ∈ [(G.a, G.go), (G.S, oS)] ++ pinsAt G.fp s7.heap, s10.heap.get? p.1 = some p.2 ∧ H10 p.1 = none ∧ p.1 ≠ G.cx.env.locals ∧ p.1 ∉ G.cx.fs ∧ ∀ v, p.2.data ≠ .cell v := fun p hp => I10.pin p (List.mem_append_right _ hp)
    have n10 : ∀ b ∈ G.fp, H10 b = none := fun b hb => by
      obtain ⟨o, e, _⟩ := T.obj _ _ st7 b hb
      exact (pinO (b, o) (List.mem_append_right _ (mem_pinsAt hb e))).2.1
    have tO : tn (i + 1) s10.heap := T.keep _ _ _ st7 fun b hb o e => (pinO (b, o) (List.mem_append_right _ (mem_pinsAt hb e))).1
    have pS := (I.pin (G.S, oS) (List.mem_append_right _ (List.mem_cons_of_mem _ List.mem_cons_self))).1
    have I10' : Inv G.cx [(G.a, G.go), (G.S, oS)] (wipe σ8 vs1) H10 s10 := (I10.pins_of (pins' := [(G.a, G.go), (G.S, oS)]) fun p hp => pinO p (List.mem_append_left _ hp)).weak (by rw [wipe_length]) fun j v e => (wipe_some e).1
    have pS10 := (I10'.pin (G.S, oS) (List.mem_append_right _ (List.mem_cons_of_mem _ List.mem_cons_self))).1
    have hkS10 : ∀ o, s₀.heap.get? G.S = some o → s10.heap.get? G.S = some o := fun o ho => by
      have := hkS o ho
      rw [pS] at this
      rw [← this]
      exact pS10
    have st1 : ∀ b ∈ fp1, b ≠ G.cx.env.locals ∧ b ∉ G.cx.fs ∧ (b ∈ G.cx.ex ∨ G.cx.s_0.heap.objs.size ≤ b) ∧ (∀ x c, G.cx.env.cells.lookup x = some c → c ≠ b) ∧ b ≠ G.a ∧ b ≠ G.S ∧ b ∉ G.fp := fun b hb => by
      obtain ⟨k0, k1, k2, k3, k4, k5⟩ := f10 b hb
      refine ⟨k1, k2, k3, k4, fun z => k5 (G.a, G.go) (List.mem_append_right _ (List.mem_append_left _ List.mem_cons_self)) z.symm, fun z => k5 (G.S, oS) (List.mem_append_right _ (List.mem_append_left _ (List.mem_cons_of_mem _ List.mem_cons_self))) z.symm, fun hb2 => ?_⟩
      obtain ⟨o, e, _⟩ := T.obj _ _ st7 b hb2
      exact k5 (b, o) (List.mem_append_right _ (List.mem_append_right _ (mem_pinsAt hb2 e))) rfl
    rw [Sem.bind_eq_wrap', Sem.wrap_wrap]
    refine seg_runOwn fun pf => ?_
    have loop : ∀ (kf : Result → Sem Fin), (kf (.ok .next) = .pure (.again (.compLoop (gen2 elt tg iter tg1 iter1 G.scope pos) 0 (.ref it) .none G.cx.env))) →
        Seg (model G.X.prog G.X.w) G.A (fun n s₀ r s₁ => r = .ok .next ∧ G.E N Gh (we2 Wf) n s₀ s₁) (G.Y tn N Gh (yd2 Yd) yesCt) n s₀ (.compLoop (gen2 elt tg iter tg1 iter1 G.scope pos) 1 (.ref it1) .none G.cx.env)
        ((model G.X.prog G.X.w).den (.compLoop (gen2 elt tg iter tg1 iter1 G.scope pos) 1 (.ref it1) .none G.cx.env)) [.ret kf none false [] (.compLoop (gen2 elt tg iter tg1 iter1 G.scope pos) 0 (.ref it) .none G.cx.env) pf []] s10 := fun kf hk =>
      seg_inner (vs := vs) (vs1 := vs1) (J := J) (te := te) (N := N) (Wf := Wf) (Yd := Yd) (σ2 := σ8) (m := m) (U := U) (i := i + 1) T T1 hg1 he hco hS haS st1 (by rw [hv]; exact hw8) step1 (fun ys H h => (stop1 ys H h).1)
        (fun n s₀ s ys H hn hgh hat ht hO hkS hU => by rw [hk]; exact seg_again rfl (ih (i + 1) n s₀ s ys H (by omega) hn hgh hat ht hO hkS (stop1 ys H hU).2)) m 0 n s₀ s10 ys H10 (by omega) hn hgh ⟨oS, hc, I10'⟩ tO t10 n10 (fun b hb => (f10 b hb).1) hkS10 hU0
    show Seg _ G.A _ _ _ s₀ _ ((compStart (gen2 elt tg iter tg1 iter1 G.scope pos) 1 (.ref it1) .none G.cx.env).onRaise _) _ s10
    unfold compStart
    rw [Sem.onRaise_eq_wrap]
    show Seg _ G.A _ _ _ s₀ _ ((ask >>= _).wrap _ _ _ _) _ s10
    refine seg_bind_wrap (wpAny_askSetting ?_)
    split
    · exact seg_again rfl (loop _ rfl)
    · refine seg_bind_wrap (wpAny_rule ?_)
      show Seg _ G.A _ _ _ s₀ _ ((standAt iter1.pos >>= _).wrap _ _ _ _) _ s10
      exact seg_bind_wrap (wpAny_standAt (seg_bind_wrap (T1.self _ 0 s10 _ _ t10 (seg_again rfl (loop _ rfl)))))
end
end GX

-- text GenZ
set_option maxRecDepth 100000
set_option maxHeartbeats 4000000
/-! GenZ: generator expressions with two clauses, made; the least of what comes out. -/
namespace GX
open PySem PySem.Spec PyProof.Rows L2 LamX GenW
theorem eval_gen2 (elt tg iter tg1 iter1 : Expr) (scope : Scope) (pos : Pos) (env : Env) (hco : scope.isCoroutine = false) :
    eval (gen2 elt tg iter tg1 iter1 scope pos) env = (do
      let x ← eval iter env
      standAt iter.pos
      let x ← genFold iter env x
      let it ← holding [x] (pyIter x)
      enterFrame
      let cl ← closureFor scope env
      let code ← genexprCode env pos (env.qual ++ "<genexpr>") scope
      let bi ← builtinsFor env.globals env.builtins
      let cenv ← newFunctionEnv scope env.globals cl [(".0", it)] (env.qual ++ "<genexpr>.") none code none bi
      newGenerator (.compStart (gen2 elt tg iter tg1 iter1 scope pos) 0 it .none cenv) "<genexpr>" (env.qual ++ "<genexpr>")) := by
  rw [arm_eval_GeneratorExp]
  simp only [hco, Bool.false_eq_true, if_false]
  cases iter <;> rfl
theorem make2_eval {M : Model} {A : Around} {E : Value → Shared → Prop} {s : Shared} {env : Env} {elt tg iter tg1 iter1 : Expr} {scope : Scope} {cl : List (Str × Addr)} {pos : Pos} {Q : Value → Shared → Prop}
    (hco : scope.isCoroutine = false) (hclos : closureFor scope env = pure cl) (hcell : ∀ y ∈ scope.names, y.2 ≠ .cell) (h0 : scope.names.lookup (".0" : Str) = some NameKind.local) (hkind : scope.kind = .function) (hroom : A.depth < recursionLimit)
    (h : wpAny M A (eval iter env) (fun xv z1 => wpAny M A (pyIter xv) (fun it z2 => z2.heap.NoLimit ∧ wpAny M A (genexprCode env pos (env.qual ++ "<genexpr>") scope) (fun code z3 => wpAny M A (builtinsFor env.globals env.builtins) (fun bi z4 =>
        ∀ g, g.Ns z4.heap.objs.size (fun y => if y = ".0" then some it else none) → Heap.SameBut z4.heap.objs.size (z4.heap.push { cls := .type "frame", data := .dict #[] }) g →
          Q (.ref g.objs.size) { z4 with gens := z4.gens.push (.fresh (.compStart (gen2 elt tg iter tg1 iter1 scope pos) 0 it .none (genEnv scope cl z4.heap.objs.size code bi env))), toks := z4.toks + 1 + 1 + 1, heap := g.push { cls := .type "generator", data := .fields #[.int z4.gens.size 0, .str "<genexpr>" (z4.toks + 1), .str (env.qual ++ "<genexpr>") (z4.toks + 1 + 1)] } }) E z3) E z2) E z1) E s)
    (hs : ∀ x, genFold iter env x = pure x) : wpAny M A (eval (gen2 elt tg iter tg1 iter1 scope pos) env) Q E s := by
  rw [eval_gen2 _ _ _ _ _ _ _ _ hco, hclos]
  refine wpAny_bind (wpAny_mono h (fun xv z1 k1 => ?_) fun _ _ y => y)
  refine wpAny_bind (wpAny_standAt (wpAny_bind (wpAny_of_eq (hs xv) ?_)))
  refine wpAny_bind (wpAny_holding (wpAny_mono k1 (fun it z2 k2 => ?_) fun _ _ y => y))
  refine wpAny_bind (wpAny_enterFrame k2.1 hroom (wpAny_bind (wpAny_pure ?_)))
  refine wpAny_bind (wpAny_mono k2.2 (fun code z3 k3 => wpAny_bind (wpAny_mono k3 (fun bi z4 k4 => ?_) fun _ _ y => y)) fun _ _ y => y)
  have hb : ∀ y ∈ ([((".0" : Str), it)] : List (Str × Value)), scope.names.lookup y.1 = some NameKind.local := fun y hy => by rw [List.mem_singleton.mp hy]; exact h0
  refine wpAny_bind (wpAny_newFunctionEnv hcell hb (fun g hn hsb => ?_) hkind)
  have e : (fun y : Str => ([((".0" : Str), it)] : List (Str × Value)).reverse.lookup y) = fun y : Str => if y = (".0" : Str) then some it else none := by
    funext y
    by_cases hy : y = ".0"
    · subst hy; simp
    · have : (y == (".0" : Str)) = false := by simpa using hy
      simp [List.lookup, this, hy]
  rw [e] at hn
  simp only [newGenerator, newFields]
  refine wpAny_bind (wpAny_newGen (wpAny_bind (wpAny_mkText (wpAny_bind (wpAny_mkText (wpAny_newObj_type ?_ (by size_fits)))))))
  exact k4 g hn hsb
section
variable {X : Cx} {pins : List (Addr × Obj)} {σ : L2.St} {H : Hp} {s : Shared}
/-- what stands when a generator expression of two clauses has been made -/
structure Made2 (X : Cx) (pins : List (Addr × Obj)) (σ : L2.St) (tg iter tg1 iter1 elt : Expr) (scope : Scope) (gpos : Pos) (J : It) (H2 : Hp) (it : Addr) (fp : List Addr) (tn : Nat → Heap → Prop) (code : Value) (a : Addr) (go : Obj) (g : Nat) (s4 s5 : Shared) : Prop where
  inv : Inv X pins σ H2 s4
  turn : Turn X.prog X.w X.K tg J fp it tn
  tn0 : tn 0 s5.heap
  fps : ∀ b ∈ fp, FpOk X pins H2 b ∧ b < s4.heap.objs.size
  ns : ∃ m, s5.heap.Ns s4.heap.objs.size m
  keep : ∀ b o, s4.heap.get? b = some o → s5.heap.get? b = some o
  os : s5.os = s4.os
  bare : AllBare s5.gens
  lt : s4.heap.objs.size < a
  ltS : a < s5.heap.objs.size
  ga : s5.heap.get? a = some go
  isG : ∀ h : Heap, h.get? a = some go → h.IsGen a g
  cellG : ∀ v, go.data ≠ .cell v
  gens : s5.gens[g]? = some (.fresh (.compStart (.GeneratorExp elt [⟨tg, iter, [], 0⟩, ⟨tg1, iter1, [], 0⟩] scope gpos) 0 (.ref it) .none (gEnv X scope s4.heap.objs.size code)))

theorem gen_make2 {T : List (Addr × Str)} {c P : Addr} {own : List (Str × Nat)} {tg iter tg1 iter1 elt : Expr} {scope : Scope} {gpos : Pos} {wi : TI} {R : It → Hp → Prop} {Q' : Value → Shared → Prop}
    (I : Inv X pins σ H s) (hi : PI X tg iter wi) (ok : GSc X.N X.env.scope scope own) (TB : TabB X.base X.mg c P) (hcode : X.env.code = .ref c) (hmT : (P, X.env.qual ++ "<genexpr>") ∈ T) (hu : ∀ p ∈ T, p.1 = P → p.2 = X.env.qual ++ "<genexpr>")
    (hroom : X.A.depth < recursionLimit) (hs : ∀ v, genFold iter X.env v = pure v) (h : wi σ H fun J H1 => Tabs T H1 ∧ R J H1)
    (hQ : ∀ J H1 H2 it fp tn code a go g s4 s5, R J H1 → ExtN H1 H2 → Tabs T H2 → (∀ b, H2 b = none → H1 b = none) → Made2 X pins σ tg iter tg1 iter1 elt scope gpos J H2 it fp tn code a go g s4 s5 → Q' (.ref a) s5) :
    wpAny (model X.prog X.w) X.A (eval (.GeneratorExp elt [⟨tg, iter, [], 0⟩, ⟨tg1, iter1, [], 0⟩] scope gpos) X.env) Q' X.xe s := by
  have hfree : ∀ y ∈ scope.names, y.2 = .free → ∃ c, X.env.cells.lookup y.1 = some c := fun y hy e => by
    rcases ok.blk.free y hy e with k | k
    · exact I.ok.has _ (.inl k)
    · exact I.ok.has _ (.inr k)
  refine make2_eval ok.co (closure_ok hfree) ok.cell ok.dot ok.blk.kind hroom ?_ hs
  refine thn (hi.run pins s σ H _ I h) fun xv s1 hx => thn hx fun itv s2 h2 => ?_
  obtain ⟨it, fp, tn, J, H1, e, I2, Tn, st2, f2, hT, hR⟩ := h2
  subst e
  refine ⟨I2.nolimit, ?_⟩
  obtain ⟨ps, hP, ht, hall⟩ := hT _ hmT
  have hPs : s2.heap.get? P = some { cls := .none, data := .fields ps } := I2.hok P _ hP
  have hPlt : P < s2.heap.objs.size := Heap.lt_size hPs
  have cd : PySem.W.CodeHd s2.heap c P := TB.code.keeps I2.bk
  have hbm : s2.heap.BuiltinsAt X.mg P := TB.bm.keeps I2.bk
  -- what follows from the new code object on
  have cont : ∀ (code : Value) (H2 : Hp) (s3 : Shared), Inv X pins σ H2 s3 → ExtN H1 H2 → Tabs T H2 → (∀ b, H2 b = none → H1 b = none) → (∀ b o, b ≠ P → s2.heap.get? b = some o → s3.heap.get? b = some o) → (∀ b ∈ fp, H2 b = none) →
      wpAny (model X.prog X.w) X.A (builtinsFor X.env.globals X.env.builtins) (fun bi s₄ =>
        ∀ h', h'.Ns s₄.heap.objs.size (fun y => if y = ".0" then some (.ref it) else none) → Heap.SameBut s₄.heap.objs.size (s₄.heap.push { cls := .type "frame", data := .dict #[] }) h' →
          Q' (.ref h'.objs.size) { s₄ with
            gens := s₄.gens.push (.fresh (.compStart (.GeneratorExp elt [⟨tg, iter, [], 0⟩, ⟨tg1, iter1, [], 0⟩] scope gpos) 0 (.ref it) .none (genEnv scope (cloFrom X.env.cells scope.names []) s₄.heap.objs.size code bi X.env))),
            toks := s₄.toks + 1 + 1 + 1,
            heap := h'.push { cls := .type "generator", data := .fields #[.int s₄.gens.size 0, .str "<genexpr>" (s₄.toks + 1), .str (X.env.qual ++ "<genexpr>") (s₄.toks + 1 + 1)] } }) X.xe s3 := by
    intro code H2 s3 I3 hE hT3 hno kp3 nfp
    obtain ⟨bm, ob, e1, e2, e3, e4, e5, e6, e7, e8⟩ := TB.bm
    refine wpAny_builtinsFor (m := X.mg) (by rw [I3.ok.glob]; exact I3.mod.glob.keeps I3.bk) e1 e2 (I3.bk _ _ e5) e6 e7 e8 ?_
    intro h' hns hsb
    have sz' : h'.objs.size = s3.heap.objs.size + 1 := by rw [hsb.1, Heap.size_push]
    have kp4 : ∀ b o, s3.heap.get? b = some o → h'.get? b = some o := fun b o e => hsb.extBut b o (Nat.ne_of_lt (Heap.lt_size e)) (Heap.get?_push_of_some _ e)
    have kp5 : ∀ (go : Obj) b o, s3.heap.get? b = some o → (h'.push go).get? b = some o := fun go b o e => Heap.get?_push_of_some _ (kp4 b o e)
    have nP : ∀ b ∈ fp, b ≠ P := fun b hb z => by
      have := (f2 b hb).1
      rw [z, hP] at this
      cases this
    have fpL : ∀ b ∈ fp, b < s2.heap.objs.size := fun b hb => by
      obtain ⟨o, e, _⟩ := Tn.obj _ _ st2 b hb
      exact Heap.lt_size e
    have fpG : ∀ b ∈ fp, ∀ o, s2.heap.get? b = some o → s3.heap.get? b = some o := fun b hb o e => kp3 b o (nP b hb) e
    refine hQ J H1 H2 it fp tn code h'.objs.size _ s3.gens.size s3 _ hR hE hT3 hno
      ⟨I3, Tn, Tn.keep _ _ _ st2 fun b hb o e => kp5 _ b o (fpG b hb o e), fun b hb => ⟨⟨nfp b hb, (f2 b hb).2⟩, ?_⟩, ⟨_, hns.push _⟩, fun b o e => kp5 _ b o e, rfl, I3.bare.push rfl, ?_, ?_, Heap.get?_push_size _ rfl, fun h e => ⟨_, _, _, e, rfl, rfl, rfl⟩, ?_, Array.getElem?_push_size ..⟩
    · obtain ⟨o, e, _⟩ := Tn.obj _ _ st2 b hb
      exact Heap.lt_size (fpG b hb o e)
    · rw [sz']; exact Nat.lt_succ_self _
    · show h'.objs.size < (h'.push _).objs.size
      rw [Heap.size_push]; exact Nat.lt_succ_self _
    · intro v z
      cases z
  cases hf : codeAmong gpos ps.toList with
  | some cv =>
    refine wpAny_genexprCode_hit hcode (cd.code hPs ht) hf ?_
    exact cont cv H1 s2 I2 (ExtN.refl H1) hT (fun _ z => z) (fun _ _ _ e => e) fun b hb => (f2 b hb).1
  | none =>
    refine wpAny_genexprCodeX hcode (cd.code hPs ht) (cd.tab hPs) hf fun c' h' tk hx hge hlt hco' hrec htab' _ => ?_
    obtain ⟨c2, oc, vs, t, e2, hoc, hd, hv⟩ := hrec
    cases e2
    have nC : H1 c' = none := I2.hok.fresh hge
    have I3 := inv_table (t' := tk) (more := #[rawInt gpos.line, rawInt gpos.col, .ref c']) (h' := h') (q := X.env.qual ++ "<genexpr>") I2 hP (fun b o hb e => hx b o hb e) htab'.2 hge ⟨oc, vs, t, hoc, hd, hv⟩
    have hE : ExtN H1 (upd (upd H1 P (.tbl (ps ++ #[rawInt gpos.line, rawInt gpos.col, .ref c']))) c' (CodeO c' (X.env.qual ++ "<genexpr>"))) := fun b o e n => by
      rw [upd_ne (ne_of_none e nC), upd_ne (fun z => n ps (Option.some.inj (e.symm.trans (by rw [z]; exact hP))))]
      exact e
    have eL : (ps ++ #[rawInt gpos.line, rawInt gpos.col, .ref c']).toList = ps.toList ++ [rawInt gpos.line, rawInt gpos.col, .ref c'] := by simp
    refine cont (.ref c') _ _ I3 hE (fun p hp => ?_) (fun b e => upd_none2 (upd_none2 e)) (fun b o hb e => hx b o hb e) fun b hb => ?_
    · by_cases hb : p.1 = P
      · rw [hu p hp hb, hb]
        refine ⟨_, by rw [upd_ne (ne_of_none hP nC), upd_same], by rw [eL]; exact PySem.TriplesOk_snoc _ _ _ _ ht, fun p' cv hcv => ?_⟩
        rw [eL] at hcv
        rcases among_app _ ht hcv with z | z
        · obtain ⟨c0, q1, q2⟩ := hall p' cv z
          exact ⟨c0, q1, hE _ _ q2 codeO_ne⟩
        · exact ⟨c', z, upd_same⟩
      · obtain ⟨ps', a1, a2, a3⟩ := hT p hp
        refine ⟨ps', by rw [upd_ne (ne_of_none a1 nC), upd_ne hb]; exact a1, a2, fun p' cv hcv => ?_⟩
        obtain ⟨c0, q1, q2⟩ := a3 p' cv hcv
        exact ⟨c0, q1, hE _ _ q2 codeO_ne⟩
    · have hl : b < s2.heap.objs.size := by
        obtain ⟨o, e, _⟩ := Tn.obj _ _ st2 b hb
        exact Heap.lt_size e
      have n1 : b ≠ c' := Nat.ne_of_lt (Nat.lt_of_lt_of_le hl hge)
      have n2 : b ≠ P := fun z => by
        have := (f2 b hb).1
        rw [z, hP] at this
        cases this
      rw [upd_ne n1, upd_ne n2]
      exact (f2 b hb).1
end
section
variable {G : GD} {elt tg iter tg1 iter1 : Expr} {pos : Pos} {vs vs1 : List Nat} {J : It} {g g1 : TG} {wi1 : TI} {te : TE} {it : Addr} {tn : Nat → Heap → Prop} {no N : Nat} {Gh : Nat → Shared → List V → Prop} {W : Nat → List V → Hp → Prop} {Wf : List V → Hp → Prop} {Yd : V → Prop}
theorem seg_first2 (T : Turn G.X.prog G.X.w G.X.K tg J G.fp it tn) (hg : PG G.cx tg g) (hi1 : PI G.cx tg1 iter1 wi1) (hg1 : PG G.cx tg1 g1) (he : PE G.cx elt te) (hco : G.scope.isCoroutine = false) (hS : G.s.heap.objs.size ≤ G.S)
    (haS : ∀ b ∈ G.fp, b ≠ G.a ∧ b ≠ G.S) (hsf : ∀ x, foldedSetIterable iter1 G.cx.env x = pure x) (hv : ∀ σ : L2.St, wipe (wipe σ vs1) vs = wipe σ vs) (P : Turns2 G J g wi1 g1 te vs vs1 no N W Wf Yd) {s : Shared} {H : Hp} (hgh : Gh 0 s []) (hat : G.at H s) (ht : tn 0 s.heap) (hn : ∀ b ∈ G.fp, H b = none) (hw : W 0 [] H) :
      Seg (model G.X.prog G.X.w) G.A (fun n s₀ r s₁ => r = .ok .next ∧ G.E N Gh (we2 Wf) n s₀ s₁) (G.Y tn N Gh (yd2 Yd) yesCt) (N + 1) s
        (.compStart (gen2 elt tg iter tg1 iter1 G.scope pos) 0 (.ref it) .none G.cx.env) ((model G.X.prog G.X.w).den (.compStart (gen2 elt tg iter tg1 iter1 G.scope pos) 0 (.ref it) .none G.cx.env)) [] s := by
  have loop := seg_outer (iter := iter) (pos := pos) T hg hi1 hg1 he hco hS haS hsf hv P no 0 (N + 1) s s [] H (Nat.zero_add _) (by simp) hgh hat ht hn (fun _ z => z) hw
  show Seg _ G.A _ _ _ s _ ((compStart (gen2 elt tg iter tg1 iter1 G.scope pos) 0 (.ref it) .none G.cx.env).onRaise (leaving G.cx.env)) [] s
  unfold compStart
  rw [Sem.onRaise_eq_wrap]
  show Seg _ G.A _ _ _ s _ ((ask >>= _).wrap _ _ _ _) [] s
  refine seg_bind_wrap (wpAny_askSetting ?_)
  split
  · exact seg_again rfl loop
  · refine seg_bind_wrap (wpAny_rule ?_)
    show Seg _ G.A _ _ _ s _ ((standAt iter.pos >>= _).wrap _ _ _ _) [] s
    exact seg_bind_wrap (wpAny_standAt (seg_bind_wrap (T.self _ 0 s _ _ ht (seg_again rfl loop))))
end
section
variable {X : Cx}
/-- a made generator of two clauses, asleep ahead of its first turn; S: the consumer's own object -/
theorem made_wait2 {pins : List (Addr × Obj)} {σ : L2.St} {tg iter tg1 iter1 elt : Expr} {scope : Scope} {gpos : Pos} {J : It} {H2 : Hp} {it : Addr} {fp : List Addr} {tn : Nat → Heap → Prop} {code : Value} {a S : Addr} {go oS : Obj} {gi : Nat} {s4 s5 s6 : Shared} {A : Around} {own : List (Str × Nat)} {g g1 : TG} {wi1 : TI} {te : TE} {vs1 : List Nat} {no N : Nat}
    {Gh : Nat → Shared → List V → Prop} {W : Nat → List V → Hp → Prop} {Wf : List V → Hp → Prop} {Yd : V → Prop}
    (M : Made2 X pins σ tg iter tg1 iter1 elt scope gpos J H2 it fp tn code a go gi s4 s5) (ok : GSc X.N X.env.scope scope own) (hN : X.N.Nodup) (hd : A.handled = none) (hfr : A.frames = some X.stack)
    (hg : PG (gcx X A s4 H2 scope code fp) tg g) (he : PE (gcx X A s4 H2 scope code fp) elt te) (hi1 : PI (gcx X A s4 H2 scope code fp) tg1 iter1 wi1) (hg1 : PG (gcx X A s4 H2 scope code fp) tg1 g1)
    (hsf : ∀ x, foldedSetIterable iter1 (gcx X A s4 H2 scope code fp).env x = pure x) (hv : ∀ σ : L2.St, wipe (wipe σ vs1) (own.map (·.2)) = wipe σ (own.map (·.2)))
    (P : Turns2 ⟨X, A, s4, H2, scope, code, fp, a, go, gi, S, wipe σ (own.map (·.2))⟩ J g wi1 g1 te (own.map (·.2)) vs1 no N W Wf Yd)
    (ho : s6.os = s5.os) (hgen : s6.gens = s5.gens) (hk : ∀ b o, s5.heap.get? b = some o → s6.heap.get? b = some o) (hS : s6.heap.get? S = some oS) (hSc : ∀ v, oS.data ≠ .cell v) (hSl : s4.heap.objs.size < S)
    (hgh : Gh 0 (s6.setGen gi .running) []) (w0 : W 0 [] H2) :
    GD.Wait ⟨X, A, s4, H2, scope, code, fp, a, go, gi, S, wipe σ (own.map (·.2))⟩ tn N Gh (we2 Wf) (yd2 Yd) yesCt (N + 1) s6 := by
  have I5 : Inv (gcx X A s4 H2 scope code fp) [] (wipe σ (own.map (·.2))) H2 s6 := by
    obtain ⟨m, hns⟩ := M.ns
    exact gen_start (A := A) M.inv ok hN hd hfr M.fps (hns.keeps hk) (fun b o e => hk _ _ (M.keep b o e)) (ho.trans M.os) (by rw [hgen]; exact M.bare)
  have young : ∀ b, s4.heap.objs.size < b → H2 b = none ∧ b ≠ s4.heap.objs.size ∧ b ∉ frs X.stack := fun b hb => by
    refine ⟨M.inv.hok.fresh (Nat.le_of_lt hb), Nat.ne_of_gt hb, fun z => ?_⟩
    rcases List.mem_cons.mp (M.inv.stkSub b z) with z | z
    · have := M.inv.lt
      rw [← z] at this
      exact absurd (Nat.lt_trans hb this) (Nat.lt_irrefl _)
    · exact M.inv.nofs (Nat.le_of_lt hb) z
  let G : GD := ⟨X, A, s4, H2, scope, code, fp, a, go, gi, S, wipe σ (own.map (·.2))⟩
  have at5 : G.at H2 s6 := by
    refine ⟨oS, hSc, I5.pins_of fun p hp => ?_⟩
    rcases List.mem_cons.mp hp with z | z
    · rw [z]
      obtain ⟨y1, y2, y3⟩ := young a M.lt
      exact ⟨hk _ _ M.ga, y1, y2, y3, M.cellG⟩
    · rw [List.mem_singleton.mp z]
      obtain ⟨y1, y2, y3⟩ := young S hSl
      exact ⟨hS, y1, y2, y3, hSc⟩
  have g6 : s6.gens[gi]? = some (.fresh (.compStart (.GeneratorExp elt [⟨tg, iter, [], 0⟩, ⟨tg1, iter1, [], 0⟩] scope gpos) 0 (.ref it) .none (gEnv X scope s4.heap.objs.size code))) := by
    rw [hgen]
    exact M.gens
  refine ⟨hk _ _ M.ga, M.inv.nolimit.keeps fun b o e => hk _ _ (M.keep b o e), _, g6, rfl, ?_⟩
  exact seg_first2 (G := G) M.turn hg hi1 hg1 he ok.co (Nat.le_of_lt hSl) (fun b hb => ⟨Nat.ne_of_lt (Nat.lt_trans (M.fps b hb).2 M.lt), Nat.ne_of_lt (Nat.lt_trans (M.fps b hb).2 hSl)⟩) hsf hv P hgh
      (at5.woken (Nat.le_of_lt hSl) ⟨rfl, bare_set (by rw [hgen]; exact M.bare) rfl, fun b o _ e => e, hk _ _ M.ga, ⟨oS, hS, hSc⟩⟩) (M.turn.keep _ _ _ M.tn0 fun b _ o e => hk b o e) (fun b hb => (M.fps b hb).1.1) w0
end
end GX

-- text GenM
set_option maxRecDepth 100000
set_option maxHeartbeats 4000000
/-! GenM: min over a generator expression of two clauses. -/
namespace GX
open PySem PySem.Spec PyProof.Rows L2 LamX GenW
abbrev isInt (y : V) : Prop := ∃ n, y = .int n
section
variable {G : GD} {tn : Nat → Heap → Prop} {N : Nat} {Wf : List V → Hp → Prop} {A : Around} {R : Result → Shared → Prop}
/-- what the consumer's own list holds: nothing yet, or the least so far -/
def minGh (S : Addr) : Nat → Shared → List V → Prop := fun i s ys => ys.length = i ∧ ((ys = [] ∧ ∃ c, s.heap.get? S = some (lstObj #[] c)) ∨ ∃ (ns : List Int) (m : Int) (t : Tok) (c : Nat), ys = ns.map V.int ∧ m ∈ ns ∧ (∀ x ∈ ns, m ≤ x) ∧ s.heap.get? S = some (lstObj #[.int m t, .int m t] c))
theorem lst_one {a b : Array Value} {c d : Nat} (h : lstObj a c = lstObj b d) : a = b := by
  injection h with _ _ e _
  injection e
theorem min_loop (hA : G.A = A.in1.in1) (hh : A.handled = none) (hr : A.depth < recursionLimit) (hS : G.s.heap.objs.size ≤ G.S) (haS : G.S ≠ G.a) (hN : 0 < N) (hiG : ∀ h : Heap, h.get? G.a = some G.go → h.IsGen G.a G.g) (hgc : ∀ v, G.go.data ≠ .cell v)
    (hF : ∀ (ns : List Int) (m : Int) (t : Tok) H s3, m ∈ ns → (∀ x ∈ ns, m ≤ x) → ns.length = N → G.at H s3 → Wf (ns.map V.int) H → AllBare s3.gens → R (.ok (.ret (.int m t))) s3) :
    ∀ (n : Nat) (s : Shared) (acc : Array Value) (c0 : Nat), n ≠ 0 → s.heap.get? G.S = some (lstObj acc c0) → G.Wait tn N (minGh G.S) (we2 Wf) (yd2 isInt) yesCt n s → codeAny (model G.X.prog G.X.w) A (.builtin "min.loop" ⟨[.ref G.a, .none, .ref G.S], []⟩) R s := by
  have hname : (toString "min" ++ toString ".loop" : String) = "min.loop" := by decide
  have oth : ∀ (f : Obj → Obj) (h : Heap) b o, b ≠ G.S → h.get? b = some o → (h.update G.S f).get? b = some o := fun f h b o hb e => (Heap.get?_update_other _ _ (fun z => hb z.symm)).trans e
  intro n
  induction n with
  | zero => exact fun _ _ _ h => absurd rfl h
  | succ n ih =>
    intro s acc c0 _ hS0 hw
    refine (codeAny_builtin F.entry_min_loop ?_)
    rw [Around.under_plainId F.plain_min_loop _]
    show wpAny _ A.in1 (seqItems? (.ref G.S) >>= _) _ _ s
    refine wpAny_bind (wpAny_seqItems hS0 rfl ?_)
    show wpAny _ A.in1 (tryCatch (pyNext (.ref G.a)) _ >>= _) _ _ s
    refine wpAny_bind (wpAny_tryCatch (next_gen (A := A.in1) (Nat.succ_ne_zero n) hS hA hh hr hiG hw (fun i ys y v H s1 gs' hi hlt hgh rv hat hb hk hyd hk2 => ?_) (fun ys H s1 s2 hn1 hgh hat hk hw2 ho hb hkp => ?_)))
    · obtain ⟨hyl, hgh⟩ := hgh
      obtain ⟨m1, rfl⟩ := hyd
      obtain ⟨t1, rfl⟩ := rv
      have hn : n ≠ 0 := by omega
      have hS1 := hk _ hS0
      obtain ⟨_, _, _, _, ga1, _⟩ := hat.facts
      have next : ∀ (s' : Shared) (acc' : Array Value) (c' : Nat) (ns : List Int) (m : Int) (t' : Tok), acc' = #[.int m t', .int m t'] → s'.os = s1.os → s'.gens = (s1.setGen G.g gs').gens → (∀ b o, b ≠ G.S → s1.heap.get? b = some o → s'.heap.get? b = some o) →
          s'.heap.get? G.S = some (lstObj acc' c') → ys ++ [V.int m1] = ns.map V.int → m ∈ ns → (∀ x ∈ ns, m ≤ x) → codeAny (model G.X.prog G.X.w) A (.builtin "min.loop" ⟨[.ref G.a, .none, .ref G.S], []⟩) R s' := fun s' acc' c' ns m t' ea ho hg hkk hS' e1 e2 e3 => by
        refine ih s' acc' c' hn hS' (hk2 _ ⟨ho, by rw [hg]; exact hb, hkk, hkk _ _ (Ne.symm haS) ga1, ⟨_, hS', lst_cell⟩⟩ hg trivial ⟨by rw [List.length_append, hyl]; rfl, .inr ⟨ns, m, t', c', e1, e2, e3, ?_⟩⟩)
        rw [← ea]
        exact hS'
      rcases hgh with ⟨rfl, c, hSg⟩ | ⟨ns, m, t, c, rfl, h1, h2, hSg⟩
      · have e0 : acc = #[] := (lst_one (Option.some.inj (hSg.symm.trans hS0))).symm
        subst e0
        show wpAny _ A.in1 (updateSeq G.S (fun _ => #[.int m1 t1, .int m1 t1]) >>= _) _ _ _
        refine wpAny_bind ?_
        refine wpAny_updateSeq hS1 rfl ?_
        rw [hname]
        refine wpAny_pure ⟨plainId_quiet F.plain_min_loop _, ?_⟩
        exact next _ _ _ [m1] m1 t1 rfl rfl rfl (fun b o hb e => oth _ _ b o hb e) (Heap.get?_update_self _ hS1 rfl) rfl (List.mem_singleton.mpr rfl) (fun x hx => by rw [List.mem_singleton.mp hx]; exact Int.le_refl _)
      · have e0 : acc = #[.int m t, .int m t] := (lst_one (Option.some.inj (hSg.symm.trans hS0))).symm
        subst e0
        show wpAny _ A.in1 (tryCatch (holding [Value.int m1 t1, Value.int m1 t1] (richCompare .Lt (.int m1 t1) (.int m t) >>= _)) _ >>= _) _ _ _
        refine wpAny_bind (wpAny_tryCatch (wpAny_holding (wpAny_bind (richCompare_gives (op := .Lt) (typeIs_int _ _ t1) (typeIs_int _ _ t) F.slot_int_lt F.entry_int_lt (F.args_int_lt_2 _ _) (gives_int_lt _ _ t1 t) (fun x => nomatch x) ?_))))
        refine wpAny_bind (wpAny_holding (wpAny_truthy_bool ?_))
        refine wpAny_bind (wpAny_letGo (wpAny_pure ?_))
        cases hlt2 : decide (m1 < m) with
        | true =>
          have hlt3 : m1 < m := of_decide_eq_true hlt2
          simp only [if_true]
          refine wpAny_bind ?_
          refine wpAny_updateSeq hS1 rfl (wpAny_bind (wpAny_letGo ?_))
          rw [hname]
          refine wpAny_pure ⟨plainId_quiet F.plain_min_loop _, ?_⟩
          refine next _ _ _ (ns ++ [m1]) m1 t1 rfl rfl rfl (fun b o hb e => oth _ _ b o hb e) (Heap.get?_update_self _ hS1 rfl) (by rw [List.map_append]; rfl) (List.mem_append_right _ (List.mem_singleton.mpr rfl)) (fun x hx => ?_)
          rcases List.mem_append.mp hx with hx | hx
          · exact Int.le_of_lt (Int.lt_of_lt_of_le hlt3 (h2 x hx))
          · rw [List.mem_singleton.mp hx]; exact Int.le_refl _
        | false =>
          have hlt3 : ¬ m1 < m := of_decide_eq_false hlt2
          simp only [Bool.false_eq_true, if_false]
          refine wpAny_bind (wpAny_letGo ?_)
          rw [hname]
          refine wpAny_pure ⟨plainId_quiet F.plain_min_loop _, ?_⟩
          refine next _ _ _ (ns ++ [m1]) m t rfl rfl rfl (fun b o _ e => e) hS1 (by rw [List.map_append]; rfl) (List.mem_append_left _ h1) (fun x hx => ?_)
          rcases List.mem_append.mp hx with hx | hx
          · exact h2 x hx
          · rw [List.mem_singleton.mp hx]; omega
    · obtain ⟨hyl, hgh⟩ := hgh
      rcases hgh with ⟨rfl, c, hSg⟩ | ⟨ns, m, t, c, rfl, h1, h2, hSg⟩
      · have : (0 : Nat) = N := hyl
        omega
      · have e0 : acc = #[.int m t, .int m t] := (lst_one (Option.some.inj (hSg.symm.trans hS0))).symm
        subst e0
        have hS2 := hkp _ _ (hk _ hS0)
        obtain ⟨_, _, _, _, ga1, _⟩ := hat.facts
        show wpAny _ A.in1 (updateSeq G.S (fun _ => #[]) >>= _) _ _ _
        refine wpAny_bind ?_
        refine wpAny_updateSeq hS2 rfl (wpAny_bind (wpAny_letGo (wpAny_pure ?_)))
        refine hF ns m t H _ h1 h2 (by rw [List.length_map] at hyl; exact hyl) (hat.woken hS ⟨ho, hb, fun b o hb2 e => oth _ _ b o hb2 (hkp b o e), oth _ _ _ _ (Ne.symm haS) (hkp _ _ ga1), ⟨_, Heap.get?_update_self _ hS2 rfl, lst_cell⟩⟩) hw2 hb
end
/-- the reading of min(elt for tg in iter for tg1 in iter1) -/
def tGenMin2 (T : List (Addr × Str)) (wi : TI) (g : TG) (wi1 : TI) (g1 : TG) (te : TE) (vs vs1 : List Nat) : TE := fun σ H Q => wi σ H fun J H1 => Tabs T H1 ∧ ∀ H2, ExtN H1 H2 → Tabs T H2 → (∀ b, H2 b = none → H1 b = none) →
  ∃ (no N : Nat) (W : Nat → List V → Hp → Prop), 0 < N ∧ W 0 [] H2 ∧
    (∀ i ys H, i < no → W i ys H → J.go i H ∧ ∀ x H', J.yld i H x H' → g x (wipe σ vs) H' fun σ2 H2 => wipe σ2 vs = wipe σ vs ∧ wi1 σ2 H2 fun J1 H4 => ∃ (m : Nat) (U : Nat → List V → Hp → Prop), U 0 ys H4 ∧
      (∀ j ys H, j < m → U j ys H → ys.length < N ∧ J1.go j H ∧ ∀ x H', J1.yld j H x H' → g1 x (wipe σ2 vs1) H' fun σ3 H5 => wipe σ3 vs1 = wipe σ2 vs1 ∧ te σ3 H5 fun y H6 => isInt y ∧ U (j + 1) (ys ++ [y]) H6) ∧
      (∀ ys H, U m ys H → J1.stop m H ∧ W (i + 1) ys H)) ∧
    (∀ ys H, W no ys H → J.stop no H ∧ ys.length = N ∧ ∀ (ns : List Int) (m : Int), ys = ns.map V.int → m ∈ ns → (∀ x ∈ ns, m ≤ x) → Q (.int m) H)
section
variable {X : Cx}
theorem boot_min2 : bootBuiltins "min" = some (.builtin "min") := by decide +kernel
theorem pe_genMin2 {T : List (Addr × Str)} {c P : Addr} {own : List (Str × Nat)} {vs1 : List Nat} {tg iter tg1 iter1 elt : Expr} {scope : Scope} {gpos p pos : Pos} {wi wi1 : TI} {g g1 : TG} {te : TE} {k : Nat}
    (hr : Room (k + 1) X.A) (hgl : Gl X "min") (hm : X.mg "min" = none) (hN : X.N.Nodup) (TB : TabB X.base X.mg c P) (hcode : X.env.code = .ref c) (hmT : (P, X.env.qual ++ "<genexpr>") ∈ T) (hu : ∀ p ∈ T, p.1 = P → p.2 = X.env.qual ++ "<genexpr>")
    (hi : PI X tg iter wi) (ok : GSc X.N X.env.scope scope own) (hv : ∀ σ : L2.St, wipe (wipe σ vs1) (own.map (·.2)) = wipe σ (own.map (·.2)))
    (hg : ∀ (A : Around) (s : Shared) (H : Hp) (code : Value) (ex : List Addr), PG (gcx X A s H scope code ex) tg g) (hi1 : ∀ (A : Around) (s : Shared) (H : Hp) (code : Value) (ex : List Addr), PI (gcx X A s H scope code ex) tg1 iter1 wi1)
    (hg1 : ∀ (A : Around) (s : Shared) (H : Hp) (code : Value) (ex : List Addr), PG (gcx X A s H scope code ex) tg1 g1) (he : ∀ (A : Around) (s : Shared) (H : Hp) (code : Value) (ex : List Addr), Room k (gcx X A s H scope code ex).A → PE (gcx X A s H scope code ex) elt te)
    (hs : ∀ v, genFold iter X.env v = pure v := by intro _; rfl) (hsf : ∀ env x, foldedSetIterable iter1 env x = pure x := by intro _ _; rfl)
    (hst : starEach [gen2 elt tg iter tg1 iter1 scope gpos] X.env = (false, eval (gen2 elt tg iter tg1 iter1 scope gpos) X.env) :: starEach [] X.env := by rfl) :
    PE X (.Call (.Name "min" p) [gen2 elt tg iter tg1 iter1 scope gpos] [] pos) (tGenMin2 T wi g wi1 g1 te (own.map (·.2)) vs1) := by
  have hname : (toString "min" ++ toString ".loop" : String) = "min.loop" := by decide
  refine ⟨fun pins s σ H Q I h => ?_⟩
  refine wpAny_Call_Name_kw (ld_blt I hgl hm boot_min2 ?_)
  refine PyProof.Rows.callWith_builtin1 ?_ hst (by rfl)
  rw [hst]
  show wpAny _ _ (spliced ((false, eval (gen2 elt tg iter tg1 iter1 scope gpos) X.env) :: backTo pos (starEach [] X.env))) _ _ s
  refine Calls.spliced_cons (gen_make2 I hi ok TB hcode hmT hu hr.depth hs h fun J H1 H2 it fp tn code a go gi s4 s5 hR hE hT hno M => ?_)
  refine Calls.spliced_nil ?_
  obtain ⟨no, N, W, hNp, w0, step, stop⟩ := hR H2 hE hT hno
  let G : GD := ⟨X, X.A.in1.in1, s4, H2, scope, code, fp, a, go, gi, s5.heap.objs.size, wipe σ (own.map (·.2))⟩
  have P0 : Turns2 G J g wi1 g1 te (own.map (·.2)) vs1 no N W (fun ys H => ∀ (ns : List Int) (m : Int), ys = ns.map V.int → m ∈ ns → (∀ x ∈ ns, m ≤ x) → Q (.int m) H) isInt := ⟨step, stop⟩
  refine call_function_tree F.kind_min F.plain_min F.entry_min (F.args_min1 _) ?_
  show wpAny _ X.A.in1 (Builtin.Builtins.bindParams "min" ["key", "default"] 0 ⟨[], []⟩ >>= _) _ _ _
  refine wpAny_bind (wpAny_of_eq (show Builtin.Builtins.bindParams "min" ["key", "default"] 0 ⟨[], []⟩ = pure [none, none] from rfl) ?_)
  refine wpAny_bind (wpAny_pure ?_)
  refine wpAny_bind (wpAny_pyIter_gen (M.isG _ M.ga) ?_)
  refine wpAny_bind (wpAny_newObj_type ?_)
  rw [hname]
  refine wpAny_pure ⟨plainId_quiet F.plain_min_loop _, min_loop (G := G) (A := X.A) (tn := tn) (N := N) (Wf := fun ys H => ∀ (ns : List Int) (m : Int), ys = ns.map V.int → m ∈ ns → (∀ x ∈ ns, m ≤ x) → Q (.int m) H) rfl hr.hd hr.depth (Nat.le_of_lt (Nat.lt_trans M.lt M.ltS)) (Nat.ne_of_gt M.ltS) hNp M.isG M.cellG
    (fun ns m t H' s3 h1 h2 hl hat hw hb => ?_) (N + 1) _ #[] 0 (Nat.succ_ne_zero _) (Heap.get?_push_size _ rfl) ?_⟩
  · obtain ⟨oS, hc, J'⟩ := hat
    exact ⟨.int m, H', gen_back M.inv J' (fun b hb => (M.fps b hb).1) rfl (fun _ _ e => e) hb, ⟨t, rfl⟩, hw ns m rfl h1 h2⟩
  · exact made_wait2 M ok hN hr.hd M.inv.ok.frames (hg _ _ _ _ _) (he _ _ _ _ _ (room_gen2 hr _)) (hi1 _ _ _ _ _) (hg1 _ _ _ _ _) (hsf _) hv P0 rfl rfl (fun b o e => Heap.get?_push_of_some _ e) (Heap.get?_push_size _ rfl) lst_cell (Nat.lt_trans M.lt M.ltS)
      ⟨rfl, .inl ⟨rfl, 0, Heap.get?_push_size _ rfl⟩⟩ w0
end
end GX

-- text MinT
set_option maxRecDepth 100000
set_option maxHeartbeats 4000000
/-! MinT: min of a list of pairs of whole numbers; list(d.values()). -/
namespace GX
open PySem PySem.Spec PyProof.Rows L2 LamX GenW
theorem vals_ref_eq : ∀ {as : List Addr} {us : List Value}, Vals (as.map V.ref) us → us = as.map Value.ref
  | [], _, .nil => rfl
  | a :: r, _, .cons h t => by
    rw [vals_ref_eq t, show _ = Value.ref a from h]
    rfl
abbrev Pr := Addr × Int × Int
section
variable {P : Program} {w : World} {A : Around} {R : Result → Shared → Prop} {s0 : Shared} {it l S : Addr} {xs : List Pr}
theorem lex_le {a b c d : Int} : (HT.lexLt [a, b] [c, d] = true → a ≤ c) ∧ (HT.lexLt [a, b] [c, d] = false → c ≤ a) := by
  rw [HT.lexLt_cons]
  by_cases h : a = c
  · exact ⟨fun _ => by omega, fun _ => by omega⟩
  · rw [if_neg h]
    exact ⟨fun z => by have := of_decide_eq_true z; omega, fun z => by have := of_decide_eq_false z; omega⟩
/-- the loop behind the first item: m is the least so far -/
theorem minT_loop (hh : A.handled = none) (hu : A.in1.units < cLine) (hSi : S ≠ it) (hil : l ≠ it) (hSl : l ≠ S) (hl0 : s0.heap.IsList l (xs.map fun x => Value.ref x.1).toArray)
    (hx0 : ∀ x ∈ xs, x.1 ≠ it ∧ x.1 ≠ S ∧ ∃ items : Array Value, IsTup s0.heap x.1 items ∧ IntsAre items.toList [x.2.1, x.2.2])
    (hF : ∀ (m : Pr) (h' : Heap) (tk : Nat), m ∈ xs → (∀ y ∈ xs, m.2.1 ≤ y.2.1) → (∀ b o, b ≠ it → b ≠ S → s0.heap.get? b = some o → h'.get? b = some o) → R (.ok (.ret (.ref m.1))) { s0 with heap := h', toks := tk }) :
    ∀ (k i : Nat) (h : Heap) (tk c : Nat) (m : Pr), i + k = xs.length → m ∈ xs → (∀ y ∈ xs.take i, m.2.1 ≤ y.2.1) → h.IsListIter it l i → (∀ b o, b ≠ it → b ≠ S → s0.heap.get? b = some o → h.get? b = some o) →
      h.get? S = some (lstObj #[.ref m.1, .ref m.1] c) → codeAny (model P w) A (.builtin "min.loop" ⟨[.ref it, .none, .ref S], []⟩) R { s0 with heap := h, toks := tk } := by
  have nm : (toString "min" ++ toString ".loop" : String) = "min.loop" := by decide
  intro k
  induction k with
  | zero =>
    intro i h tk c m hi hm hle hit kp hS
    have hL : h.IsList l (xs.map fun x => Value.ref x.1).toArray := hl0.at fun o e => kp l o hil hSl e
    refine codeAny_builtin F.entry_min_loop ?_
    rw [Around.under_plainId F.plain_min_loop _]
    refine wpAny_bind (m := seqItems? (.ref S)) (wpAny_seqItems (s := { s0 with heap := h, toks := tk }) hS rfl ?_)
    refine wpAny_bind (wpAny_tryCatch (wpAny_pyNext_list_end (s := { s0 with heap := h, toks := tk }) hh hit hL (by simp; omega) fun h2 ext => ?_))
    have hS2 : h2.get? S = some (lstObj #[.ref m.1, .ref m.1] c) := ext S _ hSi hS
    refine wpAny_bind (m := updateSeq S (fun _ => #[])) (wpAny_updateSeq (s := { s0 with heap := h2, toks := tk }) hS2 rfl (wpAny_bind (wpAny_letGo (wpAny_pure ?_))))
    rw [List.take_of_length_le (by omega)] at hle
    exact hF m _ tk hm hle fun b o h1 h2' e => (Heap.get?_update_other _ _ (Ne.symm h2')).trans (ext b o h1 (kp b o h1 h2' e))
  | succ k ih =>
    intro i h tk c m hi hm hle hit kp hS
    have hL : h.IsList l (xs.map fun x => Value.ref x.1).toArray := hl0.at fun o e => kp l o hil hSl e
    have hlt : i < xs.length := by omega
    have hmem : xs[i] ∈ xs := List.getElem_mem hlt
    refine codeAny_builtin F.entry_min_loop ?_
    rw [Around.under_plainId F.plain_min_loop _]
    refine wpAny_bind (m := seqItems? (.ref S)) (wpAny_seqItems (s := { s0 with heap := h, toks := tk }) hS rfl ?_)
    refine wpAny_bind (wpAny_tryCatch (wpAny_pyNext_list_item (s := { s0 with heap := h, toks := tk }) (x := .ref xs[i].1) hit hL (by simp [hlt]) fun h2 hit2 same => ?_))
    have ext := same.extBut
    have kp2 : ∀ b o, b ≠ it → b ≠ S → s0.heap.get? b = some o → h2.get? b = some o := fun b o n1 n2 e => ext b o n1 (kp b o n1 n2 e)
    have hS2 : h2.get? S = some (lstObj #[.ref m.1, .ref m.1] c) := ext S _ hSi hS
    have tup : ∀ x ∈ xs, ∃ items : Array Value, IsTup h2 x.1 items ∧ IntsAre items.toList [x.2.1, x.2.2] := fun x hx => by
      obtain ⟨n1, n2, items, ⟨o, ho, r⟩, q⟩ := hx0 x hx
      exact ⟨items, ⟨o, kp2 _ _ n1 n2 ho, r⟩, q⟩
    obtain ⟨i1, t1, v1⟩ := tup _ hmem
    obtain ⟨i2, t2, v2⟩ := tup _ hm
    have next : ∀ (b : Bool) (hb : HT.lexLt [xs[i].2.1, xs[i].2.2] [m.2.1, m.2.2] = b) (h3 : Heap) (c3 : Nat), (∀ b o, b ≠ it → b ≠ S → s0.heap.get? b = some o → h3.get? b = some o) → h3.IsListIter it l (i + 1) →
        h3.get? S = some (lstObj (if b = true then #[.ref xs[i].1, .ref xs[i].1] else #[.ref m.1, .ref m.1]) c3) → codeAny (model P w) A (.builtin "min.loop" ⟨[.ref it, .none, .ref S], []⟩) R { s0 with heap := h3, toks := tk } := fun b hb h3 c3 e1 e2 e3 => by
      obtain ⟨q1, q2⟩ := lex_le (a := xs[i].2.1) (b := xs[i].2.2) (c := m.2.1) (d := m.2.2)
      rw [hb] at q1 q2
      have ht : ∀ y, y ∈ xs.take (i + 1) → y ∈ xs.take i ∨ y = xs[i] := fun y hy => by
        rw [List.take_succ_eq_append_getElem hlt] at hy
        rcases List.mem_append.mp hy with z | z
        · exact .inl z
        · exact .inr (List.mem_singleton.mp z)
      cases b with
      | true =>
        have q := q1 rfl
        refine ih (i + 1) h3 tk c3 xs[i] (by omega) hmem (fun y hy => ?_) e2 e1 e3
        rcases ht y hy with z | z
        · have := hle y z; omega
        · rw [z]; exact Int.le_refl _
      | false =>
        have q := q2 rfl
        refine ih (i + 1) h3 tk c3 m (by omega) hm (fun y hy => ?_) e2 e1 e3
        rcases ht y hy with z | z
        · exact hle y z
        · rw [z]; exact q
    show wpAny _ A.in1 (tryCatch (holding [Value.ref xs[i].1, Value.ref xs[i].1] (richCompare .Lt (.ref xs[i].1) (.ref m.1) >>= _)) _ >>= _) _ _ _
    refine wpAny_bind (wpAny_tryCatch (wpAny_holding (wpAny_bind (HT.lt_tupInts (s := { s0 with heap := h2, toks := tk }) t1 t2 v1 v2 hu ?_))))
    refine wpAny_bind (wpAny_holding (wpAny_truthy_bool ?_))
    refine wpAny_bind (wpAny_letGo (wpAny_pure ?_))
    cases hb : HT.lexLt [xs[i].2.1, xs[i].2.2] [m.2.1, m.2.2] with
    | true =>
      simp only [if_true]
      refine wpAny_bind (m := updateSeq S _) (wpAny_updateSeq (s := { s0 with heap := h2, toks := tk }) hS2 rfl (wpAny_bind (wpAny_letGo ?_)))
      rw [nm]
      refine wpAny_pure ⟨plainId_quiet F.plain_min_loop _, next true hb _ _ (fun b o n1 n2 e => (Heap.get?_update_other _ _ (Ne.symm n2)).trans (kp2 b o n1 n2 e)) (hit2.at fun o e => (Heap.get?_update_other _ _ hSi).trans e) (Heap.get?_update_self _ hS2 rfl)⟩
    | false =>
      simp only [Bool.false_eq_true, if_false]
      refine wpAny_bind (wpAny_letGo ?_)
      rw [nm]
      exact wpAny_pure ⟨plainId_quiet F.plain_min_loop _, next false hb h2 c kp2 hit2 hS2⟩
end
section
variable {X : Cx}
/-- min(xs), xs a list of pairs: one with the least first number -/
def rMinT (K : PySem.W.Frag) : List V → Hp → VK → Prop := fun vs H Q => ∃ (a : Addr) (xs : List Pr), vs = [.ref a] ∧ SqL K H a (xs.map fun x => V.ref x.1) ∧ (∀ x ∈ xs, SqT K H x.1 [.int x.2.1, .int x.2.2]) ∧ xs ≠ [] ∧ ∀ m ∈ xs, (∀ y ∈ xs, m.2.1 ≤ y.2.1) → Q (.ref m.1) H
theorem cr_minT (hc : X.calm = true) (hu : X.A.units + 1 < cLine) : CallR X (.builtin "min") (rMinT X.K) := by
  intro pins s σ H vs us Q I r h
  obtain ⟨a, xs, rfl, hs, ht, hne, q⟩ := h
  obtain ⟨its, rv, hl, _⟩ := I.list hs
  rw [Vals.ref1 r]
  have ei : its = xs.map fun x => Value.ref x.1 := by
    have := vals_ref_eq (as := xs.map (·.1)) (us := its) (by rw [List.map_map]; exact rv)
    rw [this, List.map_map]; rfl
  rw [ei] at hl
  have nm : (toString "min" ++ toString ".loop" : String) = "min.loop" := by decide
  have la : a < s.heap.objs.size := by obtain ⟨_, e, _⟩ := hl.isList; exact Heap.lt_size e
  obtain ⟨p, rest, rfl⟩ : ∃ p rest, xs = p :: rest := by
    cases xs with
    | nil => exact absurd rfl hne
    | cons p rest => exact ⟨p, rest, rfl⟩
  have tups : ∀ x ∈ p :: rest, ∃ items : Array Value, IsTup s.heap x.1 items ∧ IntsAre items.toList [x.2.1, x.2.2] := fun x hx => by
    obtain ⟨itx, rx, px, _⟩ := I.tuple (ht x hx)
    exact ⟨itx.toArray, px, intsAre_of (ns := [x.2.1, x.2.2]) rx⟩
  refine call_function_tree F.kind_min F.plain_min F.entry_min (F.args_min1 _) ?_
  refine wpAny_bind (m := Builtin.Builtins.bindParams "min" ["key", "default"] 0 ⟨[], []⟩) (wpAny_of_eq (show Builtin.Builtins.bindParams "min" ["key", "default"] 0 ⟨[], []⟩ = pure [none, none] from rfl) ?_)
  refine wpAny_bind (wpAny_pure ?_)
  refine wpAny_bind (wpAny_pyIter_list hl.isList ?_)
  refine wpAny_bind (wpAny_newObj_type ?_)
  rw [nm]
  -- the store: the iterator, and the consumer's own list
  generalize hh1 : s.heap.push { cls := .type "list_iterator", data := .fields #[.ref a, .int 0 0] } = h1
  have sz : h1.objs.size = s.heap.objs.size + 1 := by rw [← hh1, Heap.size_push]
  have old1 : ∀ b o, s.heap.get? b = some o → h1.get? b = some o := fun b o e => by rw [← hh1]; exact Heap.get?_push_of_some _ e
  have it1 : h1.IsListIter s.heap.objs.size a 0 := by rw [← hh1]; exact ⟨_, Heap.get?_push_size _ rfl, rfl, rfl⟩
  show wpAny _ X.A.in1 (pure _) _ _ { s with heap := h1.push _ }
  have hS2 : (h1.push { cls := .type "list", data := .seq #[] }).get? h1.objs.size = some (lstObj #[] 0) := Heap.get?_push_size _ rfl
  have old2 : ∀ b o, s.heap.get? b = some o → (h1.push { cls := .type "list", data := .seq #[] }).get? b = some o := fun b o e => Heap.get?_push_of_some _ (old1 b o e)
  have it2 : (h1.push { cls := .type "list", data := .seq #[] }).IsListIter s.heap.objs.size a 0 := it1.at fun o e => Heap.get?_push_of_some _ e
  generalize h1.push { cls := .type "list", data := .seq #[] } = h2 at hS2 old2 it2 ⊢
  refine wpAny_pure ⟨plainId_quiet F.plain_min_loop _, ?_⟩
  have hSi : h1.objs.size ≠ s.heap.objs.size := by omega
  have apart : ∀ {b : Addr} {o : Obj}, s.heap.get? b = some o → b ≠ s.heap.objs.size ∧ b ≠ h1.objs.size := fun e => by
    have := Heap.lt_size e
    exact ⟨Nat.ne_of_lt this, Nat.ne_of_lt (by rw [sz]; exact Nat.lt_succ_of_lt this)⟩
  have hx0 : ∀ x ∈ p :: rest, x.1 ≠ s.heap.objs.size ∧ x.1 ≠ h1.objs.size ∧ ∃ items : Array Value, IsTup s.heap x.1 items ∧ IntsAre items.toList [x.2.1, x.2.2] := fun x hx => by
    obtain ⟨items, ⟨o, ho, r2⟩, q2⟩ := tups x hx
    obtain ⟨n1, n2⟩ := apart ho
    exact ⟨n1, n2, items, ⟨o, ho, r2⟩, q2⟩
  refine codeAny_builtin F.entry_min_loop ?_
  rw [Around.under_plainId F.plain_min_loop _]
  refine wpAny_bind (m := seqItems? (.ref h1.objs.size)) (wpAny_seqItems (s := { s with heap := h2 }) hS2 rfl ?_)
  have hL2 : h2.IsList a ((p :: rest).map fun x => Value.ref x.1).toArray := hl.isList.at fun o e => old2 _ _ e
  refine wpAny_bind (wpAny_tryCatch (wpAny_pyNext_list_item (s := { s with heap := h2 }) (x := .ref p.1) it2 hL2 (by simp) fun h3 it3 same => ?_))
  have hS3 : h3.get? h1.objs.size = some (lstObj #[] 0) := same.extBut _ _ hSi hS2
  refine wpAny_bind (m := updateSeq h1.objs.size (fun _ => #[Value.ref p.1, Value.ref p.1])) ?_
  refine wpAny_updateSeq (s := { s with heap := h3 }) hS3 rfl ?_
  rw [nm]
  refine wpAny_pure ⟨plainId_quiet F.plain_min_loop _, minT_loop (P := X.prog) (w := X.w) (A := X.A) (s0 := s) (it := s.heap.objs.size) (l := a) (S := h1.objs.size) (xs := p :: rest) (I.ok.hd hc) hu hSi (Nat.ne_of_lt la) (Nat.ne_of_lt (by rw [sz]; exact Nat.lt_succ_of_lt la)) hl.isList hx0 (fun m h' tk hm hle kp => ?_) rest.length 1 _ s.toks _ p (by simp; omega) List.mem_cons_self (fun y hy => ?_) (it3.at fun o e => (Heap.get?_update_other _ _ hSi).trans e) (fun b o n1 n2 e => (Heap.get?_update_other _ _ (Ne.symm n2)).trans (same.extBut b o n1 (old2 b o e))) (Heap.get?_update_self _ hS3 rfl)⟩
  · exact ⟨.ref m.1, H, I.kept fun b o e => kp b o (apart e).1 (apart e).2 e, rfl, q m hm hle⟩
  · have : y = p := by simpa using hy
    rw [this]; exact Int.le_refl _
/-- the reading of list(d.values()) -/
def tListVals (td : TE) : TE := fun σ H Q => td σ H fun x H1 => ∃ a kvs, x = V.ref a ∧ H1 a = some (.dK kvs) ∧ ∀ p, H1 p = none → Q (.ref p) (upd H1 p (.lst (kvs.map (·.2))))
theorem kv_vals : ∀ {kvs : List (Key × V)} {vs : List (Key × Value)}, KV kvs vs → Vals (kvs.map (·.2)) (vs.map (·.2)) := by
  intro kvs
  induction kvs with
  | nil => intro vs r; cases r; exact .nil
  | cons p r ih =>
    intro vs rel
    cases rel with
    | cons h t => exact .cons h.2 (ih t)
variable {o : Expr} {td : TE} {p pos apos mpos : Pos}
theorem pe_listVals (hc : X.calm = true) (hg : Gl X "list") (hm : X.mg "list" = none) (hd : PE X o td) (hbase : attributeBase o "values" X.env (eval o X.env) = eval o X.env := by rfl) (hline : (apos.endLine == mpos.line) = true := by rfl)
    (hse : starEach [Expr.Call (.Attribute o "values" apos) [] [] mpos] X.env = (false, eval (Expr.Call (.Attribute o "values" apos) [] [] mpos) X.env) :: starEach [] X.env := by rfl) :
    PE X (.Call (.Name "list" p) [.Call (.Attribute o "values" apos) [] [] mpos] [] pos) (tListVals td) := by
  refine ⟨fun pins s σ H Q I h => ?_⟩
  refine wpAny_Call_Name_kw (ld_blt I hg hm (u := .type "list") (by decide +kernel) ?_)
  refine PyProof.Rows.callWith_type1 ?_ hse rfl
  rw [hse]
  show wpAny _ _ (spliced ((false, eval (Expr.Call (.Attribute o "values" apos) [] [] mpos) X.env) :: backTo pos (starEach [] X.env))) _ _ s
  refine Calls.spliced_cons ?_
  refine wpAny_Call_method (T := "dict") (id := "dict.values") hbase rfl hline F.plainAttrs_dict F.slot_dict_values F.type_dict_values (thn (hd.run pins s σ H _ I h) fun v s1 ⟨x, H1, I1, r1, a, kvs, ex, ha, q⟩ => ?_)
  subst ex
  obtain rfl : v = Value.ref a := r1
  obtain ⟨hz, hsys, vs, rel, dof⟩ := I1.hok a _ ha
  obtain ⟨ep, dat⟩ := dof.dictAt
  have lk : kvs.length = vs.length := Paired.length rel
  refine ⟨dof.typeIs, dof.mapOf.noDict, ?_⟩
  show wpAny _ _ (callWith mpos (.builtin "dict.values") [.ref a] [] []) _ X.xe s1
  refine method_meetsIn F.slot_dict_values F.entry_dict_values rfl (PySem.evalArgs_none ⟨rfl, dof.typeIs, F.args_dict_values_1 _, _, meets_dict_values (mixKind X.prog X.w) a hsys, ⟨vs, dof⟩, ?_⟩)
  refine Calls.spliced_nil ?_
  have k1 : ∀ b u, s1.heap.get? b = some u → (s1.heap.push { cls := .type "dict_values", data := .fields #[.ref a] }).get? b = some u := fun b u e => Heap.get?_push_of_some _ e
  have I2 : Inv X pins σ H1 { s1 with heap := s1.heap.push { cls := .type "dict_values", data := .fields #[.ref a] } } := I1.kept (t' := s1.toks) k1
  refine PySem.W.kdl_call (PySem.W.kdl_values (knd := mixKind X.prog X.w) (r := s1.heap.objs.size) (d := a) (kvs := vs) (ep := ep)) (I1.ok.hd hc) ⟨⟨_, Heap.get?_push_size _ rfl, rfl, rfl⟩, dat.keep k1⟩ (by omega) fun h' tk acc c hk hS hacc => ?_
  have eacc : acc.toList = vs.map (·.2) := PySem.W.kdl_vals_eq _ (by rw [Array.length_toList]; exact hacc.1) fun j v e => hacc.2 j v (by rw [← Array.getElem?_toList]; exact e)
  refine ⟨.ref _, _, I2.laid (t' := tk) (o := .lst (kvs.map (·.2))) hk (Nat.le_refl _) ⟨by rw [List.length_map]; omega, acc.toList, c, ?_, by rw [Array.toArray_toList]; exact hS⟩, rfl, q _ (I2.hok.fresh (Nat.le_refl _))⟩
  rw [eacc]
  exact kv_vals rel
end
end GX

-- text K6A
set_option maxRecDepth 100000
set_option maxHeartbeats 4000000
namespace K6
open PySem PySem.Spec PyProof.Rows L2 LamX GX
section
variable {P : Program} {w : World} {K : PySem.W.Frag} {mg : Str → Option Value} {base : Heap}
/-! ### the relay: what it holds -/
abbrev aRl (K : PySem.W.Frag) : Addr := He.ga K "Relay"
abbrev aRE (K : PySem.W.Frag) : Addr := He.ga K "RelayError"
abbrev aUE (K : PySem.W.Frag) : Addr := He.ga K "RouteError"
abbrev Row4 := Int × Str × Str × Str
structure Msg where
  s : Str
  e : Str
  n : Int
  u : Bool
  th : Bool
deriving DecidableEq
abbrev Bz := Str × Option Str × Int
def stV (b : Bool) : Str := if b then "there" else "waits"
def msgV (m : Msg) : List V := [.str m.s, .str m.e, .int m.n, .bl m.u, .str (stV m.th)]
def oV : Option Str → V
  | some x => .str x
  | none => .non
def bzV (b : Bz) : List V := [.str b.1, oV b.2.1, .int b.2.2]
def rowV (r : Row4) : List V := [.int r.1, .str r.2.1, .str r.2.2.1, .str r.2.2.2]
/-- the relay, with the places of its parts -/
structure RA where
  fo : Addr
  me : Addr
  qs : Addr
  bu : Addr
  ro : Addr
  fog : SD Int
  ms : SD (Addr × Msg)
  qu : SD (Addr × List Str)
  bz : SD (Addr × Bz)
  rw : List (Addr × Row4)
  mi : Int
/-- the same without places -/
structure RS where
  fog : SD Int
  ms : SD Msg
  qu : SD (List Str)
  bz : SD Bz
  rw : List Row4
  mi : Int
deriving DecidableEq
def drop1 {α : Type} (cs : SD (Addr × α)) : SD α := cs.map fun p => (p.1, p.2.2)
def RA.pu (x : RA) : RS := ⟨x.fog, drop1 x.ms, drop1 x.qu, drop1 x.bz, x.rw.map (·.2), x.mi⟩
/-- what never changes: towers, links, hold -/
structure Sta where
  tw : Addr
  lk : Addr
  ts : List Str
  ls : List (Addr × Str × Str)
  hold : Int
def Sta.lp (Z : Sta) : List (Str × Str) := Z.ls.map (·.2)
def rf {α : Type} (x : Addr × α) : V := .ref x.1
def relF (Z : Sta) (x : RA) : List (Str × V) := [("towers", .ref Z.tw), ("links", .ref Z.lk), ("hold", .int Z.hold), ("fog", .ref x.fo), ("messages", .ref x.me), ("queues", .ref x.qs), ("busy", .ref x.bu), ("rows", .ref x.ro), ("minute", .int x.mi)]
def cells (K : PySem.W.Frag) (r dx : Addr) (Z : Sta) (x : RA) : List (Addr × HO) :=
  [(r, .ins (aRl K) dx (relF Z x)), (x.fo, .dK (ents V.int x.fog)), (x.me, .dK (ents rf x.ms)), (x.qs, .dK (ents rf x.qu)), (x.bu, .dK (ents rf x.bz)), (x.ro, .lst (x.rw.map rf))] ++
    ((x.ms.map fun p => (p.2.1, HO.lst (msgV p.2.2))) ++ x.qu.map fun p => (p.2.1, HO.lst (p.2.2.map V.str)))
/-- towers and links stand -/
structure StaOk (B : Hp) (Z : Sta) : Prop where
  tw : B Z.tw = some (.tup (Z.ts.map V.str))
  lk : B Z.lk = some (.tup (Z.ls.map rf))
  lt : ∀ x ∈ Z.ls, B x.1 = some (.tup [.str x.2.1, .str x.2.2])
  nd : Z.ts.Nodup
  ok : ∀ t ∈ Z.ts, (PyData.str t).canLay0 = true
  lok : ∀ x ∈ Z.ls, (PyData.str x.2.1).canLay0 = true ∧ (PyData.str x.2.2).canLay0 = true
  l60 : Z.ts.length ≤ 60
  ll : Z.ls.length ≤ 1000
theorem StaOk.to {T : List (Addr × Str)} {B B' : Hp} {Z : Sta} (h : StaOk B Z) (x : Le T B B') : StaOk B' Z := ⟨x.at h.tw, x.at h.lk, fun y hy => x.at (h.lt y hy), h.nd, h.ok, h.lok, h.l60, h.ll⟩
structure Rel (K : PySem.W.Frag) (B H : Hp) (r dx : Addr) (Z : Sta) (x : RA) : Prop where
  le : Le (T K) B H
  nd : ((cells K r dx Z x).map (·.1)).Nodup
  at_ : ∀ c ∈ cells K r dx Z x, H c.1 = some c.2
  no : ∀ c ∈ cells K r dx Z x, B c.1 = none
  bzt : ∀ p ∈ x.bz, H p.2.1 = some (.tup (bzV p.2.2))
  rwt : ∀ y ∈ x.rw, H y.1 = some (.tup (rowV y.2))
  sta : StaOk B Z
section
variable {B H H' : Hp} {r dx : Addr} {Z : Sta} {x x' : RA} {p a : Addr} {o u : HO}
theorem cells_plain : ∀ c ∈ cells K r dx Z x, PlainO c.2 ∧ ∀ xs, c.2 ≠ .tup xs := fun c hc => by
  unfold cells at hc
  rcases List.mem_append.mp hc with h | h
  · simp only [List.mem_cons, List.not_mem_nil, or_false] at h
    rcases h with rfl | rfl | rfl | rfl | rfl | rfl <;> exact ⟨trivial, fun _ z => by cases z⟩
  · rcases List.mem_append.mp h with h | h
    · obtain ⟨q, _, rfl⟩ := List.mem_map.mp h
      exact ⟨trivial, fun _ z => by cases z⟩
    · obtain ⟨q, _, rfl⟩ := List.mem_map.mp h
      exact ⟨trivial, fun _ z => by cases z⟩
theorem Rel.tab (h : Rel K B H r dx Z x) : Tabs (T K) H := h.le.tab
theorem Rel.to (h : Rel K B H r dx Z x) (l : Le (T K) H H') : Rel K B H' r dx Z x :=
  ⟨h.le.trans l, h.nd, fun c hc => l.ext _ _ (h.at_ c hc) (fun ps z => by have := (cells_plain c hc).1; rw [z] at this; exact this), h.no, fun q hq => l.at (h.bzt q hq), fun y hy => l.at (h.rwt y hy), h.sta⟩
theorem Rel.new (h : Rel K B H r dx Z x) (n : H p = none) : Rel K B (upd H p o) r dx Z x := h.to ((Le.refl h.le.tab).new n)
/-- the same cell at the same place -/
theorem Rel.uniq (h : Rel K B H r dx Z x) {c c' : Addr × HO} (hc : c ∈ cells K r dx Z x) (hc' : c' ∈ cells K r dx Z x) (e : c.1 = c'.1) : c = c' := by
  have h1 := h.at_ c hc
  have h2 := h.at_ c' hc'
  rw [e, h2] at h1
  exact Prod.ext e (Option.some.inj h1).symm
/-- the object at a, one of the relay's own, is changed -/
theorem Rel.put (h : Rel K B H r dx Z x) (hb : B a = none) (ha : H a = some u) (hu : PlainO u) (hut : ∀ xs, u ≠ .tup xs) (hnd : ((cells K r dx Z x').map (·.1)).Nodup)
    (h1 : ∀ c ∈ cells K r dx Z x', (c.1 = a ∧ c.2 = o) ∨ (c.1 ≠ a ∧ (c ∈ cells K r dx Z x ∨ (H c.1 = some c.2 ∧ B c.1 = none))))
    (hz : ∀ q ∈ x'.bz, q ∈ x.bz ∨ H q.2.1 = some (.tup (bzV q.2.2))) (hw : ∀ y ∈ x'.rw, y ∈ x.rw ∨ H y.1 = some (.tup (rowV y.2))) : Rel K B (upd H a o) r dx Z x' := by
  have ne : ∀ {b : Addr} {xs : List V}, H b = some (.tup xs) → b ≠ a := fun hb e => by rw [e, ha] at hb; exact hut _ (Option.some.inj hb)
  refine ⟨h.le.set hb ha hu, hnd, fun c hc => ?_, fun c hc => ?_, fun q hq => ?_, fun y hy => ?_, h.sta⟩
  · rcases h1 c hc with ⟨e1, e2⟩ | ⟨n, e⟩
    · rw [e1, e2, upd_same]
    · rcases e with e | e
      · rw [upd_ne n]; exact h.at_ c e
      · rw [upd_ne n]; exact e.1
  · rcases h1 c hc with ⟨e1, e2⟩ | ⟨n, e⟩
    · rw [e1]; exact hb
    · rcases e with e | e
      · exact h.no c e
      · exact e.2
  · have e : H q.2.1 = some (.tup (bzV q.2.2)) := by
      rcases hz q hq with e | e
      · exact h.bzt q e
      · exact e
    exact (upd_ne (ne e)).trans e
  · have e : H y.1 = some (.tup (rowV y.2)) := by
      rcases hw y hy with e | e
      · exact h.rwt y e
      · exact e
    exact (upd_ne (ne e)).trans e
end
end
end K6

-- text K6B
set_option maxRecDepth 100000
set_option maxHeartbeats 4000000
namespace K6
open PySem PySem.Spec PyProof.Rows L2 LamX GX
section
variable {P : Program} {w : World} {K : PySem.W.Frag} {mg : Str → Option Value} {base : Heap}
/-! ### one part of the relay changed -/
theorem mem_setN {α : Type} {l : List (Addr × α)} (nd : (l.map (·.1)).Nodup) {i : Nat} {a : Addr} {u o : α} (hi : l[i]? = some (a, u)) {c : Addr × α} (hc : c ∈ l.set i (a, o)) : (c.1 = a ∧ c.2 = o) ∨ (c.1 ≠ a ∧ c ∈ l) := by
  obtain ⟨j, hj, e⟩ := List.mem_iff_getElem.mp hc
  rw [List.length_set] at hj
  obtain ⟨hil, hie⟩ := List.getElem?_eq_some_iff.mp hi
  by_cases h : i = j
  · subst h
    rw [List.getElem_set_self] at e
    exact .inl (by rw [← e]; exact ⟨rfl, rfl⟩)
  · rw [List.getElem_set_ne h] at e
    refine .inr ⟨fun z => h ?_, by rw [← e]; exact List.getElem_mem hj⟩
    refine nodup_addr nd (x := a) (by rw [List.getElem?_map, hi]; rfl) ?_
    rw [List.getElem?_map, List.getElem?_eq_getElem hj, e]
    show some c.1 = some a
    rw [z]
theorem set_fst {α : Type} {l : List (Addr × α)} {i : Nat} {a : Addr} {u o : α} (hi : l[i]? = some (a, u)) : (l.set i (a, o)).map (·.1) = l.map (·.1) := by
  rw [List.map_set]
  apply List.ext_getElem?
  intro j
  by_cases h : i = j
  · subst h
    obtain ⟨hil, hie⟩ := List.getElem?_eq_some_iff.mp hi
    rw [List.getElem?_set_self (by rw [List.length_map]; exact hil), List.getElem?_map, hi]
    rfl
  · rw [List.getElem?_set_ne h]
section
variable {B H H' : Hp} {r dx : Addr} {Z : Sta} {x x' : RA} {p a : Addr} {o u : HO}
theorem Rel.putAt (h : Rel K B H r dx Z x) {i : Nat} (hi : (cells K r dx Z x)[i]? = some (a, u)) (hs : cells K r dx Z x' = (cells K r dx Z x).set i (a, o))
    (hz : ∀ q ∈ x'.bz, q ∈ x.bz ∨ H q.2.1 = some (.tup (bzV q.2.2))) (hw : ∀ y ∈ x'.rw, y ∈ x.rw ∨ H y.1 = some (.tup (rowV y.2))) : Rel K B (upd H a o) r dx Z x' := by
  have hm := List.mem_of_getElem? hi
  obtain ⟨k1, k2⟩ := cells_plain _ hm
  refine h.put (h.no _ hm) (h.at_ _ hm) k1 k2 (by rw [hs, set_fst hi]; exact h.nd) (fun c hc => ?_) hz hw
  rw [hs] at hc
  rcases mem_setN h.nd hi hc with e | e
  · exact .inl e
  · exact .inr ⟨e.1, .inl e.2⟩
theorem Rel.minute (h : Rel K B H r dx Z x) (m : Int) : Rel K B (upd H r (.ins (aRl K) dx (relF Z { x with mi := m }))) r dx Z { x with mi := m } := h.putAt (i := 0) rfl rfl (fun q hq => .inl hq) (fun y hy => .inl hy)
theorem Rel.fogS (h : Rel K B H r dx Z x) (f : SD Int) : Rel K B (upd H x.fo (.dK (ents V.int f))) r dx Z { x with fog := f } := h.putAt (i := 1) rfl rfl (fun q hq => .inl hq) (fun y hy => .inl hy)
theorem Rel.busyS (h : Rel K B H r dx Z x) (b : SD (Addr × Bz)) (hb : ∀ q ∈ b, q ∈ x.bz ∨ H q.2.1 = some (.tup (bzV q.2.2))) : Rel K B (upd H x.bu (.dK (ents rf b))) r dx Z { x with bz := b } := h.putAt (i := 4) rfl rfl hb (fun y hy => .inl hy)
theorem Rel.rowS (h : Rel K B H r dx Z x) (y : Addr × Row4) (hy : H y.1 = some (.tup (rowV y.2))) : Rel K B (upd H x.ro (.lst ((x.rw ++ [y]).map rf))) r dx Z { x with rw := x.rw ++ [y] } :=
  h.putAt (i := 5) rfl rfl (fun q hq => .inl hq) (fun z hz => by
    rcases List.mem_append.mp hz with e | e
    · exact .inl e
    · rw [List.mem_singleton.mp e]; exact .inr hy)
theorem cells_ms {j : Nat} {q : Str × Addr × Msg} (hj : x.ms[j]? = some q) : (cells K r dx Z x)[6 + j]? = some (q.2.1, .lst (msgV q.2.2)) := by
  obtain ⟨hl, he⟩ := List.getElem?_eq_some_iff.mp hj
  unfold cells
  rw [List.getElem?_append_right (by show 6 ≤ 6 + j; omega)]
  show ((x.ms.map fun p => (p.2.1, HO.lst (msgV p.2.2))) ++ _)[6 + j - 6]? = _
  rw [Nat.add_sub_cancel_left, List.getElem?_append_left (by rw [List.length_map]; exact hl), List.getElem?_map, hj]
  rfl
theorem cells_qu {j : Nat} {q : Str × Addr × List Str} (hj : x.qu[j]? = some q) : (cells K r dx Z x)[6 + (x.ms.length + j)]? = some (q.2.1, .lst (q.2.2.map V.str)) := by
  obtain ⟨hl, he⟩ := List.getElem?_eq_some_iff.mp hj
  unfold cells
  rw [List.getElem?_append_right (by show 6 ≤ 6 + (x.ms.length + j); omega)]
  show ((x.ms.map fun p => (p.2.1, HO.lst (msgV p.2.2))) ++ x.qu.map fun p => (p.2.1, HO.lst (p.2.2.map V.str)))[6 + (x.ms.length + j) - 6]? = _
  rw [Nat.add_sub_cancel_left, List.getElem?_append_right (by rw [List.length_map]; omega), List.length_map, Nat.add_sub_cancel_left, List.getElem?_map, hj]
  rfl
/-- a message's list changed -/
theorem ents_setA {α : Type} {cs : SD (Addr × α)} {j : Nat} {q : Str × Addr × α} (hj : cs[j]? = some q) (v : α) : ents rf (cs.set j (q.1, q.2.1, v)) = ents rf cs := by
  unfold ents
  apply List.ext_getElem?
  intro i
  rw [List.getElem?_map, List.getElem?_map]
  by_cases h : j = i
  · subst h
    obtain ⟨hl, he⟩ := List.getElem?_eq_some_iff.mp hj
    rw [List.getElem?_set_self hl, hj]
    rfl
  · rw [List.getElem?_set_ne h]
theorem Rel.msgS (h : Rel K B H r dx Z x) {j : Nat} {q : Str × Addr × Msg} (hj : x.ms[j]? = some q) (m : Msg) : Rel K B (upd H q.2.1 (.lst (msgV m))) r dx Z { x with ms := x.ms.set j (q.1, q.2.1, m) } := by
  refine h.putAt (cells_ms hj) ?_ (fun q hq => .inl hq) (fun y hy => .inl hy)
  obtain ⟨hl, he⟩ := List.getElem?_eq_some_iff.mp hj
  unfold cells
  rw [List.set_append_right _ _ (by show 6 ≤ 6 + j; omega)]
  show _ ++ _ = _ ++ List.set _ (6 + j - 6) _
  rw [Nat.add_sub_cancel_left, List.set_append_left _ _ (by rw [List.length_map]; exact hl), ← List.map_set (f := fun p : Str × Addr × Msg => (p.2.1, HO.lst (msgV p.2.2))) (a := (q.1, q.2.1, m))]
  show [_, _, (x.me, HO.dK (ents rf (x.ms.set j (q.1, q.2.1, m)))), _, _, _] ++ _ = _
  rw [ents_setA hj]
  rfl
theorem Rel.queS (h : Rel K B H r dx Z x) {j : Nat} {q : Str × Addr × List Str} (hj : x.qu[j]? = some q) (l : List Str) : Rel K B (upd H q.2.1 (.lst (l.map V.str))) r dx Z { x with qu := x.qu.set j (q.1, q.2.1, l) } := by
  refine h.putAt (cells_qu hj) ?_ (fun q hq => .inl hq) (fun y hy => .inl hy)
  obtain ⟨hl, he⟩ := List.getElem?_eq_some_iff.mp hj
  unfold cells
  rw [List.set_append_right _ _ (by show 6 ≤ 6 + (x.ms.length + j); omega)]
  show _ ++ _ = _ ++ List.set _ (6 + (x.ms.length + j) - 6) _
  rw [Nat.add_sub_cancel_left, List.set_append_right _ _ (by rw [List.length_map]; omega), List.length_map, Nat.add_sub_cancel_left, ← List.map_set (f := fun p : Str × Addr × List Str => (p.2.1, HO.lst (p.2.2.map V.str))) (a := (q.1, q.2.1, l))]
  show [_, _, _, (x.qs, HO.dK (ents rf (x.qu.set j (q.1, q.2.1, l)))), _, _] ++ _ = _
  rw [ents_setA hj]
  rfl
/-- a new object is none of the relay's own -/
theorem Rel.fresh (h : Rel K B H r dx Z x) (hp : H p = none) : p ∉ (cells K r dx Z x).map (·.1) := fun hm => by
  obtain ⟨c, hc, rfl⟩ := List.mem_map.mp hm
  rw [h.at_ c hc] at hp
  cases hp
theorem nodup_set {α : Type} : ∀ {l : List α}, l.Nodup → ∀ {a : α}, a ∉ l → ∀ i : Nat, (l.set i a).Nodup
  | [], _, _, _, _ => List.nodup_nil
  | x :: r, nd, a, ha, 0 => by
    show (a :: r).Nodup
    exact List.nodup_cons.mpr ⟨fun h => ha (List.mem_cons_of_mem _ h), (List.nodup_cons.mp nd).2⟩
  | x :: r, nd, a, ha, i + 1 => by
    obtain ⟨n1, n2⟩ := List.nodup_cons.mp nd
    show (x :: r.set i a).Nodup
    refine List.nodup_cons.mpr ⟨fun h => ?_, nodup_set n2 (fun h => ha (List.mem_cons_of_mem _ h)) i⟩
    rcases List.mem_or_eq_of_mem_set h with e | e
    · exact n1 e
    · exact ha (by rw [e]; exact List.mem_cons_self)
/-- a queue's list is another, a new one at p, that H1 = H with p holds -/
theorem Rel.queN (h : Rel K B H r dx Z x) {j : Nat} {q : Str × Addr × List Str} (hj : x.qu[j]? = some q) {l : List Str} (hp : H p = none) :
    Rel K B (upd (upd H p (.lst (l.map V.str))) x.qs (.dK (ents rf (x.qu.set j (q.1, p, l))))) r dx Z { x with qu := x.qu.set j (q.1, p, l) } := by
  have h1 := h.new (o := .lst (l.map V.str)) hp
  have hq : (cells K r dx Z x)[3]? = some (x.qs, .dK (ents rf x.qu)) := rfl
  have hm := List.mem_of_getElem? hq
  have hf := h.fresh hp
  have hl := (List.getElem?_eq_some_iff.mp hj).1
  have hqp : x.qs ≠ p := fun e => hf (List.mem_map.mpr ⟨_, hm, e⟩)
  have ec : cells K r dx Z { x with qu := x.qu.set j (q.1, p, l) } = ((cells K r dx Z x).set 3 (x.qs, .dK (ents rf (x.qu.set j (q.1, p, l))))).set (6 + (x.ms.length + j)) (p, .lst (l.map V.str)) := by
    unfold cells
    show _ ++ _ = List.set ([_, _, _, _, _, _] ++ _) _ _
    rw [List.set_append_right _ _ (by show 6 ≤ 6 + (x.ms.length + j); omega)]
    show _ ++ _ = _ ++ List.set _ (6 + (x.ms.length + j) - 6) _
    rw [Nat.add_sub_cancel_left, List.set_append_right _ _ (by rw [List.length_map]; omega), List.length_map, Nat.add_sub_cancel_left, ← List.map_set (f := fun p : Str × Addr × List Str => (p.2.1, HO.lst (p.2.2.map V.str))) (a := (q.1, p, l))]
    rfl
  refine h1.put (h1.no _ hm) (h1.at_ _ hm) trivial (fun _ z => by cases z) ?_ (fun c hc => ?_) (fun q hq => .inl hq) (fun y hy => .inl hy)
  · rw [ec, List.map_set, set_fst hq]
    exact nodup_set h.nd hf _
  · rw [ec] at hc
    rcases List.mem_or_eq_of_mem_set hc with e | e
    · rcases mem_setN h.nd hq e with e | e
      · exact .inl e
      · exact .inr ⟨e.1, .inl e.2⟩
    · rw [e]
      exact .inr ⟨Ne.symm hqp, .inr ⟨upd_same, h.le.no _ hp⟩⟩
/-- a new message, its list new at p -/
theorem Rel.msgN (h : Rel K B H r dx Z x) {n : Str} {m : Msg} (hp : H p = none) :
    Rel K B (upd (upd H p (.lst (msgV m))) x.me (.dK (ents rf (x.ms ++ [(n, p, m)])))) r dx Z { x with ms := x.ms ++ [(n, p, m)] } := by
  have h1 := h.new (o := .lst (msgV m)) hp
  have hq : (cells K r dx Z x)[2]? = some (x.me, .dK (ents rf x.ms)) := rfl
  have hm := List.mem_of_getElem? hq
  have hf := h.fresh hp
  have hqp : x.me ≠ p := fun e => hf (List.mem_map.mpr ⟨_, hm, e⟩)
  have ec : (cells K r dx Z { x with ms := x.ms ++ [(n, p, m)] }).Perm ((p, .lst (msgV m)) :: (cells K r dx Z x).set 2 (x.me, .dK (ents rf (x.ms ++ [(n, p, m)])))) := by
    unfold cells
    show ([_, _, _, _, _, _] ++ _ : List (Addr × HO)).Perm (_ :: ([_, _, _, _, _, _] ++ _))
    rw [List.map_append, List.append_assoc]
    show ([_, _, _, _, _, _] ++ ((x.ms.map fun p => (p.2.1, HO.lst (msgV p.2.2))) ++ ((p, .lst (msgV m)) :: x.qu.map fun p => (p.2.1, HO.lst (p.2.2.map V.str)))) : List (Addr × HO)).Perm _
    refine (List.Perm.append_left _ List.perm_middle).trans ?_
    exact List.perm_middle
  refine h1.put (h1.no _ hm) (h1.at_ _ hm) trivial (fun _ z => by cases z) ?_ (fun c hc => ?_) (fun q hq => .inl hq) (fun y hy => .inl hy)
  · refine ((ec.map (·.1)).nodup_iff).mpr ?_
    rw [List.map_cons, set_fst hq]
    exact List.nodup_cons.mpr ⟨hf, h.nd⟩
  · rcases List.mem_cons.mp (ec.mem_iff.mp hc) with e | e
    · rw [e]
      exact .inr ⟨Ne.symm hqp, .inr ⟨upd_same, h.le.no _ hp⟩⟩
    · rcases mem_setN h.nd hq e with e | e
      · exact .inl e
      · exact .inr ⟨e.1, .inl e.2⟩
end
end
end K6

-- text Gen4
set_option maxRecDepth 100000
set_option maxHeartbeats 4000000
/-! Gen4: small things said once. -/
namespace GX
open PySem PySem.Spec PyProof.Rows L2 LamX
theorem iteDN {c A B : Prop} [Decidable c] (hc : ¬ c) (h : A) : if (!decide c) = true then A else B := iteNT hc h
theorem inV_strs (x : Str) : ∀ ws : List Str, inV (.str x) (ws.map V.str) = decide (x ∈ ws)
  | [] => by simp [inV]
  | y :: r => by
    have ih := inV_strs x r
    unfold inV at ih ⊢
    rw [List.map_cons, List.any_cons, ih]
    have e : eqV (.str y) (.str x) = decide (x = y) := by
      show ((y : Str) == x) = _
      by_cases h : x = y
      · rw [h, decide_eq_true rfl]; exact beq_self_eq_true _
      · rw [decide_eq_false h]
        exact beq_false_of_ne fun z => h z.symm
    rw [e]
    by_cases h : x = y <;> simp [h]
theorem flat_strs' (ws : List Str) : (ws.map V.str).all flatV = true := by
  rw [List.all_map]
  exact List.all_eq_true.mpr fun _ _ => rfl
theorem paired_snoc {α β : Type} {F : α → β → Prop} : ∀ {xs : List α} {ys : List β} {x : α} {y : β}, Paired F xs ys → F x y → Paired F (xs ++ [x]) (ys ++ [y])
  | _, _, _, _, .nil, h => .cons h .nil
  | _, _, _, _, .cons a b, h => .cons a (paired_snoc b h)
theorem paired_mono {α β : Type} {F G : α → β → Prop} (m : ∀ x y, F x y → G x y) : ∀ {xs : List α} {ys : List β}, Paired F xs ys → Paired G xs ys
  | _, _, .nil => .nil
  | _, _, .cons a b => .cons (m _ _ a) (paired_mono m b)
theorem merge0 {α : Type} {f : α → V} {cs : SD α} (nd : (cs.map (·.1)).Nodup) : mergeK [] (ents f cs) = ents f cs := merge_ents f cs [] (by simpa using nd)
theorem at_set {σ : L2.St} {i j : Nat} {v : V} {x : Option V} (h : At σ i v) (n : i ≠ j) : At (σ.set j x) i v := by
  unfold At at h ⊢
  rw [List.getElem?_set_ne (Ne.symm n)]; exact h
theorem at_self {σ : L2.St} {j : Nat} {v : V} (h : j < σ.length) : At (σ.set j (some v)) j v := by
  unfold At
  rw [List.getElem?_set_self h]
def StepsR (X : Cx) (sts : List Stmt) (M : L2.St → Hp → Prop) (R : Ends → Prop) : Prop := ∃ t, PSs X sts t ∧ ∀ (D : Ends) (σ : L2.St) (H : Hp), M σ H → R D → t D σ H
theorem consR {X : Cx} {st : Stmt} {r : List Stmt} {M M1 : L2.St → Hp → Prop} {R : Ends → Prop} (a : Step X st M M1) (b : StepsR X r M1 R) : StepsR X (st :: r) M R := by
  obtain ⟨ta, ha, ha2⟩ := a
  obtain ⟨tb, hb, hb2⟩ := b
  exact ⟨_, C8.pss_cut ha hb, fun D σ H h k => ⟨M1, ha2 { D with nx := M1 } σ H h (fun _ _ z => z), fun σ' H' z => hb2 D σ' H' z k⟩⟩
theorem upd_upd {H : Hp} {a : Addr} {u v : HO} : upd (upd H a u) a v = upd H a v := by
  funext b
  by_cases h : b = a
  · rw [h, upd_same, upd_same]
  · rw [upd_ne h, upd_ne h, upd_ne h]
theorem names_lay {xs : List Str} (h : ∀ x ∈ xs, (PyData.str x).canLay0 = true) : ∀ d ∈ xs.map PyData.str, d.canLay0 = true ∧ d.depth ≤ 0 := fun d hd => by
  obtain ⟨x, hx, rfl⟩ := List.mem_map.mp hd
  exact ⟨h x hx, Nat.le_refl _⟩
/-- what follows a test is shown once, from Mid -/
def tMidT (t : TT) : TT := fun σ H Q => ∃ Mid : Bool → Hp → Prop, t σ H Mid ∧ ∀ b H', Mid b H' → Q b H'
theorem pt_mid {X : Cx} {e : Expr} {t : TT} (h : PT X e t) : PT X e (tMidT t) := by
  refine ⟨fun pins s σ H Q I ⟨Mid, hm, hq⟩ => thn (h.run pins s σ H Mid I hm) fun b s1 ⟨H1, I1, q1⟩ => ⟨H1, I1, hq b H1 q1⟩⟩
theorem pw_mid {X : Cx} {e : Expr} {t : TT} (h : PW X e t) : PW X e (tMidT t) := by
  refine ⟨fun wh pins s σ H Q I ⟨Mid, hm, hq⟩ => thn (h.run wh pins s σ H Mid I hm) fun b s1 ⟨H1, I1, q1⟩ => ⟨H1, I1, hq b H1 q1⟩⟩
theorem hu65 {A : Around} {k : Nat} (hr : Room k A) : A.units + 65 < cLine := by have := hr.un; omega
end GX

-- text K6C
set_option maxRecDepth 100000
set_option maxHeartbeats 4000000
namespace K6
open PySem PySem.Spec PyProof.Rows L2 LamX GX
section
variable {P : Program} {w : World} {K : PySem.W.Frag} {mg : Str → Option Value} {base : Heap}
/-! ### what the relay does, in plain words -/
def inK {α : Type} (cs : SD α) (n : Str) : Bool := (look cs n).isSome
def linked (ls : List (Str × Str)) (a b : Str) : Bool := decide ((a, b) ∈ ls) || decide ((b, a) ∈ ls)
def nearP (ls : List (Str × Str)) (fog : SD Int) (n o : Str) : Bool := linked ls n o && (!inK fog n && !inK fog o)
def nearF (ts : List Str) (ls : List (Str × Str)) (fog : SD Int) (n : Str) : List Str := ts.filter (nearP ls fog n)
theorem inK_iff {α : Type} {cs : SD α} {n : Str} : inK cs n = true ↔ n ∈ cs.map (·.1) := by
  unfold inK
  constructor
  · intro h
    by_cases hm : n ∈ cs.map (·.1)
    · exact hm
    · rw [look_none hm] at h; cases h
  · intro h
    obtain ⟨v, e, _⟩ := look_mem h
    rw [e]; rfl
def lkD (p : Str × Str) : PyData := .tuple [.str p.1, .str p.2]
theorem any_lk (q : Str × Str) : ∀ L : List (Str × Str), ((L.map lkD).any fun z => PyData.eqv z (lkD q)) = decide (q ∈ L)
  | [] => rfl
  | x :: r => by
    have e : PyData.eqv (lkD x) (lkD q) = decide (x = q) := by
      show PyData.eqvAll ([x.1, x.2].map PyData.str) ([q.1, q.2].map PyData.str) = _
      rw [eqv_strs]
      exact decide_eq_decide.mpr ⟨fun h => Prod.ext (List.cons.inj h).1 (List.cons.inj (List.cons.inj h).2).1, fun h => by rw [h]⟩
    rw [List.map_cons, List.any_cons, any_lk q r, e]
    by_cases h : x = q
    · subst h; simp
    · have h2 : ¬ q = x := fun z => h z.symm
      simp [h, h2]
theorem lay_lk {p : Str × Str} (h1 : (PyData.str p.1).canLay0 = true) (h2 : (PyData.str p.2).canLay0 = true) : (lkD p).canLay0 = true ∧ (lkD p).depth ≤ 1 := lay_tuple (n := 0) fun d hd => by
  simp only [List.mem_cons, List.not_mem_nil, or_false] at hd
  rcases hd with rfl | rfl
  · exact ⟨h1, Nat.le_refl _⟩
  · exact ⟨h2, Nat.le_refl _⟩
theorem dp_lk {H : Hp} : ∀ {L : List (Addr × Str × Str)}, (∀ x ∈ L, H x.1 = some (.tup [.str x.2.1, .str x.2.2])) → DpAll K H (L.map rf) ((L.map (·.2)).map lkD)
  | [], _ => .nil
  | x :: r, h => .cons (.tup (SqT.of (h x List.mem_cons_self)) (.cons (.str _) (.cons (.str _) .nil))) (dp_lk fun y hy => h y (List.mem_cons_of_mem _ hy))
section
variable {B H : Hp} {r dx : Addr} {Z : Sta} {x : RA}
theorem Rel.atR (h : Rel K B H r dx Z x) : H r = some (.ins (aRl K) dx (relF Z x)) := h.at_ (r, _) (by unfold cells; exact List.mem_append_left _ (by simp))
theorem Rel.atFo (h : Rel K B H r dx Z x) : H x.fo = some (.dK (ents V.int x.fog)) := h.at_ (x.fo, _) (by unfold cells; exact List.mem_append_left _ (by simp))
theorem Rel.atMe (h : Rel K B H r dx Z x) : H x.me = some (.dK (ents rf x.ms)) := h.at_ (x.me, _) (by unfold cells; exact List.mem_append_left _ (by simp))
theorem Rel.atQs (h : Rel K B H r dx Z x) : H x.qs = some (.dK (ents rf x.qu)) := h.at_ (x.qs, _) (by unfold cells; exact List.mem_append_left _ (by simp))
theorem Rel.atBu (h : Rel K B H r dx Z x) : H x.bu = some (.dK (ents rf x.bz)) := h.at_ (x.bu, _) (by unfold cells; exact List.mem_append_left _ (by simp))
theorem Rel.atRo (h : Rel K B H r dx Z x) : H x.ro = some (.lst (x.rw.map rf)) := h.at_ (x.ro, _) (by unfold cells; exact List.mem_append_left _ (by simp))
theorem Rel.atMs (h : Rel K B H r dx Z x) {q : Str × Addr × Msg} (hq : q ∈ x.ms) : H q.2.1 = some (.lst (msgV q.2.2)) := h.at_ (q.2.1, _) (by unfold cells; exact List.mem_append_right _ (List.mem_append_left _ (List.mem_map.mpr ⟨q, hq, rfl⟩)))
theorem Rel.atQu (h : Rel K B H r dx Z x) {q : Str × Addr × List Str} (hq : q ∈ x.qu) : H q.2.1 = some (.lst (q.2.2.map V.str)) := h.at_ (q.2.1, _) (by unfold cells; exact List.mem_append_right _ (List.mem_append_right _ (List.mem_map.mpr ⟨q, hq, rfl⟩)))
theorem Rel.st (h : Rel K B H r dx Z x) : StaOk H Z := h.sta.to h.le
theorem sh_links {B : Hp} {Z : Sta} (h : StaOk B Z) : SeqAt.shaped (.tuple (Z.lp.map lkD)) = true := shaped_of (lay_tuple (n := 1) fun d hd => by
  obtain ⟨q, hq, rfl⟩ := List.mem_map.mp hd
  obtain ⟨y, hy, rfl⟩ := List.mem_map.mp hq
  exact lay_lk (h.lok y hy).1 (h.lok y hy).2) (by decide)
end
/-! ### check_tower, near -/
def spChk (K : PySem.W.Frag) : Sp := fun vs H Q E => ∃ B r dx Z x n, vs = [.ref r, .str n] ∧ Rel K B H r dx Z x ∧ (n ∈ Z.ts → Q .non H) ∧ (n ∉ Z.ts → ∀ H', Le (T K) H H' → E (.ref (aRE K)) none H')
theorem ok_chk (C : Ctx K mg base) : MetX P w K mg base 1 (aRl K) "check_tower" ["self", "name"] (spChk K) := by
  obtain ⟨fd, F⟩ := C.d.d_Relay_check_tower
  refine ⟨_, fd, ?_, F.funD.bindsN fun _ _ _ _ _ _ us hl => (match us, hl with | [_, _], _ => rfl), C.t.t_Relay_check_tower, C.t.c_Relay⟩
  refine F.ok sc_Relay_check_tower (fun vs H Q E h => ?_) (fun A outer s H vs Q E hr h => ?_)
  · obtain ⟨B, r, dx, Z, x, n, rfl, _⟩ := h
    rfl
  · obtain ⟨B, r, dx, Z, x, n, rfl, R, hy, hn⟩ := h
    obtain ⟨e1, e2, e3, e4⟩ := C.t.e_RelayError
    refine ⟨_, pss_one (ps_if (pt_cmpR op_notIn_seq (pv 1) (pe_fld (pv 0) rfl) rfl) (pss_one (ps_raise rfl takesA (pmk_own PySem.F.excBase_ValueError e1 C.t.m_RelayError e2 (raises_own e3 e4) (by rfl)))) pss_nil), ?_⟩
    refine ⟨_, rfl, _, rfl, r, _, dx, _, _, rfl, R.atR, C.t.c_Relay, C.t.a_Relay_towers, rfl, Z.tw, _, rfl, .inr (SqT.of R.st.tw), rfl, flat_strs' _, _, rfl, ?_⟩
    show (if (!inV (.str n) (Z.ts.map V.str)) = true then _ else _)
    rw [inV_strs]
    by_cases h : n ∈ Z.ts
    · rw [decide_eq_true h]
      exact iteF (hy h)
    · rw [decide_eq_false h]
      exact iteT (hn h _ (Le.refl R.tab))
def spNear (K : PySem.W.Frag) : Sp := fun vs H Q E => ∃ B r dx Z x n, vs = [.ref r, .str n] ∧ Rel K B H r dx Z x ∧ (n ∈ Z.ts → ∀ H' t, Le (T K) H H' → H t = none → H' t = some (.tup ((nearF Z.ts Z.lp x.fog n).map V.str)) → Q (.ref t) H') ∧ (n ∉ Z.ts → ∀ H', Le (T K) H H' → E (.ref (aRE K)) none H')
theorem ok_near (C : Ctx K mg base) : MetX P w K mg base 2 (aRl K) "near" ["self", "name"] (spNear K) := by
  obtain ⟨fd, F⟩ := C.d.d_Relay_near
  refine ⟨_, fd, ?_, F.funD.bindsN fun _ _ _ _ _ _ us hl => (match us, hl with | [_, _], _ => rfl), C.t.t_Relay_near, C.t.c_Relay⟩
  refine F.ok sc_Relay_near (fun vs H Q E h => ?_) (fun A outer s H vs Q E hr h => ?_)
  · obtain ⟨B, r, dx, Z, x, n, rfl, _⟩ := h
    rfl
  · obtain ⟨B, r, dx, Z, x, n, rfl, R, hq, hn⟩ := h
    have nn := sc_Relay_near.nd
    obtain ⟨fC, fdC, FC, bC, mC, cC⟩ := ok_chk (P := P) (w := w) C
    refine ⟨_, pss_cons (ps_expr (pe_meth (pv 0) cC mC FC (hr.mono (by decide)) bC .nil passA (pa_cons (pv 1) pa_nil)))
      (pss_cons (ps_set (i := 2) nn rfl (by first | exact Or.inl rfl | exact Or.inr rfl) (pe_lst pa_nil))
      (pss_cons (ps_for ownsA rfl (pi_tup (pe_fld (pv 0) rfl)) (pg_name (i := 3) nn rfl (by first | exact Or.inl rfl | exact Or.inr rfl))
        (pss_one (ps_if (pt_mid (PW.pt (pw_or (pt_cmpR (r := rInDT K) (op_inDT (hu65 hr)) (pe_tup (pa_cons (pv 1) (pa_cons (pv 3) pa_nil))) (pe_fld (pv 0) rfl) rfl) (pw_or1 (pt_cmpR (r := rInDT K) (op_inDT (hu65 hr)) (pe_tup (pa_cons (pv 3) (pa_cons (pv 1) pa_nil))) (pe_fld (pv 0) rfl) rfl)))))
          (pss_one (ps_if (PW.pt (pw_and (pt_cmp (pc_dnotin (hu_of hr) (pv 1) (pe_fld (pv 0) rfl))) (pw_and1 (pt_cmp (pc_dnotin (hu_of hr) (pv 3) (pe_fld (pv 0) rfl))))))
            (pss_one (ps_expr (pe_bm PySem.F.plainAttrs_list PySem.F.slot_list_append PySem.F.type_list_append mt_append (pv 2) (pa_cons (pv 3) pa_nil)))) pss_nil)) pss_nil)))
      (pss_one (ps_ret (pe_callTy call_tuple_of (by rfl) C.t.b_tuple (by decide +kernel) (pa_cons (pv 2) pa_nil)))))), ?_⟩
    refine ⟨_, rfl, r, dx, _, rfl, R.atR, rfl, _, rfl, B, r, dx, Z, x, n, rfl, R, fun hm => ?_, hn⟩
    refine ⟨by show 0 ≤ sizeLine; decide, fun f hf => ?_⟩
    have Z0 := R.st
    refine ⟨_, rfl, r, _, dx, _, _, rfl, (R.new hf).atR, C.t.c_Relay, C.t.a_Relay_towers, rfl, Z.tw, rfl, ⟨_, SqT.of (R.new hf).st.tw⟩, ?_⟩
    refine for_tup (xs := Z.ts.map V.str) (fun i σ H' => (∃ a3, σ = [some (.ref r), some (.str n), some (.ref f), a3]) ∧ Le (T K) H H' ∧ H' f = some (.lst (((Z.ts.take i).filter (nearP Z.lp x.fog n)).map V.str)))
      ⟨⟨_, rfl⟩, (Le.refl R.tab).new hf, upd_same⟩ (fun i σ H' _ hP => SqT.of (hP.2.1.at Z0.tw)) (fun i v σ H1 hv ⟨⟨a3, hσ⟩, L1, h1⟩ => ?_) (fun σ H1 ⟨⟨a3, hσ⟩, L1, h1⟩ => ?_)
    · subst hσ
      obtain ⟨o, ho, rfl⟩ := GX.get_map hv
      have hom := List.mem_of_getElem? ho
      have okn := Z0.ok n hm
      have oko := Z0.ok o hom
      have shL := sh_links Z0
      have esn : (Z.ts.take (i + 1)).filter (nearP Z.lp x.fog n) = (Z.ts.take i).filter (nearP Z.lp x.fog n) ++ (if nearP Z.lp x.fog n o = true then [o] else []) := by
        rw [GX.take_snoc ho, List.filter_append]
        by_cases e : nearP Z.lp x.fog n o = true
        · rw [if_pos e, List.filter_cons_of_pos e]; rfl
        · rw [if_neg e, List.filter_cons_of_neg e]; rfl
      have done : ∀ {H'}, Le (T K) H H' → H' f = some (.lst (((Z.ts.take i).filter (nearP Z.lp x.fog n)).map V.str)) → nearP Z.lp x.fog n o = false → H' f = some (.lst (((Z.ts.take (i + 1)).filter (nearP Z.lp x.fog n)).map V.str)) := fun {H'} _ h e => by
        rw [esn, e, if_neg (by decide), List.append_nil]; exact h
      refine ⟨fun b H' => b = linked Z.lp n o ∧ Le (T K) H H' ∧ H' f = some (.lst (((Z.ts.take i).filter (nearP Z.lp x.fog n)).map V.str)), ?_, ?_⟩
      · refine ⟨_, rfl, _, rfl, by show 2 ≤ sizeLine; decide, fun q hqn => ?_⟩
        have L2 := L1.new (o := .tup [.str n, .str o]) hqn
        have h2 := (upd_ne (o := .tup [.str n, .str o]) (ne_of_none h1 hqn)).trans h1
        have q2 : upd H1 q (.tup [.str n, .str o]) q = some (.tup [.str n, .str o]) := upd_same
        generalize upd H1 q (.tup [.str n, .str o]) = H2 at L2 h2 q2 ⊢
        have R2 := R.to L2
        refine ⟨_, rfl, r, _, dx, _, _, rfl, R2.atR, C.t.c_Relay, C.t.a_Relay_links, rfl, lkD (n, o), Z.lp.map lkD, .tup (SqT.of q2) (.cons (.str _) (.cons (.str _) .nil)), .tup (SqT.of R2.st.lk) (dp_lk R2.st.lt), shaped_of (lay_lk okn oko) (by decide), shL, _, rfl, ?_⟩
        rw [any_lk]
        by_cases c1 : (n, o) ∈ Z.lp
        · rw [decide_eq_true c1]
          exact iteT ⟨by unfold linked; rw [decide_eq_true c1]; rfl, L2, h2⟩
        · rw [decide_eq_false c1]
          refine iteF ⟨_, rfl, _, rfl, by show 2 ≤ sizeLine; decide, fun q' hqn' => ?_⟩
          have L3 := L2.new (o := .tup [.str o, .str n]) hqn'
          have h3 := (upd_ne (o := .tup [.str o, .str n]) (ne_of_none h2 hqn')).trans h2
          have q3 : upd H2 q' (.tup [.str o, .str n]) q' = some (.tup [.str o, .str n]) := upd_same
          generalize upd H2 q' (.tup [.str o, .str n]) = H3 at L3 h3 q3 ⊢
          have R3 := R.to L3
          refine ⟨_, rfl, r, _, dx, _, _, rfl, R3.atR, C.t.c_Relay, C.t.a_Relay_links, rfl, lkD (o, n), Z.lp.map lkD, .tup (SqT.of q3) (.cons (.str _) (.cons (.str _) .nil)), .tup (SqT.of R3.st.lk) (dp_lk R3.st.lt), shaped_of (lay_lk oko okn) (by decide), shL, _, rfl, ?_⟩
          rw [any_lk]
          exact ⟨by unfold linked; rw [decide_eq_false c1, Bool.false_or], L3, h3⟩
      rintro b H2 ⟨hb, L2, h2⟩
      subst hb
      have R2 := R.to L2
      have pe : nearP Z.lp x.fog n o = (linked Z.lp n o && (!inK x.fog n && !inK x.fog o)) := rfl
      cases hl : linked Z.lp n o with
      | false =>
        rw [hl] at pe
        exact iteF ⟨⟨_, rfl⟩, L2, done L2 h2 pe⟩
      | true =>
        rw [hl, Bool.true_and] at pe
        refine iteT ⟨_, rfl, _, rfl, r, _, dx, _, _, rfl, R2.atR, C.t.c_Relay, C.t.a_Relay_fog, rfl, x.fo, _, rfl, DGet.k (k := Sum.inr n) R2.atFo, _, rfl, ?_⟩
        rw [valV_ents, Option.isSome_map]
        show (if (!inK x.fog n) = true then _ else _)
        cases f1 : inK x.fog n with
        | true =>
          rw [f1] at pe
          exact iteF (iteF ⟨⟨_, rfl⟩, L2, done L2 h2 pe⟩)
        | false =>
          rw [f1] at pe
          refine iteT ⟨_, rfl, _, rfl, r, _, dx, _, _, rfl, R2.atR, C.t.c_Relay, C.t.a_Relay_fog, rfl, x.fo, _, rfl, DGet.k (k := Sum.inr o) R2.atFo, _, rfl, ?_⟩
          rw [valV_ents, Option.isSome_map]
          show (if (!inK x.fog o) = true then _ else _)
          cases f2 : inK x.fog o with
          | true =>
            rw [f2] at pe
            exact iteF ⟨⟨_, rfl⟩, L2, done L2 h2 pe⟩
          | false =>
            rw [f2] at pe
            have pe : nearP Z.lp x.fog n o = true := pe
            refine iteT ⟨_, rfl, .inl ⟨rfl, _, SqL.of h2⟩, _, rfl, f, _, _, rfl, rfl, h2, ?_, ⟨_, rfl⟩, L2.set hf h2, ?_⟩
            · rw [List.length_map]
              have h5 := List.length_filter_le (nearP Z.lp x.fog n) (Z.ts.take i)
              rw [List.length_take] at h5
              have := Z0.l60
              exact Nat.lt_of_le_of_lt (show _ ≤ 64 by omega) (by decide)
            · rw [upd_same, esn, pe, if_pos rfl, List.map_append]
              rfl
    · subst hσ
      rw [List.length_map, List.take_of_length_le (Nat.le_refl _)] at h1
      exact ⟨_, rfl, f, _, rfl, .inl ⟨SqL.of h1, fun t ht => hq hm _ _ (L1.new ht) (L1.no _ ht) upd_same⟩⟩
end
end K6

-- text K6D
set_option maxRecDepth 100000
set_option maxHeartbeats 4000000
namespace K6
open PySem PySem.Spec PyProof.Rows L2 LamX GX
section
variable {P : Program} {w : World} {K : PySem.W.Frag} {mg : Str → Option Value} {base : Heap}
/-! ### the first way of the fewest links, in plain words -/
def lastS (w : List Str) : Str := w.getLast?.getD ""
def exp1 (w : List Str) (st : List Str × List (List Str)) (o : Str) : List Str × List (List Str) := if o ∈ st.1 then st else (st.1 ++ [o], st.2 ++ [w ++ [o]])
def expW (nf : Str → List Str) (st : List Str × List (List Str)) (w : List Str) : List Str × List (List Str) := (nf (lastS w)).foldl (exp1 w) st
def routeF (nf : Str → List Str) (e : Str) : Nat → List (List Str) → List Str → Option (List Str)
  | 0, _, _ => none
  | k + 1, ways, seen =>
    match ways.find? fun w => decide (lastS w = e) with
    | some w => some w
    | none => routeF nf e k (ways.foldl (expW nf) (seen, [])).2 (ways.foldl (expW nf) (seen, [])).1
def routeL (ts : List Str) (nf : Str → List Str) (s e : Str) : Option (List Str) := routeF nf e (ts.length + 1) [[s]] [s]
theorem routeF_nil (nf : Str → List Str) (e : Str) : ∀ (k : Nat) (seen : List Str), routeF nf e k [] seen = none
  | 0, _ => rfl
  | k + 1, seen => by
    show routeF nf e k [] seen = none
    exact routeF_nil nf e k seen
theorem nodup_sub : ∀ {l m : List Str}, l.Nodup → (∀ x ∈ l, x ∈ m) → l.length ≤ m.length
  | [], _, _, _ => Nat.zero_le _
  | x :: r, m, nd, h => by
    obtain ⟨n1, n2⟩ := List.nodup_cons.mp nd
    have hx := h x List.mem_cons_self
    have ih := nodup_sub (m := m.erase x) n2 fun y hy => (List.mem_erase_of_ne (by intro z; subst z; exact n1 hy)).mpr (h y (List.mem_cons_of_mem _ hy))
    rw [List.length_erase_of_mem hx] at ih
    have := List.length_pos_of_mem hx
    rw [List.length_cons]
    omega
/-- a way from s -/
def Way (ts : List Str) (s : Str) (b : Nat) (w : List Str) : Prop := ∃ tl, w = s :: tl ∧ s ∉ tl ∧ (∀ n ∈ tl, n ∈ ts) ∧ w.length ≤ b
theorem Way.mono {ts : List Str} {s : Str} {b b' : Nat} {w : List Str} (h : Way ts s b w) (hb : b ≤ b') : Way ts s b' w := by
  obtain ⟨tl, a, c, d, e⟩ := h
  exact ⟨tl, a, c, d, Nat.le_trans e hb⟩
theorem Way.all {ts : List Str} {s : Str} {b : Nat} {w : List Str} (h : Way ts s b w) (hs : s ∈ ts) : ∀ n ∈ w, n ∈ ts := by
  obtain ⟨tl, rfl, _, d, _⟩ := h
  intro n hn
  rcases List.mem_cons.mp hn with rfl | hn
  · exact hs
  · exact d n hn
theorem Way.last {ts : List Str} {s : Str} {b : Nat} {w : List Str} (h : Way ts s b w) : ∃ p, w = p ++ [lastS w] := by
  obtain ⟨tl, rfl, _, d, _⟩ := h
  rcases List.eq_nil_or_concat (s :: tl) with z | ⟨p, l, z⟩
  · cases z
  · rw [List.concat_eq_append] at z
    refine ⟨p, ?_⟩
    rw [z]
    unfold lastS
    rw [List.getLast?_concat]
    rfl
theorem Way.lastIn {ts : List Str} {s : Str} {b : Nat} {w : List Str} (h : Way ts s b w) (hs : s ∈ ts) : lastS w ∈ ts := by
  obtain ⟨p, e⟩ := h.last
  exact h.all hs _ (by rw [e]; exact List.mem_append_right _ (by unfold lastS; rw [List.getLast?_concat]; exact List.mem_cons_self))
theorem Way.snoc {ts : List Str} {s o : Str} {b : Nat} {w : List Str} (h : Way ts s b w) (ho : o ∈ ts) (n : o ≠ s) : Way ts s (b + 1) (w ++ [o]) := by
  obtain ⟨tl, rfl, c, d, e⟩ := h
  refine ⟨tl ++ [o], rfl, fun z => ?_, fun m hm => ?_, by rw [List.length_append, List.length_singleton]; omega⟩
  · rcases List.mem_append.mp z with z | z
    · exact c z
    · exact n (List.mem_singleton.mp z).symm
  · rcases List.mem_append.mp hm with z | z
    · exact d m z
    · rw [List.mem_singleton.mp z]; exact ho
structure RtJ (ts : List Str) (s : Str) (c : Nat) (st : List Str × List (List Str)) : Prop where
  way : ∀ w ∈ st.2, Way ts s (c + 1) w
  nd : st.1.Nodup
  sub : ∀ n ∈ st.1, n ∈ ts
  sin : s ∈ st.1
  len : st.1.length = c + st.2.length
structure RtI (ts : List Str) (s : Str) (ways : List (List Str)) (seen : List Str) : Prop where
  way : ∀ w ∈ ways, Way ts s seen.length w
  nd : seen.Nodup
  sub : ∀ n ∈ seen, n ∈ ts
  sin : s ∈ seen
  len : ways.length ≤ seen.length
section
variable {ts : List Str} {s : Str} {c : Nat} {st : List Str × List (List Str)} {w : List Str} {nf : Str → List Str} {ways : List (List Str)} {seen : List Str}
theorem RtJ.step (h : RtJ ts s c st) (hw : Way ts s c w) {o : Str} (ho : o ∈ ts) : RtJ ts s c (exp1 w st o) := by
  unfold exp1
  split
  · exact h
  · rename_i hn
    refine ⟨fun v hv => ?_, ?_, fun n hm => ?_, List.mem_append_left _ h.sin, ?_⟩
    · rcases List.mem_append.mp hv with z | z
      · exact h.way v z
      · rw [List.mem_singleton.mp z]; exact hw.snoc ho (fun z => hn (z ▸ h.sin))
    · exact List.nodup_append.mpr ⟨h.nd, List.nodup_cons.mpr ⟨List.not_mem_nil, List.nodup_nil⟩, fun a ha b hb z => by
        rw [List.mem_singleton] at hb
        subst hb
        subst z
        exact hn ha⟩
    · rcases List.mem_append.mp hm with z | z
      · exact h.sub n z
      · rw [List.mem_singleton.mp z]; exact ho
    · show (st.1 ++ [o]).length = c + (st.2 ++ [w ++ [o]]).length
      rw [List.length_append, List.length_append, List.length_singleton, List.length_singleton, h.len]
      omega
theorem RtJ.steps (hw : Way ts s c w) : ∀ (os : List Str) (st : List Str × List (List Str)), RtJ ts s c st → (∀ o ∈ os, o ∈ ts) → RtJ ts s c (os.foldl (exp1 w) st)
  | [], _, h, _ => h
  | o :: r, st, h, ho => RtJ.steps hw r _ (h.step hw (ho o List.mem_cons_self)) fun x hx => ho x (List.mem_cons_of_mem _ hx)
theorem RtJ.waysF (hn : ∀ n, ∀ o ∈ nf n, o ∈ ts) : ∀ (ws : List (List Str)) (st : List Str × List (List Str)), RtJ ts s c st → (∀ w ∈ ws, Way ts s c w) → RtJ ts s c (ws.foldl (expW nf) st)
  | [], _, h, _ => h
  | w :: r, st, h, hw => RtJ.waysF hn r _ (RtJ.steps (hw w List.mem_cons_self) _ _ h (hn _)) fun x hx => hw x (List.mem_cons_of_mem _ hx)
theorem RtI.to (h : RtI ts s ways seen) : RtJ ts s seen.length (seen, []) := ⟨fun w hw => absurd hw List.not_mem_nil, h.nd, h.sub, h.sin, rfl⟩
theorem RtJ.to (h : RtJ ts s c st) (h0 : 1 ≤ c) : RtI ts s st.2 st.1 := ⟨fun w hw => (h.way w hw).mono (by
    have := h.len
    have := List.length_pos_of_mem hw
    omega), h.nd, h.sub, h.sin, by have := h.len; omega⟩
theorem RtI.one (hs : s ∈ ts) : RtI ts s [[s]] [s] := ⟨fun w hw => by
    rw [List.mem_singleton.mp hw]
    exact ⟨[], rfl, List.not_mem_nil, fun n hn => (absurd hn List.not_mem_nil), Nat.le_refl _⟩, List.nodup_cons.mpr ⟨List.not_mem_nil, List.nodup_nil⟩, fun n hn => by rw [List.mem_singleton.mp hn]; exact hs, List.mem_cons_self, Nat.le_refl _⟩
theorem RtI.pos (h : RtI ts s ways seen) : 1 ≤ seen.length := List.length_pos_of_mem h.sin
theorem RtI.le (h : RtI ts s ways seen) : seen.length ≤ ts.length := nodup_sub h.nd h.sub
theorem routeF_ok (hn : ∀ n, ∀ o ∈ nf n, o ∈ ts) {e : Str} : ∀ (k : Nat) (ways : List (List Str)) (seen : List Str), RtI ts s ways seen → ∀ w, routeF nf e k ways seen = some w → Way ts s ts.length w ∧ lastS w = e
  | 0, _, _, _, w, h => by cases h
  | k + 1, ways, seen, hi, w, h => by
    unfold routeF at h
    cases hf : ways.find? (fun w => decide (lastS w = e)) with
    | some v =>
      rw [hf] at h
      obtain rfl : v = w := Option.some.inj h
      exact ⟨(hi.way v (List.mem_of_find?_eq_some hf)).mono hi.le, by simpa using List.find?_some hf⟩
    | none =>
      rw [hf] at h
      exact routeF_ok hn k _ _ ((RtJ.waysF hn ways _ hi.to hi.way).to hi.pos) w h
theorem routeL_ok (hn : ∀ n, ∀ o ∈ nf n, o ∈ ts) (hs : s ∈ ts) {e : Str} {w : List Str} (h : routeL ts nf s e = some w) : Way ts s ts.length w ∧ lastS w = e := routeF_ok hn _ _ _ (RtI.one hs) w h
/-- the fuel does -/
theorem fuel_go {k : Nat} (h : RtI ts s ways seen) (hw : ways ≠ []) (hk : ways = [] ∨ ts.length + 1 ≤ seen.length + k) : ∃ j, k = j + 1 := by
  rcases hk with z | z
  · exact absurd z hw
  · have := h.le
    exact ⟨k - 1, by omega⟩
theorem fuel_next {k : Nat} (h : RtI ts s ways seen) (hj : RtJ ts s seen.length st) (hk : ts.length + 1 ≤ seen.length + (k + 1)) : st.2 = [] ∨ ts.length + 1 ≤ st.1.length + k := by
  by_cases z : st.2 = []
  · exact .inl z
  · have := List.length_pos_iff.mpr z
    have := hj.len
    exact .inr (by omega)
end
end
end K6

-- text K6E
set_option maxRecDepth 100000
set_option maxHeartbeats 4000000
namespace K6
open PySem PySem.Spec PyProof.Rows L2 LamX GX
section
variable {P : Program} {w : World} {K : PySem.W.Frag} {mg : Str → Option Value} {base : Heap}
/-! ### route -/
def unitS (seen : List Str) : SD Unit := seen.map fun n => (n, ())
abbrev blT : Unit → V := fun _ => .bl true
theorem unitS_keys (seen : List Str) : (unitS seen).map (·.1) = seen := by
  unfold unitS
  rw [List.map_map]
  exact List.map_id _
theorem unitS_snoc (seen : List Str) (n : Str) : unitS (seen ++ [n]) = unitS seen ++ [(n, ())] := by
  unfold unitS
  rw [List.map_append]
  rfl
def tupW (w : List Str) : PyData := .tuple (w.map PyData.str)
abbrev WA := Addr × List Str
def wAt (H : Hp) (ws : List WA) : Prop := ∀ y ∈ ws, H y.1 = some (.tup (y.2.map V.str))
theorem wAt.to {T : List (Addr × Str)} {H H' : Hp} {ws : List WA} (h : wAt H ws) (l : Le T H H') : wAt H' ws := fun y hy => l.at (h y hy)
theorem wAt.new {H : Hp} {ws : List WA} {p : Addr} {o : HO} (h : wAt H ws) (hp : H p = none) : wAt (upd H p o) ws := fun y hy => (upd_ne (ne_of_none (h y hy) hp)).trans (h y hy)
theorem wAt.lst {H : Hp} {ws : List WA} {p : Addr} {o : HO} {xs : List V} (h : wAt H ws) (hp : H p = some (.lst xs)) : wAt (upd H p o) ws := fun y hy => (upd_ne (fun z => by have := h y hy; rw [z, hp] at this; cases this)).trans (h y hy)
theorem wAt.dk {H : Hp} {ws : List WA} {p : Addr} {o : HO} {xs : List (L2.Key × V)} (h : wAt H ws) (hp : H p = some (.dK xs)) : wAt (upd H p o) ws := fun y hy => (upd_ne (fun z => by have := h y hy; rw [z, hp] at this; cases this)).trans (h y hy)
theorem dp_ways {H : Hp} : ∀ {ws : List WA}, wAt H ws → DpAll K H (ws.map rf) ((ws.map (·.2)).map tupW)
  | [], _ => .nil
  | x :: r, h => .cons (.tup (SqT.of (h x List.mem_cons_self)) (DpAll.strs _)) (dp_ways fun y hy => h y (List.mem_cons_of_mem _ hy))
theorem find_at {α : Type} {p : α → Bool} : ∀ {l : List α} {i : Nat} {a : α}, l[i]? = some a → (∀ y ∈ l.take i, p y = false) → p a = true → l.find? p = some a
  | [], _, _, h, _, _ => by cases h
  | x :: r, 0, a, h, _, ha => by
    obtain rfl : x = a := by simpa using h
    rw [List.find?_cons_of_pos ha]
  | x :: r, i + 1, a, h, hn, ha => by
    rw [List.find?_cons_of_neg (by rw [hn x (by simp)]; decide)]
    exact find_at (i := i) (by simpa using h) (fun y hy => hn y (by rw [List.take_succ_cons]; exact List.mem_cons_of_mem _ hy)) ha
/-- within a round -/
structure RtS (K : PySem.W.Frag) (H H' : Hp) (ed sd fr : Addr) (ws fs : List WA) (seen : List Str) : Prop where
  le : Le (T K) H H'
  hed : H' ed = some (.lst (ws.map rf))
  hsd : H' sd = some (.dK (ents blT (unitS seen)))
  hfr : H' fr = some (.lst (fs.map rf))
  w : wAt H' ws
  f : wAt H' fs
  sn : H sd = none
  fn : H fr = none
  ne : ed ≠ fr
section
variable {H H' H1 : Hp} {ed sd fr p : Addr} {ws fs : List WA} {seen : List Str} {o : HO}
theorem RtS.to (h : RtS K H H' ed sd fr ws fs seen) (l : Le (T K) H' H1) : RtS K H H1 ed sd fr ws fs seen := ⟨h.le.trans l, l.at h.hed, l.at h.hsd, l.at h.hfr, h.w.to l, h.f.to l, h.sn, h.fn, h.ne⟩
theorem RtS.new (h : RtS K H H' ed sd fr ws fs seen) (hp : H' p = none) : RtS K H (upd H' p o) ed sd fr ws fs seen := h.to ((Le.refl h.le.tab).new hp)
theorem RtS.put (h : RtS K H H' ed sd fr ws fs seen) (n : Str) : RtS K H (upd H' sd (.dK (ents blT (unitS (seen ++ [n]))))) ed sd fr ws fs (seen ++ [n]) :=
  ⟨h.le.set h.sn h.hsd, (upd_ne (fun z => by have := h.hed; rw [z, h.hsd] at this; cases this)).trans h.hed, upd_same, (upd_ne (fun z => by have := h.hfr; rw [z, h.hsd] at this; cases this)).trans h.hfr, h.w.dk h.hsd, h.f.dk h.hsd, h.sn, h.fn, h.ne⟩
theorem RtS.app (h : RtS K H H' ed sd fr ws fs seen) {y : WA} (hy : H' y.1 = some (.tup (y.2.map V.str))) : RtS K H (upd H' fr (.lst ((fs ++ [y]).map rf))) ed sd fr ws (fs ++ [y]) seen :=
  ⟨h.le.set h.fn h.hfr, (upd_ne h.ne).trans h.hed, (upd_ne (fun z => by have := h.hsd; rw [z, h.hfr] at this; cases this)).trans h.hsd, upd_same, h.w.lst h.hfr, fun z hz => by
    have e : wAt H' (fs ++ [y]) := fun v hv => by
      rcases List.mem_append.mp hv with e | e
      · exact h.f v e
      · rw [List.mem_singleton.mp e]; exact hy
    exact e.lst h.hfr z hz, h.sn, h.fn, h.ne⟩
end
theorem lay_way {w : List Str} (h : ∀ n ∈ w, (PyData.str n).canLay0 = true) : (tupW w).canLay0 = true ∧ (tupW w).depth ≤ 1 := lay_tuple (names_lay h)
theorem sh_ways {ws : List (List Str)} (h : ∀ w ∈ ws, ∀ n ∈ w, (PyData.str n).canLay0 = true) : SeqAt.shaped (.list (ws.map tupW)) = true := shaped_of (n := 2) (lay_list fun d hd => by
  obtain ⟨r, hr, rfl⟩ := List.mem_map.mp hd
  exact lay_way (h r hr)) (by decide)
theorem eqv_nilL (ws : List PyData) : PyData.eqv (.list ws) (.list []) = decide (ws = []) := by
  cases ws with
  | nil => rfl
  | cons x r => rfl
def spRoute (K : PySem.W.Frag) : Sp := fun vs H Q E => ∃ B r dx Z x s e, vs = [.ref r, .str s, .str e] ∧ Rel K B H r dx Z x ∧
  (s ∈ Z.ts → e ∈ Z.ts → ∀ H', Le (T K) H H' → (routeL Z.ts (nearF Z.ts Z.lp x.fog) s e = none → Q .non H') ∧ ∀ t w, routeL Z.ts (nearF Z.ts Z.lp x.fog) s e = some w → H' t = some (.tup (w.map V.str)) → Q (.ref t) H') ∧
  (¬ (s ∈ Z.ts ∧ e ∈ Z.ts) → ∀ H', Le (T K) H H' → E (.ref (aRE K)) none H')
theorem ok_route (C : Ctx K mg base) : MetX P w K mg base 3 (aRl K) "route" ["self", "start", "end"] (spRoute K) := by
  obtain ⟨fd, F⟩ := C.d.d_Relay_route
  refine ⟨_, fd, ?_, F.funD.bindsN fun _ _ _ _ _ _ us hl => (match us, hl with | [_, _, _], _ => rfl), C.t.t_Relay_route, C.t.c_Relay⟩
  refine F.ok sc_Relay_route (fun vs H Q E h => ?_) (fun A outer s H vs Q E hr h => ?_)
  · obtain ⟨B, r, dx, Z, x, s, e, rfl, _⟩ := h
    rfl
  · obtain ⟨B, r, dx, Z, x, st, en, rfl, R, hq, hn⟩ := h
    have nn := sc_Relay_route.nd
    obtain ⟨fC, fdC, FC, bC, mC, cC⟩ := ok_chk (P := P) (w := w) C
    obtain ⟨fN, fdN, FN, bN, mN, cN⟩ := ok_near (P := P) (w := w) C
    refine ⟨_, pss_cons (ps_expr (pe_meth (pv 0) cC mC FC (hr.mono (by decide)) bC .nil passA (pa_cons (pv 1) pa_nil)))
      (pss_cons (ps_expr (pe_meth (pv 0) cC mC FC (hr.mono (by decide)) bC .nil passA (pa_cons (pv 2) pa_nil)))
      (pss_cons (ps_par (i := 3) (j := 4) (by rfl) nn rfl rfl (by decide) rfl rfl (pa_cons (pe_lst (pa_cons (pe_tup (pa_cons (pv 1) pa_nil)) pa_nil)) (pa_cons (pe_disp (pps_cons (pv 1) pe_bl pps_nil) (by rfl) (by rfl) (fun z => by cases z) (by decide)) pa_nil)) (by rfl))
      (pss_cons (ps_while ownsA (pt_cmpR (op_neD hr.units) (pv 3) (pe_lst pa_nil) (nomark _))
        (pss_cons (ps_set (i := 5) nn rfl (by first | exact Or.inl rfl | exact Or.inr rfl) (pe_lst pa_nil))
        (pss_cons (ps_for ownsA rfl (pi_list (pv 3)) (pg_name (i := 6) nn rfl (by first | exact Or.inl rfl | exact Or.inr rfl))
          (pss_cons (ps_if (pt_cmpR op_eq (pe_ix ix_tup (pv 6) (pe_un un_neg pe_int) (fun _ _ => rfl)) (pv 2) (nomark _)) (pss_one (ps_ret (pv 6))) pss_nil)
          (pss_one (ps_for ownsA rfl (pi_tup (pe_meth (pv 0) cN mN FN (hr.mono (by decide)) bN .nil passA (pa_cons (pe_ix ix_tup (pv 6) (pe_un un_neg pe_int) (fun _ _ => rfl)) pa_nil))) (pg_name (i := 7) nn rfl (by first | exact Or.inl rfl | exact Or.inr rfl))
            (pss_one (ps_if (pt_cmp (pc_dnotin (hu_of hr) (pv 7) (pv 4)))
              (pss_cons (ps_dput (hu_of hr) (pv 4) (pv 7) pe_bl (by rfl))
              (pss_one (ps_expr (pe_bm PySem.F.plainAttrs_list PySem.F.slot_list_append PySem.F.type_list_append mt_append (pv 5) (pa_cons (pe_op (r := rCatT K) op_catT (pv 6) (pe_tup (pa_cons (pv 7) pa_nil))) pa_nil))))) pss_nil))))))
        (pss_one (ps_set (i := 3) nn rfl (by first | exact Or.inl rfl | exact Or.inr rfl) (pv 5))))))
      (pss_one (ps_ret pe_non))))), ?_⟩
    refine ⟨_, rfl, r, dx, _, rfl, R.atR, rfl, _, rfl, B, r, dx, Z, x, st, rfl, R, fun hm => ?_, fun z => hn fun y => z y.1⟩
    refine ⟨_, rfl, r, dx, _, rfl, R.atR, rfl, _, rfl, B, r, dx, Z, x, en, rfl, R, fun hm2 => ?_, fun z => hn fun y => z y.2⟩
    have hq := hq hm hm2
    have Z0 := R.st
    have okn : ∀ {w : List Str} {b : Nat}, Way Z.ts st b w → ∀ n ∈ w, (PyData.str n).canLay0 = true := fun hw n hn' => Z0.ok n (hw.all hm n hn')
    have nfs : ∀ n, ∀ o ∈ nearF Z.ts Z.lp x.fog n, o ∈ Z.ts := fun n o ho => (List.mem_filter.mp ho).1
    generalize hnf : nearF Z.ts Z.lp x.fog = nf at hq nfs
    refine ⟨_, rfl, by show 1 ≤ sizeLine; decide, fun p hp => ⟨by show 1 ≤ sizeLine; decide, fun ed hed => ?_⟩⟩
    refine fun sd hsd => ⟨_, rfl, ?_⟩
    refine ⟨upd_same, [(Sum.inr st, .bl true)], rfl, (show 1 ≤ 15 by decide), ?_⟩
    refine ⟨_, _, rfl, ?_⟩
    rw [L2.upd_upd]
    generalize hRR : routeL Z.ts nf st en = RR at hq
    have W0 : ∃ ws : List WA, Le (T K) H (upd (upd (upd H p (.tup [.str st])) ed (.lst [.ref p])) sd (.dK (mergeK [] [(Sum.inr st, .bl true)]))) ∧ upd (upd (upd H p (.tup [.str st])) ed (.lst [.ref p])) sd (.dK (mergeK [] [(Sum.inr st, .bl true)])) ed = some (.lst (ws.map rf)) ∧ upd (upd (upd H p (.tup [.str st])) ed (.lst [.ref p])) sd (.dK (mergeK [] [(Sum.inr st, .bl true)])) sd = some (.dK (ents blT (unitS [st]))) ∧ wAt (upd (upd (upd H p (.tup [.str st])) ed (.lst [.ref p])) sd (.dK (mergeK [] [(Sum.inr st, .bl true)]))) ws ∧ ws.map (·.2) = [[st]] := by
      refine ⟨[(p, [st])], (((Le.refl R.tab).new hp).new hed).new hsd, (upd_ne (ne_of_none upd_same hsd)).trans upd_same, upd_same, fun y hy => ?_, rfl⟩
      rw [List.mem_singleton.mp hy]
      have hp1 : upd H p (.tup [.str st]) p = some (.tup [.str st]) := upd_same
      exact (upd_ne (ne_of_none ((upd_ne (ne_of_none hp1 hed)).trans hp1) hsd)).trans ((upd_ne (ne_of_none hp1 hed)).trans hp1)
    have hsdH : H sd = none := ((Le.refl R.tab).new hp).new hed |>.no _ hsd
    obtain ⟨ws0, L0, he0, hs0, hw0, ews0⟩ := W0
    generalize upd (upd (upd H p (.tup [.str st])) ed (.lst [.ref p])) sd (.dK (mergeK [] [(Sum.inr st, .bl true)])) = H0 at L0 he0 hs0 hw0 ⊢
    clear hp hed hsd
    refine ⟨fun n σ H' => ∃ (ed : Addr) (ws : List WA) (seen : List Str) (a5 a6 a7 : Option V), σ = [some (.ref r), some (.str st), some (.str en), some (.ref ed), some (.ref sd), a5, a6, a7] ∧ Le (T K) H H' ∧ H' ed = some (.lst (ws.map rf)) ∧ H' sd = some (.dK (ents blT (unitS seen))) ∧ wAt H' ws ∧
      RtI Z.ts st (ws.map (·.2)) seen ∧ (ws.map (·.2) = [] ∨ Z.ts.length + 1 ≤ seen.length + n) ∧ routeF nf en n (ws.map (·.2)) seen = RR, ⟨Z.ts.length + 1, ed, ws0, [st], none, none, none, rfl, L0, he0, hs0, hw0, by rw [ews0]; exact RtI.one hm, .inr (by simp), by rw [ews0]; exact hRR⟩, ?_⟩
    clear L0 he0 hs0 hw0 ews0 ws0 H0 hRR
    rintro n σ H1 ⟨ed, ws, seen, a5, a6, a7, rfl, L1, he1, hs1, hw1, I, hk, hR⟩
    refine ⟨_, rfl, by show 0 ≤ sizeLine; decide, fun e he => ⟨.list ((ws.map (·.2)).map tupW), .list [], .lst (SqL.of ((upd_ne (ne_of_none he1 he)).trans he1)) (dp_ways (hw1.new he)), .lst (SqL.of upd_same) .nil, sh_ways (fun w hw => okn (I.way w hw)), rfl, _, rfl, ?_⟩⟩
    rw [eqv_nilL]
    have L2 := L1.new (o := .lst []) he
    have he2 := (upd_ne (o := .lst []) (ne_of_none he1 he)).trans he1
    have hs2 := (upd_ne (o := .lst []) (ne_of_none hs1 he)).trans hs1
    have hw2 := hw1.new (o := .lst []) he
    clear L1 he1 hs1 hw1
    generalize upd H1 e (.lst []) = H2 at L2 he2 hs2 hw2 ⊢
    by_cases hws : ws = []
    · subst hws
      refine iteF ?_
      have hR : routeF nf en n [] seen = RR := hR
      rw [routeF_nil] at hR
      exact (hq _ L2).1 hR.symm
    · refine iteDN (by simpa using hws) ?_
      obtain ⟨n, rfl⟩ := fuel_go I (by simpa using hws) hk
      have hk : Z.ts.length + 1 ≤ seen.length + (n + 1) := by
        rcases hk with z | z
        · exact absurd z (by simpa using hws)
        · exact z
      refine ⟨fun σ' H' => ∃ m, m < n + 1 ∧ ∃ (ed : Addr) (ws : List WA) (seen : List Str) (a5 a6 a7 : Option V), σ' = [some (.ref r), some (.str st), some (.str en), some (.ref ed), some (.ref sd), a5, a6, a7] ∧ Le (T K) H H' ∧ H' ed = some (.lst (ws.map rf)) ∧ H' sd = some (.dK (ents blT (unitS seen))) ∧ wAt H' ws ∧
        RtI Z.ts st (ws.map (·.2)) seen ∧ (ws.map (·.2) = [] ∨ Z.ts.length + 1 ≤ seen.length + m) ∧ routeF nf en m (ws.map (·.2)) seen = RR, fun _ _ h => h, ?_⟩
      refine ⟨by show 0 ≤ sizeLine; decide, fun fr hfr => ?_⟩
      have S2 : RtS K H (upd H2 fr (.lst [])) ed sd fr ws [] seen := ⟨L2.new hfr, (upd_ne (ne_of_none he2 hfr)).trans he2, (upd_ne (ne_of_none hs2 hfr)).trans hs2, upd_same, hw2.new hfr, fun y hy => absurd hy List.not_mem_nil, hsdH, L2.no _ hfr, ne_of_none he2 hfr⟩
      clear L2 he2 hs2 hw2 
      generalize upd H2 fr (.lst []) = H3 at S2 ⊢
      refine ⟨_, rfl, ed, rfl, ⟨_, SqL.of S2.hed⟩, ?_⟩
      have J0 := I.to
      have wl : ws.length ≤ 60 := by
        have h1 := I.len
        have h2 := I.le
        rw [List.length_map] at h1
        have := Z0.l60
        omega
      refine for_list (xs := ws.map rf) (fun i σ H' => (∃ a6 a7, σ = [some (.ref r), some (.str st), some (.str en), some (.ref ed), some (.ref sd), some (.ref fr), a6, a7]) ∧ ∃ fs seen', RtS K H H' ed sd fr ws fs seen' ∧ ((ws.map (·.2)).take i).foldl (expW nf) (seen, []) = (seen', fs.map (·.2)) ∧ ∀ y ∈ (ws.map (·.2)).take i, lastS y ≠ en)
        ⟨⟨_, _, rfl⟩, [], seen, S2, rfl, fun y hy => absurd hy List.not_mem_nil⟩ (fun i σ H' _ ⟨_, fs, seen', S, _⟩ => SqL.of S.hed) (fun i v σ H4 hv ⟨⟨a6, a7, hσ⟩, fs, seen', S4, ef, nl⟩ => ?_) (fun σ H4 ⟨⟨a6, a7, hσ⟩, fs, seen', S4, ef, nl⟩ => ?_)
      · subst hσ
        obtain ⟨y, hy, rfl⟩ := GX.get_map hv
        have hyw := List.mem_of_getElem? hy
        have Wy := I.way y.2 (List.mem_map.mpr ⟨y, hyw, rfl⟩)
        have hy2 : (ws.map (·.2))[i]? = some y.2 := by rw [List.getElem?_map, hy]; rfl
        obtain ⟨pp, ep0⟩ := Wy.last
        have J4 : RtJ Z.ts st seen.length (seen', fs.map (·.2)) := by
          rw [← ef]
          exact RtJ.waysF nfs _ _ J0 fun w hw => I.way w (List.mem_of_mem_take hw)
        have atl : atI (y.2.map V.str) (-1) = some (V.str (lastS y.2)) := by
          rw [ep0, List.map_append]
          have e : lastS (pp ++ [lastS y.2]) = lastS y.2 := by rw [← ep0]
          rw [e]
          exact atI_last _ _
        have esn : ((ws.map (·.2)).take (i + 1)).foldl (expW nf) (seen, []) = expW nf (seen', fs.map (·.2)) y.2 := by
          rw [GX.take_snoc hy2, List.foldl_append, ef]
          rfl
        refine ⟨_, rfl, _, rfl, y.1, _, _, _, rfl, rfl, SqT.of (S4.w y hyw), atl, _, rfl, rfl, _, rfl, ?_⟩
        show (if decide (V.str (lastS y.2) = V.str en) = true then _ else _)
        by_cases c : lastS y.2 = en
        · refine iteDT (congrArg V.str c) ⟨_, rfl, ?_⟩
          refine (hq _ S4.le).2 y.1 y.2 ?_ (S4.w y hyw)
          unfold routeF at hR
          rw [find_at hy2 (fun z hz => decide_eq_false (nl z hz)) (decide_eq_true c)] at hR
          exact hR.symm
        · refine iteDF (fun z => c (by injection z)) ?_
          have hl : lastS y.2 ∈ Z.ts := Wy.lastIn hm
          refine ⟨_, rfl, r, dx, _, rfl, (R.to S4.le).atR, rfl, _, rfl, _, rfl, y.1, _, _, _, rfl, rfl, SqT.of (S4.w y hyw), atl, B, r, dx, Z, x, lastS y.2, rfl, R.to S4.le, fun _ H5 t L5 ht h5 => ?_, fun z => absurd hl z⟩
          rw [hnf] at h5
          have S5 := S4.to L5
          clear S4 L5 ht
          refine ⟨t, rfl, ⟨_, SqT.of h5⟩, ?_⟩
          have nl' : ∀ z ∈ (ws.map (·.2)).take (i + 1), lastS z ≠ en := fun z hz => by
            rw [GX.take_snoc hy2] at hz
            rcases List.mem_append.mp hz with hz | hz
            · exact nl z hz
            · rw [List.mem_singleton.mp hz]; exact c
          refine for_tup (xs := (nf (lastS y.2)).map V.str) (fun j σ H' => (∃ a7, σ = [some (.ref r), some (.str st), some (.str en), some (.ref ed), some (.ref sd), some (.ref fr), some (rf y), a7]) ∧ ∃ fs' seen2, RtS K H H' ed sd fr ws fs' seen2 ∧ H' t = some (.tup ((nf (lastS y.2)).map V.str)) ∧ ((nf (lastS y.2)).take j).foldl (exp1 y.2) (seen', fs.map (·.2)) = (seen2, fs'.map (·.2)))
            ⟨⟨_, rfl⟩, fs, seen', S5, h5, rfl⟩ (fun j σ H' _ ⟨_, fs', seen2, S, h, _⟩ => SqT.of h) (fun j v σ H6 hv ⟨⟨a7, hσ⟩, fs', seen2, S6, h6, ej⟩ => ?_) (fun σ H6 ⟨⟨a7, hσ⟩, fs', seen2, S6, h6, ej⟩ => ?_)
          · subst hσ
            obtain ⟨o, ho, rfl⟩ := GX.get_map hv
            have hot := nfs _ _ (List.mem_of_getElem? ho)
            have J6 : RtJ Z.ts st seen.length (seen2, fs'.map (·.2)) := by
              rw [← ej]
              exact RtJ.steps Wy _ _ J4 fun z hz => nfs _ _ (List.mem_of_mem_take hz)
            have esj : ((nf (lastS y.2)).take (j + 1)).foldl (exp1 y.2) (seen', fs.map (·.2)) = exp1 y.2 (seen2, fs'.map (·.2)) o := by
              rw [GX.take_snoc ho, List.foldl_append, ej]
              rfl
            have s60 : seen2.length ≤ 60 := Nat.le_trans (nodup_sub J6.nd J6.sub) Z0.l60
            have f60 : fs'.length ≤ 60 := by
              have h1 := J6.len
              rw [List.length_map] at h1
              have h1 : seen2.length = seen.length + fs'.length := h1
              omega
            refine ⟨_, rfl, _, rfl, sd, _, rfl, DGet.k (k := Sum.inr o) S6.hsd, _, rfl, ?_⟩
            rw [valV_ents, Option.isSome_map]
            show (if (!inK (unitS seen2) o) = true then _ else _)
            by_cases ci : o ∈ seen2
            · rw [inK_iff.mpr (by rw [unitS_keys]; exact ci)]
              exact iteF ⟨⟨_, rfl⟩, fs', seen2, S6, h6, by rw [esj]; unfold exp1; rw [if_pos ci]⟩
            · have e0 : inK (unitS seen2) o = false := by
                rw [Bool.eq_false_iff]
                exact fun z => ci (by have := inK_iff.mp z; rwa [unitS_keys] at this)
              rw [e0]
              refine iteT ⟨_, rfl, _, rfl, sd, _, rfl, DPut.k (k := Sum.inr o) S6.hsd (by rw [ents_len]; unfold unitS; rw [List.length_map]; exact Nat.lt_of_le_of_lt s60 (by decide)), ?_⟩
              have ep : putK (ents blT (unitS seen2)) (Sum.inr o) (.bl true) = ents blT (unitS (seen2 ++ [o])) := by
                rw [unitS_snoc]
                exact put_ents blT (by rw [unitS_keys]; exact ci) ()
              rw [ep]
              have S7 := S6.put o
              have h7 := (upd_ne (o := .dK (ents blT (unitS (seen2 ++ [o])))) (fun z : t = sd => by rw [z, S6.hsd] at h6; cases h6)).trans h6
              generalize upd H6 sd (.dK (ents blT (unitS (seen2 ++ [o])))) = H7 at S7 h7 ⊢
              clear S6 h6
              refine ⟨_, rfl, .inl ⟨rfl, _, SqL.of S7.hfr⟩, _, rfl, _, rfl, by show 1 ≤ sizeLine; decide, fun q hqn => ?_⟩
              have S8 := S7.new (o := .tup [.str o]) hqn
              have h8 := (upd_ne (o := .tup [.str o]) (ne_of_none h7 hqn)).trans h7
              have q8 : upd H7 q (.tup [.str o]) q = some (.tup [.str o]) := upd_same
              generalize upd H7 q (.tup [.str o]) = H8 at S8 h8 q8 ⊢
              clear S7 h7
              have y60 : y.2.length ≤ 60 := by
                obtain ⟨tl, _, _, _, z⟩ := Wy
                have := I.le
                have := Z0.l60
                omega
              have yne : y.2.map V.str ≠ [] := fun z => by
                rw [ep0] at z
                simp at z
              refine ⟨y.1, q, _, _, rfl, rfl, SqT.of (S8.w y hyw), SqT.of q8, yne, ?_, (fun z => by cases z), fun _ u hu => ?_⟩
              · rw [List.length_map]
                exact Nat.le_trans (show y.2.length + 1 ≤ 61 by omega) (by decide)
              · have ew : y.2.map V.str ++ [V.str o] = (y.2 ++ [o]).map V.str := by rw [List.map_append]; rfl
                rw [ew]
                have S9 := S8.new (o := .tup ((y.2 ++ [o]).map V.str)) hu
                have h9 := (upd_ne (o := .tup ((y.2 ++ [o]).map V.str)) (ne_of_none h8 hu)).trans h8
                have u9 : upd H8 u (.tup ((y.2 ++ [o]).map V.str)) u = some (.tup ((y.2 ++ [o]).map V.str)) := upd_same
                generalize upd H8 u (.tup ((y.2 ++ [o]).map V.str)) = H9 at S9 h9 u9 ⊢
                refine ⟨fr, _, _, rfl, rfl, S9.hfr, by rw [List.length_map]; exact Nat.lt_of_le_of_lt f60 (by decide), ?_⟩
                have S10 := S9.app (y := (u, y.2 ++ [o])) u9
                refine ⟨⟨_, rfl⟩, fs' ++ [(u, y.2 ++ [o])], seen2 ++ [o], ?_, ?_, ?_⟩
                · rw [List.map_append] at S10
                  exact S10
                · exact (upd_ne (fun z : t = fr => by rw [z, S9.hfr] at h9; cases h9)).trans h9
                · rw [esj]
                  unfold exp1
                  rw [if_neg ci, List.map_append]
                  rfl
          · subst hσ
            rw [List.length_map, List.take_of_length_le (Nat.le_refl _)] at ej
            exact ⟨⟨_, _, rfl⟩, fs', seen2, S6, esn.trans ej, nl'⟩
      · subst hσ
        rw [List.length_map, List.take_of_length_le (by rw [List.length_map]; exact Nat.le_refl _)] at ef nl
        have J4 : RtJ Z.ts st seen.length (seen', fs.map (·.2)) := by
          rw [← ef]
          exact RtJ.waysF nfs _ _ J0 I.way
        refine ⟨_, rfl, n, Nat.lt_succ_self n, fr, fs, seen', _, _, _, rfl, S4.le, S4.hfr, S4.hsd, S4.f, J4.to I.pos, fuel_next I J4 hk, ?_⟩
        rw [← hR]
        show _ = match (ws.map (·.2)).find? fun w => decide (lastS w = en) with | some w => some w | none => _
        rw [List.find?_eq_none.mpr fun z hz => by rw [decide_eq_false (nl z hz)]; decide, ef]
end
end K6

-- text K6F
set_option maxRecDepth 100000
set_option maxHeartbeats 4000000
namespace K6
open PySem PySem.Spec PyProof.Rows L2 LamX GX
section
variable {P : Program} {w : World} {K : PySem.W.Frag} {mg : Str → Option Value} {base : Heap}
/-! ### the relay's doings in plain words -/
def setS {α : Type} (cs : SD α) (n : Str) (v : α) : SD α := if (cs.any fun p => decide (p.1 = n)) = true then cs.map (fun p => if p.1 = n then (p.1, v) else p) else cs ++ [(n, v)]
def delS {α : Type} (cs : SD α) (n : Str) : SD α := cs.filter fun p => decide (p.1 ≠ n)
section
variable {α β : Type} {cs a b : SD α} {n m : Str} {v u : α} {f : α → V}
theorem any_ents (n : Str) : ∀ cs : SD α, ((ents f cs).any fun kv => decide (kv.1 = (Sum.inr n : L2.Key))) = cs.any fun p => decide (p.1 = n)
  | [] => rfl
  | p :: r => by
    show (decide ((Sum.inr p.1 : L2.Key) = Sum.inr n) || (ents f r).any _) = (decide (p.1 = n) || r.any _)
    rw [any_ents n r]
    congr 1
    exact decide_eq_decide.mpr ⟨fun h => Sum.inr.inj h, fun h => by rw [h]⟩
theorem put_setS (cs : SD α) (n : Str) (v : α) : putK (ents f cs) (Sum.inr n) (f v) = ents f (setS cs n v) := by
  unfold putK setS
  rw [any_ents]
  split
  · unfold ents
    rw [List.map_map, List.map_map]
    apply List.map_congr_left
    intro p _
    show (if (Sum.inr p.1 : L2.Key) = Sum.inr n then _ else _) = _
    by_cases h : p.1 = n
    · rw [if_pos (by rw [h])]
      show _ = (fun p : Str × α => ((Sum.inr p.1 : L2.Key), f p.2)) (if p.1 = n then (p.1, v) else p)
      rw [if_pos h]
    · rw [if_neg (fun z => h (Sum.inr.inj z))]
      show _ = (fun p : Str × α => ((Sum.inr p.1 : L2.Key), f p.2)) (if p.1 = n then (p.1, v) else p)
      rw [if_neg h]
  · unfold ents
    rw [List.map_append]
    rfl
theorem drop_delS (cs : SD α) (n : Str) : dropK (ents f cs) (Sum.inr n) = ents f (delS cs n) := by
  unfold dropK delS ents
  rw [List.filter_map]
  congr 1
  apply List.filter_congr
  intro p _
  show decide ((Sum.inr p.1 : L2.Key) ≠ Sum.inr n) = decide (p.1 ≠ n)
  exact decide_eq_decide.mpr ⟨fun h z => h (by rw [z]), fun h z => h (Sum.inr.inj z)⟩
theorem any_iff : (cs.any fun p => decide (p.1 = n)) = true ↔ n ∈ cs.map (·.1) := by
  rw [List.any_eq_true]
  constructor
  · rintro ⟨p, hp, h⟩
    exact List.mem_map.mpr ⟨p, hp, of_decide_eq_true h⟩
  · intro h
    obtain ⟨p, hp, e⟩ := List.mem_map.mp h
    exact ⟨p, hp, decide_eq_true e⟩
theorem setS_new (h : n ∉ cs.map (·.1)) : setS cs n v = cs ++ [(n, v)] := by
  unfold setS
  rw [if_neg (fun z => h (any_iff.mp z))]
theorem map_id_of {γ : Type} {l : List γ} {g : γ → γ} (h : ∀ x ∈ l, g x = x) : l.map g = l := by
  conv => rhs; rw [← List.map_id l]
  exact List.map_congr_left h
theorem setS_mid (ha : n ∉ a.map (·.1)) (hb : n ∉ b.map (·.1)) : setS (a ++ (n, v) :: b) n u = a ++ (n, u) :: b := by
  have no : ∀ {l : SD α}, n ∉ l.map (·.1) → l.map (fun p => if p.1 = n then (p.1, u) else p) = l := fun {l} h => map_id_of fun p hp => if_neg fun z => h (List.mem_map.mpr ⟨p, hp, z⟩)
  unfold setS
  rw [if_pos (any_iff.mpr (by simp)), List.map_append, List.map_cons, no ha, no hb]
  show a ++ (if n = n then (n, u) else (n, v)) :: b = _
  rw [if_pos rfl]
theorem delS_no (h : n ∉ cs.map (·.1)) : delS cs n = cs := by
  unfold delS
  rw [List.filter_eq_self]
  exact fun p hp => decide_eq_true fun z => h (List.mem_map.mpr ⟨p, hp, z⟩)
theorem delS_mid (ha : n ∉ a.map (·.1)) (hb : n ∉ b.map (·.1)) : delS (a ++ (n, v) :: b) n = a ++ b := by
  have e1 := delS_no ha
  have e2 := delS_no hb
  unfold delS at e1 e2 ⊢
  rw [List.filter_append, List.filter_cons_of_neg (by simp), e1, e2]
theorem look_split (nd : (cs.map (·.1)).Nodup) (h : look cs n = some v) : ∃ a b, cs = a ++ (n, v) :: b ∧ n ∉ a.map (·.1) ∧ n ∉ b.map (·.1) := by
  have hm : n ∈ cs.map (·.1) := inK_iff.mp (by unfold inK; rw [h]; rfl)
  obtain ⟨u, e, hu⟩ := look_mem hm
  rw [h] at e
  obtain rfl := Option.some.inj e
  obtain ⟨a, b, rfl⟩ := List.append_of_mem hu
  refine ⟨a, b, rfl, fun z => ?_, fun z => ?_⟩
  · rw [List.map_append, List.map_cons] at nd
    exact (List.nodup_append.mp nd).2.2 _ z _ List.mem_cons_self rfl
  · rw [List.map_append, List.map_cons] at nd
    exact (List.nodup_cons.mp (List.nodup_append.mp nd).2.1).1 z
theorem set_setS (nd : (cs.map (·.1)).Nodup) {j : Nat} (h : cs[j]? = some (n, v)) : cs.set j (n, u) = setS cs n u := by
  unfold setS
  have hm := List.mem_of_getElem? h
  rw [if_pos (any_iff.mpr (List.mem_map.mpr ⟨_, hm, rfl⟩))]
  apply List.ext_getElem?
  intro i
  rw [List.getElem?_map]
  obtain ⟨hj, hje⟩ := List.getElem?_eq_some_iff.mp h
  by_cases hi : j = i
  · subst hi
    rw [List.getElem?_set_self hj, h]
    show _ = some (if n = n then (n, u) else (n, v))
    rw [if_pos rfl]
  · rw [List.getElem?_set_ne hi]
    cases hc : cs[i]? with
    | none => rfl
    | some p =>
      obtain ⟨hil, hie⟩ := List.getElem?_eq_some_iff.mp hc
      show some p = some (if p.1 = n then (p.1, u) else p)
      rw [if_neg]
      intro z
      have e1 : (cs.map (·.1))[i]'(by rw [List.length_map]; exact hil) = (cs.map (·.1))[j]'(by rw [List.length_map]; exact hj) := by
        rw [List.getElem_map, List.getElem_map, hie, hje]
        exact z
      exact hi ((List.getElem_inj nd).mp e1).symm
theorem look_get (h : look cs n = some v) : ∃ j : Nat, cs[j]? = some (n, v) := by
  have hm : n ∈ cs.map (·.1) := inK_iff.mp (by unfold inK; rw [h]; rfl)
  obtain ⟨u, e, hu⟩ := look_mem hm
  rw [h] at e
  obtain rfl := Option.some.inj e
  obtain ⟨j, hj, e⟩ := List.mem_iff_getElem.mp hu
  exact ⟨j, List.getElem?_eq_some_iff.mpr ⟨hj, e⟩⟩
theorem look_in (h : look cs n = some v) : (n, v) ∈ cs := by
  obtain ⟨j, e⟩ := look_get h
  exact List.mem_of_getElem? e
theorem look_map {g : α → β} (n : Str) : ∀ cs : SD α, look (cs.map fun p => (p.1, g p.2)) n = (look cs n).map g
  | [] => rfl
  | p :: r => by
    unfold look
    rw [List.map_cons]
    by_cases h : p.1 = n
    · rw [List.find?_cons_of_pos (by simpa using h), List.find?_cons_of_pos (by simpa using h)]
      rfl
    · rw [List.find?_cons_of_neg (by simpa using h), List.find?_cons_of_neg (by simpa using h)]
      exact look_map n r
theorem look_cons (p : Str × α) (r : SD α) : look (p :: r) n = if p.1 = n then some p.2 else look r n := by
  unfold look
  by_cases h : p.1 = n
  · rw [List.find?_cons_of_pos (by simpa using h), if_pos h]
    rfl
  · rw [List.find?_cons_of_neg (by simpa using h), if_neg h]
theorem look_app : ∀ a b : SD α, look (a ++ b) n = (look a n).or (look b n)
  | [], _ => rfl
  | p :: r, b => by
    rw [List.cons_append, look_cons, look_cons, look_app r b]
    split <;> rfl
theorem look_setS : ∀ cs : SD α, look (setS cs n v) m = if m = n then some v else look cs m := by
  intro cs
  have mp : ∀ l : SD α, look (l.map fun p => if p.1 = n then (p.1, v) else p) m = if m = n then (if n ∈ l.map (·.1) then some v else none) else look l m := by
    intro l
    induction l with
    | nil => split <;> rfl
    | cons p r ih =>
      rw [List.map_cons, look_cons, look_cons, ih]
      by_cases h : p.1 = n
      · rw [if_pos h]
        by_cases h2 : m = n
        · rw [if_pos (by rw [h2]; exact h), if_pos h2, if_pos (by rw [← h]; exact List.mem_cons_self)]
        · rw [if_neg (by rw [h]; exact fun z => h2 z.symm), if_neg h2, if_neg h2]
          rw [if_neg (by rw [h]; exact fun z => h2 z.symm)]
      · rw [if_neg h]
        by_cases h2 : m = n
        · rw [if_neg (by rw [h2]; exact h), if_pos h2, if_pos h2]
          rw [List.map_cons]
          by_cases h3 : n ∈ r.map (·.1)
          · rw [if_pos h3, if_pos (List.mem_cons_of_mem _ h3)]
          · rw [if_neg h3, if_neg (fun z => by
              rcases List.mem_cons.mp z with z | z
              · exact h z.symm
              · exact h3 z)]
        · rw [if_neg h2, if_neg h2]
  unfold setS
  split
  · rename_i h
    rw [mp, if_pos (any_iff.mp h)]
  · rename_i h
    rw [look_app, look_cons]
    by_cases h2 : m = n
    · subst h2
      rw [look_none (fun z => h (any_iff.mpr z)), if_pos rfl, if_pos rfl]
      rfl
    · rw [if_neg (fun z => h2 z.symm), if_neg h2]
      show (look cs m).or none = _
      cases look cs m <;> rfl
theorem look_delS : ∀ cs : SD α, look (delS cs n) m = if m = n then none else look cs m
  | [] => by split <;> rfl
  | p :: r => by
    have ih := look_delS r
    unfold delS at ih ⊢
    by_cases h : p.1 = n
    · rw [List.filter_cons_of_neg (by simpa using h), ih, look_cons]
      by_cases h2 : m = n
      · rw [if_pos h2, if_pos h2]
      · rw [if_neg h2, if_neg h2, if_neg (by rw [h]; exact fun z => h2 z.symm)]
    · rw [List.filter_cons_of_pos (by simpa using h), look_cons, look_cons, ih]
      by_cases h3 : p.1 = m
      · rw [if_pos h3, if_neg (by rw [← h3]; exact h), if_pos h3]
      · rw [if_neg h3, if_neg h3]
theorem keys_setS : (setS cs n v).map (·.1) = if n ∈ cs.map (·.1) then cs.map (·.1) else cs.map (·.1) ++ [n] := by
  unfold setS
  by_cases h : n ∈ cs.map (·.1)
  · rw [if_pos (any_iff.mpr h), if_pos h, List.map_map]
    apply List.map_congr_left
    intro p _
    show (if p.1 = n then (p.1, v) else p).1 = p.1
    split <;> rfl
  · rw [if_neg (fun z => h (any_iff.mp z)), if_neg h, List.map_append]
    rfl
theorem keys_old (h : n ∈ cs.map (·.1)) : (setS cs n v).map (·.1) = cs.map (·.1) := by rw [keys_setS, if_pos h]
theorem nodup_setS (nd : (cs.map (·.1)).Nodup) : ((setS cs n v).map (·.1)).Nodup := by
  rw [keys_setS]
  split
  · exact nd
  · rename_i h
    exact List.nodup_append.mpr ⟨nd, List.nodup_cons.mpr ⟨List.not_mem_nil, List.nodup_nil⟩, fun x hx y hy z => by
      rw [List.mem_singleton] at hy
      exact h (by rw [← hy, ← z]; exact hx)⟩
theorem nodup_delS (nd : (cs.map (·.1)).Nodup) : ((delS cs n).map (·.1)).Nodup := nd.sublist ((List.filter_sublist).map _)
theorem keys_delS : ∀ cs : SD α, (delS cs n).map (·.1) = (cs.map (·.1)).filter fun m => decide (m ≠ n) := fun cs => by
  unfold delS
  rw [List.filter_map]
  rfl
end
theorem drop1_look {α : Type} (cs : SD (Addr × α)) (n : Str) : look (drop1 cs) n = (look cs n).map (·.2) := look_map n cs
theorem drop1_set {α : Type} (cs : SD (Addr × α)) (n : Str) (p : Addr) (v : α) : drop1 (setS cs n (p, v)) = setS (drop1 cs) n v := by
  have e : ∀ cs : SD (Addr × α), ((drop1 cs).any fun p => decide (p.1 = n)) = cs.any fun p => decide (p.1 = n) := fun cs => by
    unfold drop1
    rw [List.any_map]
    rfl
  unfold setS
  rw [e]
  split
  · unfold drop1
    rw [List.map_map, List.map_map]
    apply List.map_congr_left
    intro q _
    show (fun p : Str × Addr × α => (p.1, p.2.2)) (if q.1 = n then (q.1, p, v) else q) = if q.1 = n then (q.1, v) else (q.1, q.2.2)
    split <;> rfl
  · unfold drop1
    rw [List.map_append]
    rfl
theorem drop1_del {α : Type} (cs : SD (Addr × α)) (n : Str) : drop1 (delS cs n) = delS (drop1 cs) n := by
  unfold drop1 delS
  rw [List.filter_map]
  rfl
theorem drop1_keys {α : Type} (cs : SD (Addr × α)) : (drop1 cs).map (·.1) = cs.map (·.1) := by
  unfold drop1
  rw [List.map_map]
  rfl
theorem drop1_len {α : Type} (cs : SD (Addr × α)) : (drop1 cs).length = cs.length := by unfold drop1; rw [List.length_map]
def uOf (ms : SD Msg) (n : Str) : Bool := match look ms n with | some m => m.u | none => false
def eOf (ms : SD Msg) (n : Str) : Str := match look ms n with | some m => m.e | none => ""
def nOf (ms : SD Msg) (n : Str) : Int := match look ms n with | some m => m.n | none => 0
def qOf (qu : SD (List Str)) (t : Str) : List Str := (look qu t).getD []
def placeF (ms : SD Msg) (q : List Str) : Nat := (q.reverse.dropWhile fun n => !uOf ms n).length
def insQ (q : List Str) (k : Nat) (n : Str) : List Str := q.take k ++ [n] ++ q.drop k
def waitQ (ms : SD Msg) (q : List Str) (n : Str) : List Str := insQ q (if uOf ms n then placeF ms q else q.length) n
def RS.wait (x : RS) (n t : Str) : RS := { x with qu := setS x.qu t (waitQ x.ms (qOf x.qu t) n) }
def RS.free (x : RS) (t o : Str) : RS := { x with bz := delS (delS x.bz t) o }
def RS.row (x : RS) (what t n : Str) : RS := { x with rw := x.rw ++ [(x.mi, what, t, n)] }
def thMsg (ms : SD Msg) (n : Str) : SD Msg := match look ms n with | some m => setS ms n { m with th := true } | none => ms
def RS.goOn (x : RS) (t : Str) : RS :=
  match look x.bz t with
  | some (n, some o, l) =>
    if (inK x.fog t || inK x.fog o) = true then ({ x.free t o with qu := setS x.qu t (n :: qOf x.qu t) } : RS).row "broken" t n
    else if 1 < l then { x with bz := setS x.bz t (n, some o, l - 1) }
    else if o = eOf x.ms n then ({ x.free t o with ms := thMsg x.ms n } : RS).row "there" o n
    else ((x.free t o).wait n o).row "passed" o n
  | _ => x
def way1 (w : List Str) : Str := w[1]?.getD ""
def RS.rt (ts : List Str) (ls : List (Str × Str)) (x : RS) (s e : Str) : Option (List Str) := routeL ts (nearF ts ls x.fog) s e
def canGo (ts : List Str) (ls : List (Str × Str)) (x : RS) (t n : Str) : Option Str :=
  match x.rt ts ls t (eOf x.ms n) with
  | some w => if inK x.bz (way1 w) = true then none else some (way1 w)
  | none => none
def RS.begin (ts : List Str) (ls : List (Str × Str)) (hold : Int) (x : RS) (t : Str) : RS :=
  match (qOf x.qu t).find? fun n => (canGo ts ls x t n).isSome with
  | some n => ({ x with qu := setS x.qu t ((qOf x.qu t).filter fun m => decide (m ≠ n)), bz := setS (setS x.bz t (n, some ((canGo ts ls x t n).getD ""), hold * nOf x.ms n)) ((canGo ts ls x t n).getD "") (n, none, 0) } : RS).row "sends" t n
  | none => x
def RS.begin' (ts : List Str) (ls : List (Str × Str)) (hold : Int) (x : RS) (t : Str) : RS := if inK x.bz t = true then x else x.begin ts ls hold t
def fogStep (f : SD Int) (t : Str) : SD Int := match look f t with | some v => if v - 1 = 0 then delS f t else setS f t (v - 1) | none => f
def RS.goMin (ts : List Str) (ls : List (Str × Str)) (hold : Int) (x : RS) : RS :=
  let y := ts.foldl (RS.begin' ts ls hold) (ts.foldl RS.goOn { x with mi := x.mi + 1 })
  { y with fog := ts.foldl fogStep y.fog }
end
end K6

-- text K6G
set_option maxRecDepth 100000
set_option maxHeartbeats 4000000
namespace K6
open PySem PySem.Spec PyProof.Rows L2 LamX GX
section
variable {P : Program} {w : World} {K : PySem.W.Frag} {mg : Str → Option Value} {base : Heap}
/-! ### wait, free, fogged -/
section
variable {B H H' : Hp} {r dx : Addr} {Z : Sta} {x : RA}
theorem pu_ms (n : Str) : look x.pu.ms n = (look x.ms n).map (·.2) := drop1_look _ _
theorem pu_qu (n : Str) : look x.pu.qu n = (look x.qu n).map (·.2) := drop1_look _ _
theorem pu_bz (n : Str) : look x.pu.bz n = (look x.bz n).map (·.2) := drop1_look _ _
theorem Rel.queSS (h : Rel K B H r dx Z x) (nd : (x.qu.map (·.1)).Nodup) {t : Str} {a : Addr} {q : List Str} (e : look x.qu t = some (a, q)) (l : List Str) : Rel K B (upd H a (.lst (l.map V.str))) r dx Z { x with qu := setS x.qu t (a, l) } := by
  obtain ⟨j, hj⟩ := look_get e
  have := h.queS hj l
  rw [set_setS nd hj] at this
  exact this
theorem Rel.msgSS (h : Rel K B H r dx Z x) (nd : (x.ms.map (·.1)).Nodup) {t : Str} {a : Addr} {m : Msg} (e : look x.ms t = some (a, m)) (m' : Msg) : Rel K B (upd H a (.lst (msgV m'))) r dx Z { x with ms := setS x.ms t (a, m') } := by
  obtain ⟨j, hj⟩ := look_get e
  have := h.msgS hj m'
  rw [set_setS nd hj] at this
  exact this
end
def spWait (K : PySem.W.Frag) : Sp := fun vs H Q E => ∃ B r dx Z x n t a q, vs = [.ref r, .str n, .str t] ∧ Rel K B H r dx Z x ∧ (x.qu.map (·.1)).Nodup ∧ look x.qu t = some (a, q) ∧ q.length ≤ 200 ∧ (∀ m ∈ n :: q, (look x.ms m).isSome = true) ∧
  (∀ x' H', Rel K B H' r dx Z x' → x'.pu = x.pu.wait n t → Q .non H')
theorem ok_wait (C : Ctx K mg base) : MetX P w K mg base 1 (aRl K) "wait" ["self", "name", "tower"] (spWait K) := by
  obtain ⟨fd, F⟩ := C.d.d_Relay_wait
  refine ⟨_, fd, ?_, F.funD.bindsN fun _ _ _ _ _ _ us hl => (match us, hl with | [_, _, _], _ => rfl), C.t.t_Relay_wait, C.t.c_Relay⟩
  refine F.ok sc_Relay_wait (fun vs H Q E h => ?_) (fun A outer s H vs Q E hr h => ?_)
  · obtain ⟨B, r, dx, Z, x, n, t, a, q, rfl, _⟩ := h
    rfl
  · obtain ⟨B, r, dx, Z, x, n, t, a, q, rfl, R, nd, hqu, hl, hms, hq⟩ := h
    have nn := sc_Relay_wait.nd
    refine ⟨_, pss_cons (ps_par (i := 3) (j := 4) (by rfl) nn rfl rfl (by decide) rfl rfl (pa_cons (pe_dget (hu_of hr) (pe_fld (pv 0) rfl) (pv 2) (fun _ _ => rfl)) (pa_cons (pe_callB call_len_seq (by rfl) C.t.b_len PySem.boot_len (pa_cons (pe_dget (hu_of hr) (pe_fld (pv 0) rfl) (pv 2) (fun _ _ => rfl)) pa_nil)) pa_nil)) (by rfl))
      (C8.pss_cut (ps_if (pt_val (pe_ix ix_list (pe_dget (hu_of hr) (pe_fld (pv 0) rfl) (pv 1) (fun _ _ => rfl)) pe_int (fun _ _ => rfl)))
        (pss_one (ps_while ownsA (PW.pt (pw_and (pt_cmpR op_gt (pv 4) pe_int (nomark _)) (pw_and1 (pt_not (pt_val (pe_ix ix_list (pe_dget (hu_of hr) (pe_fld (pv 0) rfl) (pe_ix ix_list (pv 3) (pe_op op_sub (pv 4) pe_int) (fun _ _ => rfl)) (fun _ _ => rfl)) pe_int (fun _ _ => rfl)))))))
          (pss_one (ps_aug (i := 4) nn rfl (Or.inl rfl) pe_int iop_sub)))) pss_nil)
      (pss_one (ps_expr (pe_bm PySem.F.plainAttrs_list PySem.F.slot_list_insert PySem.F.type_list_insert mt_insert (pv 3) (pa_cons (pv 4) (pa_cons (pv 1) pa_nil)))))), ?_⟩
    have rq : ∀ {H' : Hp}, Rel K B H' r dx Z x → H' a = some (.lst (q.map V.str)) := fun R' => R'.atQu (look_in hqu)
    have dq : DGet H x.qs (.str t) (some (.ref a)) := by
      have := DGet.k (k := Sum.inr t) R.atQs
      rwa [valV_ents, hqu] at this
    have dm : ∀ m ∈ n :: q, ∃ b g, look x.ms m = some (b, g) ∧ DGet H x.me (.str m) (some (.ref b)) ∧ H b = some (.lst (msgV g)) ∧ uOf x.pu.ms m = g.u := fun m hm => by
      have h1 := hms m hm
      cases h2 : look x.ms m with
      | none => rw [h2] at h1; cases h1
      | some bg =>
        refine ⟨bg.1, bg.2, rfl, ?_, R.atMs (look_in h2), ?_⟩
        · have := DGet.k (k := Sum.inr m) R.atMe
          rwa [valV_ents, h2] at this
        · unfold uOf
          rw [pu_ms, h2]
          rfl
    refine ⟨_, rfl, r, _, dx, _, _, rfl, R.atR, C.t.c_Relay, C.t.a_Relay_queues, rfl, _, rfl, x.qs, _, rfl, dq, ?_⟩
    refine ⟨_, rfl, r, _, dx, _, _, rfl, R.atR, C.t.c_Relay, C.t.a_Relay_queues, rfl, _, rfl, x.qs, _, rfl, dq, a, _, rfl, .inl (SqL.of (rq R)), _, _, rfl, ?_⟩
    rw [List.length_map]
    refine ⟨fun σ' H' => H' = H ∧ ∃ k : Nat, σ' = [some (.ref r), some (.str n), some (.str t), some (.ref a), some (.int (k : Nat))] ∧ k ≤ q.length ∧ insQ q k n = waitQ x.pu.ms q n, ?_, ?_⟩
    · obtain ⟨b, g, hg, dg, hb, ug⟩ := dm n List.mem_cons_self
      refine ⟨_, rfl, r, _, dx, _, _, rfl, R.atR, C.t.c_Relay, C.t.a_Relay_messages, rfl, _, rfl, x.me, _, rfl, dg, b, _, _, _, rfl, rfl, SqL.of hb, atI_nat (j := 3) rfl, _, rfl, ?_⟩
      cases hu : g.u with
      | false =>
        rw [hu] at ug
        exact iteF ⟨rfl, q.length, rfl, Nat.le_refl _, by unfold waitQ; rw [ug]; rfl⟩
      | true =>
        rw [hu] at ug
        refine iteT ?_
        refine ⟨fun m σ' H' => H' = H ∧ σ' = [some (.ref r), some (.str n), some (.str t), some (.ref a), some (.int (m : Nat))] ∧ m ≤ q.length ∧ placeF x.pu.ms (q.take m) = placeF x.pu.ms q, ⟨q.length, rfl, rfl, Nat.le_refl _, by rw [List.take_length]⟩, ?_⟩
        rintro m σ1 H1 ⟨rfl, rfl, hm, hp⟩
        refine ⟨_, rfl, (m : Int), 0, rfl, rfl, _, rfl, ?_⟩
        match m, hm, hp with
        | 0, hm, hp =>
          refine iteF (iteF ⟨rfl, 0, rfl, hm, ?_⟩)
          unfold waitQ
          rw [ug, ← hp]
          rfl
        | j + 1, hm, hp =>
          refine iteDT (by omega) ?_
          have hj : j < q.length := hm
          have hqj : q[j]? = some q[j] := List.getElem?_eq_getElem hj
          have et : q.take (j + 1) = q.take j ++ [q[j]] := GX.take_snoc hqj
          obtain ⟨b', g', hg', dg', hb', ug'⟩ := dm q[j] (List.mem_cons_of_mem _ (List.getElem_mem hj))
          have atq : atI (q.map V.str) (((j + 1 : Nat) : Int) - 1) = some (.str q[j]) := by
            rw [show ((j + 1 : Nat) : Int) - 1 = (j : Nat) by omega]
            exact atI_nat (by rw [List.getElem?_map, hqj]; rfl)
          have epl : placeF x.pu.ms (q.take (j + 1)) = if g'.u = true then j + 1 else placeF x.pu.ms (q.take j) := by
            unfold placeF
            rw [et, List.reverse_append, List.reverse_singleton, List.singleton_append, List.dropWhile_cons, ug']
            cases g'.u
            · rfl
            · show (q[j] :: (q.take j).reverse).length = j + 1
              rw [List.length_cons, List.length_reverse, List.length_take]
              omega
          refine ⟨_, rfl, r, _, dx, _, _, rfl, R.atR, C.t.c_Relay, C.t.a_Relay_messages, rfl, _, rfl, _, rfl, _, _, rfl, rfl, a, _, _, _, rfl, rfl, SqL.of (rq R), atq, x.me, _, rfl, dg', b', _, _, _, rfl, rfl, SqL.of hb', atI_nat (j := 3) rfl, _, rfl, ?_⟩
          rw [hp] at epl
          cases hu' : g'.u with
          | false =>
            rw [hu', if_neg (by decide)] at epl
            refine iteT ⟨fun σ' H' => ∃ m, m < j + 1 ∧ H' = H1 ∧ σ' = [some (.ref r), some (.str n), some (.str t), some (.ref a), some (.int (m : Nat))] ∧ m ≤ q.length ∧ placeF x.pu.ms (q.take m) = placeF x.pu.ms q, fun _ _ z => z, ?_⟩
            refine ⟨_, rfl, _, _, rfl, rfl, j, Nat.lt_succ_self j, rfl, ?_, Nat.le_of_lt hj, epl.symm⟩
            show [some (.ref r), some (.str n), some (.str t), some (.ref a), some (V.int (((j + 1 : Nat) : Int) - 1))] = _
            rw [show ((j + 1 : Nat) : Int) - 1 = (j : Nat) by omega]
          | true =>
            rw [hu', if_pos rfl] at epl
            exact iteF ⟨rfl, j + 1, rfl, hm, by unfold waitQ; rw [ug, if_pos rfl, epl]⟩
    · rintro σ' H' ⟨rfl, k, rfl, hk, ek⟩
      refine ⟨_, rfl, .inl ⟨rfl, _, SqL.of (rq R)⟩, _, rfl, _, rfl, a, _, _, _, rfl, rfl, rq R, ?_, Int.natCast_nonneg k, ?_, ?_⟩
      · rw [List.length_map]
        exact Nat.lt_of_le_of_lt hl (by decide)
      · exact Int.lt_of_le_of_lt (Int.ofNat_le.mpr (Nat.le_trans hk hl)) (by decide)
      · rw [show (k : Int).toNat = k from rfl, show (q.map V.str).take k ++ [V.str n] ++ (q.map V.str).drop k = (insQ q k n).map V.str by unfold insQ; rw [List.map_append, List.map_append, List.map_take, List.map_drop]; rfl, ek]
        refine hq _ _ (R.queSS nd hqu _) ?_
        show RS.mk _ _ _ _ _ _ = RS.mk _ _ _ _ _ _
        rw [drop1_set]
        unfold qOf
        rw [pu_qu, hqu]
        rfl
def spFree (K : PySem.W.Frag) : Sp := fun vs H Q E => ∃ B r dx Z x t o, vs = [.ref r, .str t, .str o] ∧ Rel K B H r dx Z x ∧ (look x.bz t).isSome = true ∧ (look x.bz o).isSome = true ∧ o ≠ t ∧
  (∀ x' H', Rel K B H' r dx Z x' → x'.pu = x.pu.free t o → x'.qu = x.qu ∧ x'.ms = x.ms → Q .non H')
theorem ok_free (C : Ctx K mg base) : MetX P w K mg base 1 (aRl K) "free" ["self", "tower", "other"] (spFree K) := by
  obtain ⟨fd, F⟩ := C.d.d_Relay_free
  refine ⟨_, fd, ?_, F.funD.bindsN fun _ _ _ _ _ _ us hl => (match us, hl with | [_, _, _], _ => rfl), C.t.t_Relay_free, C.t.c_Relay⟩
  refine F.ok sc_Relay_free (fun vs H Q E h => ?_) (fun A outer s H vs Q E hr h => ?_)
  · obtain ⟨B, r, dx, Z, x, t, o, rfl, _⟩ := h
    rfl
  · obtain ⟨B, r, dx, Z, x, t, o, rfl, R, h1, h2, hne, hq⟩ := h
    refine ⟨_, pss_cons (ps_ddel (pe_fld (pv 0) rfl) (pv 1)) (pss_one (ps_ddel (pe_fld (pv 0) rfl) (pv 2))), ?_⟩
    refine ⟨_, rfl, r, _, dx, _, _, rfl, R.atR, C.t.c_Relay, C.t.a_Relay_busy, rfl, _, rfl, x.bu, _, Sum.inr t, rfl, R.atBu, rfl, by rw [valV_ents, Option.isSome_map]; exact h1, ?_⟩
    rw [drop_delS]
    have R1 := R.busyS (delS x.bz t) (fun q hq => .inl (List.mem_filter.mp hq).1)
    generalize upd H x.bu _ = H1 at R1 ⊢
    refine ⟨_, rfl, r, _, dx, _, _, rfl, R1.atR, C.t.c_Relay, C.t.a_Relay_busy, rfl, _, rfl, x.bu, _, Sum.inr o, rfl, R1.atBu, rfl, by rw [valV_ents, Option.isSome_map, look_delS, if_neg hne]; exact h2, ?_⟩
    rw [drop_delS]
    have R2 := R1.busyS (delS (delS x.bz t) o) (fun q hq => .inl (List.mem_filter.mp hq).1)
    refine hq _ _ R2 ?_ ⟨rfl, rfl⟩
    show RS.mk _ _ _ _ _ _ = RS.mk _ _ _ _ _ _
    rw [show drop1 (delS (delS x.bz t) o) = delS (delS (drop1 x.bz) t) o by rw [drop1_del, drop1_del]]
    rfl
def spFog (K : PySem.W.Frag) : Sp := fun vs H Q E => ∃ B r dx Z x n m, vs = [.ref r, .str n, .int m] ∧ Rel K B H r dx Z x ∧ x.fog.length ≤ 200 ∧
  (n ∈ Z.ts → 0 ≤ m → m ≤ 600 → ∀ x' H', Rel K B H' r dx Z x' → x'.pu = { x.pu with fog := if 0 < m then setS (delS x.fog n) n m else delS x.fog n } → Q .non H') ∧
  (¬ (n ∈ Z.ts ∧ 0 ≤ m ∧ m ≤ 600) → ∀ H', Le (T K) H H' → E (.ref (aRE K)) none H')
theorem ok_fog (C : Ctx K mg base) : MetX P w K mg base 2 (aRl K) "fogged" ["self", "name", "minutes"] (spFog K) := by
  obtain ⟨fd, F⟩ := C.d.d_Relay_fogged
  refine ⟨_, fd, ?_, F.funD.bindsN fun _ _ _ _ _ _ us hl => (match us, hl with | [_, _, _], _ => rfl), C.t.t_Relay_fogged, C.t.c_Relay⟩
  refine F.ok sc_Relay_fogged (fun vs H Q E h => ?_) (fun A outer s H vs Q E hr h => ?_)
  · obtain ⟨B, r, dx, Z, x, n, m, rfl, _⟩ := h
    rfl
  · obtain ⟨B, r, dx, Z, x, n, m, rfl, R, hl, hq, hn⟩ := h
    obtain ⟨e1, e2, e3, e4⟩ := C.t.e_RelayError
    obtain ⟨fC, fdC, FC, bC, mC, cC⟩ := ok_chk (P := P) (w := w) C
    refine ⟨_, pss_cons (ps_expr (pe_meth (pv 0) cC mC FC (hr.mono (by decide)) bC .nil passA (pa_cons (pv 1) pa_nil)))
      (pss_cons (ps_if (pt_not (pt_chain op_le op_le pe_int (pv 2) pe_int)) (pss_one (ps_raise rfl takesA (pmk_own PySem.F.excBase_ValueError e1 C.t.m_RelayError e2 (raises_own e3 e4) (by rfl)))) pss_nil)
      (pss_cons (ps_expr (pe_dpop2 (pe_fld (pv 0) rfl) (pv 1) pe_non ⟨rfl, rfl, rfl, rfl⟩))
      (pss_one (ps_if (pt_cmpR op_gt (pv 2) pe_int (nomark _)) (pss_one (ps_dput (hu_of hr) (pe_fld (pv 0) rfl) (pv 1) (pv 2) (by rfl))) pss_nil)))), ?_⟩
    refine ⟨_, rfl, r, dx, _, rfl, R.atR, rfl, _, rfl, B, r, dx, Z, x, n, rfl, R, fun hm => ?_, fun z => hn fun y => z y.1⟩
    refine ⟨_, rfl, 0, m, rfl, rfl, _, rfl, ?_⟩
    by_cases c1 : (0 : Int) ≤ m
    rotate_left
    · exact iteDF c1 ⟨_, rfl, iteT (hn (fun y => c1 y.2.1) _ (Le.refl R.tab))⟩
    refine iteDT c1 ⟨m, 600, rfl, rfl, _, rfl, ?_⟩
    by_cases c2 : m ≤ 600
    rotate_left
    · exact iteDN c2 (hn (fun y => c2 y.2.2) _ (Le.refl R.tab))
    show (if (!decide (m ≤ 600)) = true then _ else _)
    rw [decide_eq_true c2]
    refine iteF ?_
    have hq := hq hm c1 c2
    refine ⟨_, rfl, r, _, dx, _, _, rfl, R.atR, C.t.c_Relay, C.t.a_Relay_fog, rfl, x.fo, rfl, .inl ⟨_, .inl R.atFo⟩, _, rfl, _, Sum.inr n, R.atFo, rfl, fun v hv => ?_, fun hv => ?_⟩
    · rw [drop_delS]
      have R1 := R.fogS (delS x.fog n)
      generalize upd H x.fo _ = H1 at R1 ⊢
      have hl1 : (delS x.fog n).length ≤ 200 := Nat.le_trans (List.length_filter_le _ _) hl
      by_cases c3 : 0 < m
      · refine ⟨_, rfl, m, 0, rfl, rfl, _, rfl, iteDT c3 ?_⟩
        refine ⟨_, rfl, _, rfl, r, _, dx, _, _, rfl, R1.atR, C.t.c_Relay, C.t.a_Relay_fog, rfl, _, rfl, x.fo, _, rfl, DPut.k (k := Sum.inr n) R1.atFo (by rw [ents_len]; exact Nat.lt_of_le_of_lt hl1 (by decide)), ?_⟩
        rw [put_setS]
        exact hq _ _ (R1.fogS _) (by rw [if_pos c3]; rfl)
      · exact ⟨_, rfl, m, 0, rfl, rfl, _, rfl, iteDF c3 (hq _ _ R1 (by rw [if_neg c3]; rfl))⟩
    · have hno : n ∉ x.fog.map (·.1) := fun z => by
        obtain ⟨u, e, _⟩ := look_mem z
        rw [valV_ents, e] at hv
        cases hv
      have R1 : Rel K B H r dx Z { x with fog := delS x.fog n } := by rw [delS_no hno]; exact R
      have hl1 : (delS x.fog n).length ≤ 200 := Nat.le_trans (List.length_filter_le _ _) hl
      by_cases c3 : 0 < m
      · refine ⟨_, rfl, m, 0, rfl, rfl, _, rfl, iteDT c3 ?_⟩
        refine ⟨_, rfl, _, rfl, r, _, dx, _, _, rfl, R1.atR, C.t.c_Relay, C.t.a_Relay_fog, rfl, _, rfl, x.fo, _, rfl, DPut.k (k := Sum.inr n) R1.atFo (by rw [ents_len]; exact Nat.lt_of_le_of_lt hl1 (by decide)), ?_⟩
        rw [put_setS]
        exact hq _ _ (R1.fogS _) (by rw [if_pos c3]; rfl)
      · exact ⟨_, rfl, m, 0, rfl, rfl, _, rfl, iteDF c3 (hq _ _ R1 (by rw [if_neg c3]; rfl))⟩
end
end K6

-- text K6H
set_option maxRecDepth 100000
set_option maxHeartbeats 4000000
namespace K6
open PySem PySem.Spec PyProof.Rows L2 LamX GX
section
variable {P : Program} {w : World} {K : PySem.W.Frag} {mg : Str → Option Value} {base : Heap}
/-! ### send -/
section
variable {B H H' : Hp} {r dx : Addr} {Z : Sta} {x : RA}
theorem Rel.rowF (h : Rel K B H r dx Z x) {p : Addr} (y : Row4) (hp : H p = none) : Rel K B (upd (upd H p (.tup (rowV y))) x.ro (.lst (x.rw.map rf ++ [.ref p]))) r dx Z { x with rw := x.rw ++ [(p, y)] } := by
  have h1 := (h.new (o := .tup (rowV y)) hp).rowS (p, y) upd_same
  rw [List.map_append] at h1
  exact h1
end
theorem pu_row {x : RA} (p : Addr) (w t n : Str) : ({ x with rw := x.rw ++ [(p, (x.mi, w, t, n))] } : RA).pu = x.pu.row w t n := by
  show RS.mk _ _ _ _ _ _ = RS.mk _ _ _ _ _ _
  rw [List.map_append]
  rfl
theorem pu_msN {x : RA} {n : Str} (h : n ∉ x.ms.map (·.1)) (p : Addr) (m : Msg) : ({ x with ms := x.ms ++ [(n, p, m)] } : RA).pu = { x.pu with ms := setS x.pu.ms n m } := by
  show RS.mk _ _ _ _ _ _ = RS.mk _ _ _ _ _ _
  rw [← setS_new h, drop1_set]
  rfl
theorem pu_rwl {x x' : RA} (h : x.pu.rw = x'.pu.rw) : x.rw.length = x'.rw.length := by
  have := congrArg List.length h
  unfold RA.pu at this
  rwa [List.length_map, List.length_map] at this
def goodSend (ts : List Str) (ms : SD Msg) (n s e : Str) (k : Int) : Prop := s ∈ ts ∧ e ∈ ts ∧ n ∉ ms.map (·.1) ∧ n ≠ "" ∧ 1 ≤ k ∧ k ≤ 50 ∧ ms.length < 60 ∧ s ≠ e
def RS.send (x : RS) (n s e : Str) (k : Int) (u : Bool) : RS := (({ x with ms := setS x.ms n ⟨s, e, k, u, false⟩ } : RS).wait n s).row "given" s n
def spSend (K : PySem.W.Frag) : Sp := fun vs H Q E => ∃ B r dx Z x n s e k u, vs = [.ref r, .str n, .str s, .str e, .int k, .bl u] ∧ Rel K B H r dx Z x ∧ x.rw.length ≤ 1000000 ∧ (x.qu.map (·.1)).Nodup ∧
  (s ∈ Z.ts → ∃ a q, look x.qu s = some (a, q) ∧ q.length ≤ 200 ∧ ∀ m ∈ q, (look x.ms m).isSome = true) ∧
  (goodSend Z.ts x.pu.ms n s e k → ∀ x' H', Rel K B H' r dx Z x' → x'.pu = x.pu.send n s e k u → Q .non H') ∧
  (¬ goodSend Z.ts x.pu.ms n s e k → ∀ c, c = aRE K ∨ c = aUE K → ∀ H', Le (T K) H H' → E (.ref c) none H')
abbrev psSend : List Str := ["self", "name", "start", "end", "signs", "urgent"]
theorem ok_send (C : Ctx K mg base) : ∃ f fd, FnOk P w K mg base (L2.CX P w) 3 f fd psSend (spSend K) ∧ Binds K fd psSend [] ∧ (∃ ds, Vals [V.bl false] ds ∧ Binds K fd psSend ds) ∧ Meth K (aRl K) "send" f ∧ Cls K (aRl K) := by
  obtain ⟨fd, F⟩ := C.d.d_Relay_send
  obtain ⟨ds6, v6, b6⟩ := F.funD.binds1 (ps := psSend) 6 1 (by simp) (by decide) (fun _ _ _ _ _ _ _ us its hl hi => by
    match us, hl, its, hi with
    | [_, _, _, _, _, _], _, [_], _ => exact ⟨_, rfl, rfl⟩)
  obtain rfl : ds6 = [] := by cases v6; rfl
  have b5 := F.funD.binds1 (ps := psSend) 5 0 (by simp) (by decide) (fun _ _ _ _ _ _ _ us its hl hi => by
    match us, hl, its, hi with
    | [_, _, _, _, _], _, [_], _ => exact ⟨_, rfl, rfl⟩)
  refine ⟨_, fd, ?_, b6, b5, C.t.t_Relay_send, C.t.c_Relay⟩
  refine F.ok sc_Relay_send (fun vs H Q E h => ?_) (fun A outer s H vs Q E hr h => ?_)
  · obtain ⟨B, r, dx, Z, x, n, s, e, k, u, rfl, _⟩ := h
    rfl
  · obtain ⟨B, r, dx, Z, x, n, st, en, k, u, rfl, R, lrw, nd, hqu, hq, hn⟩ := h
    obtain ⟨e1, e2, e3, e4⟩ := C.t.e_RelayError
    obtain ⟨u1, u2, u3, u4⟩ := C.t.e_RouteError
    obtain ⟨t60, i60⟩ := C.t.i_MOST_MESSAGES
    obtain ⟨fC, fdC, FC, bC, mC, cC⟩ := ok_chk (P := P) (w := w) C
    obtain ⟨fW, fdW, FW, bW, mW, cW⟩ := ok_wait (P := P) (w := w) C
    have nn := sc_Relay_send.nd
    refine ⟨_, pss_cons (ps_expr (pe_meth (pv 0) cC mC FC (hr.mono (by decide)) bC .nil passA (pa_cons (pv 2) pa_nil)))
      (pss_cons (ps_expr (pe_meth (pv 0) cC mC FC (hr.mono (by decide)) bC .nil passA (pa_cons (pv 3) pa_nil)))
      (pss_cons (ps_if (PW.pt (pw_or (pt_cmp (pc_din (hu_of hr) (pv 1) (pe_fld (pv 0) rfl))) (pw_or (pt_cmpR op_eq (pv 1) pe_str (nomark _)) (pw_or (pt_not (pt_chain op_le op_le pe_int (pv 4) pe_int))
          (pw_or1 (pt_cmpR op_ge (pe_callB call_lenD (by rfl) C.t.b_len PySem.boot_len (pa_cons (pe_fld (pv 0) rfl) pa_nil)) (pe_glob (by rfl) i60 (v := .int 60) ⟨_, rfl⟩) (nomark _))))))) (pss_one (ps_raise rfl takesA (pmk_own PySem.F.excBase_ValueError e1 C.t.m_RelayError e2 (raises_own e3 e4) (by rfl)))) pss_nil)
      (pss_cons (ps_if (pt_cmpR op_eq (pv 2) (pv 3) (nomark _)) (pss_one (ps_raise rfl takesA (pmk_own PySem.F.excBase_ValueError u1 C.t.m_RouteError u2 (raises_own u3 u4) (by rfl)))) pss_nil)
      (pss_cons (ps_dput (hu_of hr) (pe_fld (pv 0) rfl) (pv 1) (pe_lst (pa_cons (pv 2) (pa_cons (pv 3) (pa_cons (pv 4) (pa_cons (pv 5) (pa_cons pe_str pa_nil)))))) (by rfl))
      (pss_cons (ps_expr (pe_meth (pv 0) cW mW FW (hr.mono (by decide)) bW .nil passA (pa_cons (pv 1) (pa_cons (pv 2) pa_nil))))
      (pss_one (ps_expr (pe_bm PySem.F.plainAttrs_list PySem.F.slot_list_append PySem.F.type_list_append mt_append (pe_fld (pv 0) rfl) (pa_cons (pe_tup (pa_cons (pe_fld (pv 0) rfl) (pa_cons pe_str (pa_cons (pv 2) (pa_cons (pv 1) pa_nil))))) pa_nil))))))))), ?_⟩
    have no : ∀ {c}, c = aRE K ∨ c = aUE K → ¬ goodSend Z.ts x.pu.ms n st en k → E (.ref c) none H := fun hc z => hn z _ hc _ (Le.refl R.tab)
    refine ⟨_, rfl, r, dx, _, rfl, R.atR, rfl, _, rfl, B, r, dx, Z, x, st, rfl, R, fun hm => ?_, fun z => hn (fun y => z y.1) _ (.inl rfl)⟩
    refine ⟨_, rfl, r, dx, _, rfl, R.atR, rfl, _, rfl, B, r, dx, Z, x, en, rfl, R, fun hm2 => ?_, fun z => hn (fun y => z y.2.1) _ (.inl rfl)⟩
    refine ⟨_, rfl, _, rfl, r, _, dx, _, _, rfl, R.atR, C.t.c_Relay, C.t.a_Relay_messages, rfl, x.me, _, rfl, DGet.k (k := Sum.inr n) R.atMe, _, rfl, ?_⟩
    rw [valV_ents]
    have kms : x.pu.ms.map (·.1) = x.ms.map (·.1) := drop1_keys _
    cases hx : look x.ms n with
    | some p =>
      refine iteT (iteT (no (.inl rfl) fun y => y.2.2.1 ?_))
      rw [kms]
      exact inK_iff.mp (by unfold inK; rw [hx]; rfl)
    | none =>
    refine iteF ?_
    have hnm : n ∉ x.ms.map (·.1) := fun hm => by
      obtain ⟨v, hv, _⟩ := look_mem hm
      rw [hv] at hx; cases hx
    refine ⟨_, rfl, rfl, _, rfl, ?_⟩
    by_cases he : n = ""
    · exact iteDT (show V.str n = V.str "" by rw [he]) (iteT (no (.inl rfl) fun y => y.2.2.2.1 he))
    refine iteDF (show ¬ V.str n = V.str "" from fun z => he (V.str.inj z)) ?_
    refine ⟨_, rfl, _, _, rfl, rfl, _, rfl, ?_⟩
    by_cases h0 : 1 ≤ k
    case neg =>
      rw [decide_eq_false h0]
      exact iteF ⟨_, rfl, iteT (iteT (no (.inl rfl) fun y => h0 y.2.2.2.2.1))⟩
    rw [decide_eq_true h0]
    refine iteT ⟨_, _, rfl, rfl, _, rfl, ?_⟩
    by_cases h200 : k ≤ 50
    case neg =>
      rw [decide_eq_false h200]
      exact iteT (iteT (no (.inl rfl) fun y => h200 y.2.2.2.2.2.1))
    rw [decide_eq_true h200]
    refine iteF ⟨_, rfl, r, _, dx, _, _, rfl, R.atR, C.t.c_Relay, C.t.a_Relay_messages, rfl, x.me, _, rfl, R.atMe, _, _, rfl, rfl, _, rfl, ?_⟩
    rw [ents_len]
    have lms : x.pu.ms.length = x.ms.length := drop1_len _
    by_cases h30 : 60 ≤ x.ms.length
    · rw [decide_eq_true (show (60 : Int) ≤ ((x.ms.length : Nat) : Int) by omega)]
      exact iteT (no (.inl rfl) fun y => by have := y.2.2.2.2.2.2.1; omega)
    rw [decide_eq_false (show ¬ (60 : Int) ≤ ((x.ms.length : Nat) : Int) by omega)]
    refine iteF ⟨_, rfl, _, rfl, rfl, _, rfl, ?_⟩
    by_cases hse : st = en
    · exact iteDT (congrArg V.str hse) (no (.inr rfl) fun y => y.2.2.2.2.2.2.2 hse)
    refine iteDF (fun z => hse (V.str.inj z)) ?_
    have hq := hq ⟨hm, hm2, by rw [kms]; exact hnm, he, h0, h200, by omega, hse⟩
    obtain ⟨a, q, h1, h2, h3⟩ := hqu hm
    refine ⟨_, rfl, _, rfl, _, rfl, _, rfl, by show 5 ≤ sizeLine; decide, fun p hp => ?_⟩
    have R1 := R.msgN (n := n) (m := ⟨st, en, k, u, false⟩) hp
    have R0 := R.new (o := .lst (msgV ⟨st, en, k, u, false⟩)) hp
    refine ⟨_, rfl, r, _, dx, _, _, rfl, R0.atR, C.t.c_Relay, C.t.a_Relay_messages, rfl, _, rfl, x.me, _, rfl, DPut.k (k := Sum.inr n) R0.atMe (by rw [ents_len]; exact Nat.lt_of_lt_of_le (show x.ms.length < 60 by omega) (by decide)), ?_⟩
    have ep : putK (ents rf x.ms) (Sum.inr n) (.ref p) = ents rf (x.ms ++ [(n, p, ⟨st, en, k, u, false⟩)]) := by
      rw [← setS_new hnm]
      exact put_setS (f := rf) x.ms n (p, (⟨st, en, k, u, false⟩ : Msg))
    rw [ep]
    change Rel K B (upd (upd H p (.lst [.str st, .str en, .int k, .bl u, .str "waits"])) x.me _) r dx Z _ at R1
    generalize upd (upd H p (.lst [.str st, .str en, .int k, .bl u, .str "waits"])) x.me _ = H1 at R1 ⊢
    clear R0
    refine ⟨_, rfl, r, dx, _, rfl, R1.atR, rfl, _, rfl, _, rfl, B, r, dx, Z, _, n, st, a, q, rfl, R1, nd, h1, h2, ?_, fun x2 H2 R2 e2 => ?_⟩
    · intro m hm
      show (look (x.ms ++ [(n, p, _)]) m).isSome = true
      rw [look_app]
      rcases List.mem_cons.mp hm with rfl | hm
      · rw [hx, look_cons, if_pos rfl]
        rfl
      · have := h3 m hm
        cases e5 : look x.ms m with
        | none => rw [e5] at this; cases this
        | some v => rfl
    · refine ⟨_, rfl, r, _, dx, _, _, rfl, R2.atR, C.t.c_Relay, C.t.a_Relay_rows, rfl, .inl ⟨rfl, _, SqL.of R2.atRo⟩, _, rfl, r, _, dx, _, _, rfl, R2.atR, C.t.c_Relay, C.t.a_Relay_minute, rfl, _, rfl, _, rfl, by show 4 ≤ sizeLine; decide, fun p2 hp2 => ⟨x2.ro, _, _, rfl, rfl, (R2.new hp2).atRo, ?_, hq _ _ (R2.rowF (x2.mi, "given", st, n) hp2) ?_⟩⟩
      · rw [List.length_map, pu_rwl (x' := x) (show x2.pu.rw = x.pu.rw by rw [e2]; rfl)]
        exact Nat.lt_of_le_of_lt lrw (by decide)
      · rw [pu_row, e2, pu_msN hnm]
        rfl
end
end K6

-- text K6I
set_option maxRecDepth 100000
set_option maxHeartbeats 4000000
namespace K6
open PySem PySem.Spec PyProof.Rows L2 LamX GX
section
variable {P : Program} {w : World} {K : PySem.W.Frag} {mg : Str → Option Value} {base : Heap}
/-! ### go_on -/
theorem pu_quS {x : RA} (t : Str) (a : Addr) (l : List Str) : ({ x with qu := setS x.qu t (a, l) } : RA).pu = { x.pu with qu := setS x.pu.qu t l } := by
  show RS.mk _ _ _ _ _ _ = RS.mk _ _ _ _ _ _
  rw [drop1_set]
  rfl
theorem pu_msS {x : RA} (t : Str) (a : Addr) (m : Msg) : ({ x with ms := setS x.ms t (a, m) } : RA).pu = { x.pu with ms := setS x.pu.ms t m } := by
  show RS.mk _ _ _ _ _ _ = RS.mk _ _ _ _ _ _
  rw [drop1_set]
  rfl
theorem pu_bzS {x : RA} (t : Str) (a : Addr) (b : Bz) : ({ x with bz := setS x.bz t (a, b) } : RA).pu = { x.pu with bz := setS x.pu.bz t b } := by
  show RS.mk _ _ _ _ _ _ = RS.mk _ _ _ _ _ _
  rw [drop1_set]
  rfl
theorem mem_setS {α : Type} {cs : SD α} {n : Str} {v : α} {p : Str × α} (h : p ∈ setS cs n v) : p ∈ cs ∨ p = (n, v) := by
  unfold setS at h
  split at h
  · obtain ⟨q, hq, e⟩ := List.mem_map.mp h
    by_cases c : q.1 = n
    · rw [if_pos c] at e
      exact .inr (by rw [← e, c])
    · rw [if_neg c] at e
      exact .inl (e ▸ hq)
  · rcases List.mem_append.mp h with h | h
    · exact .inl h
    · exact .inr (List.mem_singleton.mp h)
theorem Rel.bzN {B H : Hp} {r dx : Addr} {Z : Sta} {x : RA} (h : Rel K B H r dx Z x) {p : Addr} (hp : H p = none) (t : Str) (b : Bz) : Rel K B (upd (upd H p (.tup (bzV b))) x.bu (.dK (ents rf (setS x.bz t (p, b))))) r dx Z { x with bz := setS x.bz t (p, b) } :=
  (h.new (o := .tup (bzV b)) hp).busyS (setS x.bz t (p, b)) fun q hq => by
    rcases mem_setS hq with e | e
    · exact .inl e
    · rw [e]; exact .inr upd_same
def spGoOn (K : PySem.W.Frag) : Sp := fun vs H Q E => ∃ B r dx Z x t ba n o l a q a2 q2 ma m, vs = [.ref r, .str t] ∧ Rel K B H r dx Z x ∧ x.rw.length ≤ 1000000 ∧ (x.qu.map (·.1)).Nodup ∧ (x.ms.map (·.1)).Nodup ∧ x.bz.length ≤ 200 ∧
  look x.bz t = some (ba, (n, some o, l)) ∧ (look x.bz o).isSome = true ∧ o ≠ t ∧ look x.qu t = some (a, q) ∧ q.length ≤ 200 ∧ look x.qu o = some (a2, q2) ∧ q2.length ≤ 200 ∧ (∀ k ∈ q2, (look x.ms k).isSome = true) ∧ look x.ms n = some (ma, m) ∧
  (∀ x' H', Rel K B H' r dx Z x' → x'.pu = x.pu.goOn t → Q .non H')
theorem ok_goOn (C : Ctx K mg base) : MetX P w K mg base 2 (aRl K) "go_on" ["self", "tower"] (spGoOn K) := by
  obtain ⟨fd, F⟩ := C.d.d_Relay_go_on
  refine ⟨_, fd, ?_, F.funD.bindsN fun _ _ _ _ _ _ us hl => (match us, hl with | [_, _], _ => rfl), C.t.t_Relay_go_on, C.t.c_Relay⟩
  refine F.ok sc_Relay_go_on (fun vs H Q E h => ?_) (fun A outer s H vs Q E hr h => ?_)
  · obtain ⟨B, r, dx, Z, x, t, ba, n, o, l, a, q, a2, q2, ma, m, rfl, _⟩ := h
    rfl
  · obtain ⟨B, r, dx, Z, x, t, ba, n, o, l, a, q, a2, q2, ma, m, rfl, R, lrw, ndq, ndm, lbz, hbt, hbo, hne, hqt, lq, hqo, lq2, hm2, hmn, hq⟩ := h
    obtain ⟨fF, fdF, FF, bF, mF, cF⟩ := ok_free (P := P) (w := w) C
    obtain ⟨fW, fdW, FW, bW, mW, cW⟩ := ok_wait (P := P) (w := w) C
    have nn := sc_Relay_go_on.nd
    refine ⟨_, pss_cons (ps_asg (pe_dget (hu_of hr) (pe_fld (pv 0) rfl) (pv 1) (fun _ _ => rfl)) (pg_tup rfl (pgs_cons (pg_name (i := 2) nn rfl (by first | exact Or.inl rfl | exact Or.inr rfl)) (pgs_cons (pg_name (i := 3) nn rfl (by first | exact Or.inl rfl | exact Or.inr rfl)) (pgs_cons (pg_name (i := 4) nn rfl (by first | exact Or.inl rfl | exact Or.inr rfl)) pgs_nil)))))
      (pss_one (ps_if (pt_mid (PW.pt (pw_or (pt_cmp (pc_din (hu_of hr) (pv 1) (pe_fld (pv 0) rfl))) (pw_or1 (pt_cmp (pc_din (hu_of hr) (pv 3) (pe_fld (pv 0) rfl)))))))
        (pss_cons (ps_expr (pe_meth (pv 0) cF mF FF (hr.mono (by decide)) bF .nil passA (pa_cons (pv 1) (pa_cons (pv 3) pa_nil))))
        (pss_cons (ps_expr (pe_bm PySem.F.plainAttrs_list PySem.F.slot_list_insert PySem.F.type_list_insert mt_insert (pe_dget (hu_of hr) (pe_fld (pv 0) rfl) (pv 1) (fun _ _ => rfl)) (pa_cons pe_int (pa_cons (pv 2) pa_nil))))
        (pss_one (ps_expr (pe_bm PySem.F.plainAttrs_list PySem.F.slot_list_append PySem.F.type_list_append mt_append (pe_fld (pv 0) rfl) (pa_cons (pe_tup (pa_cons (pe_fld (pv 0) rfl) (pa_cons pe_str (pa_cons (pv 1) (pa_cons (pv 2) pa_nil))))) pa_nil))))))
        (pss_one (ps_if (pt_cmpR op_gt (pv 4) pe_int (nomark _))
          (pss_one (ps_dput (hu_of hr) (pe_fld (pv 0) rfl) (pv 1) (pe_tup (pa_cons (pv 2) (pa_cons (pv 3) (pa_cons (pe_op op_sub (pv 4) pe_int) pa_nil)))) (by rfl)))
          (pss_cons (ps_expr (pe_meth (pv 0) cF mF FF (hr.mono (by decide)) bF .nil passA (pa_cons (pv 1) (pa_cons (pv 3) pa_nil))))
          (pss_one (ps_if (pt_cmpR op_eq (pv 3) (pe_ix ix_list (pe_dget (hu_of hr) (pe_fld (pv 0) rfl) (pv 2) (fun _ _ => rfl)) pe_int (fun _ _ => rfl)) (nomark _))
            (pss_cons (ps_asg pe_str (pg_sub (pe_dget (hu_of hr) (pe_fld (pv 0) rfl) (pv 2) (fun _ _ => rfl)) pe_int set_list))
            (pss_one (ps_expr (pe_bm PySem.F.plainAttrs_list PySem.F.slot_list_append PySem.F.type_list_append mt_append (pe_fld (pv 0) rfl) (pa_cons (pe_tup (pa_cons (pe_fld (pv 0) rfl) (pa_cons pe_str (pa_cons (pv 3) (pa_cons (pv 2) pa_nil))))) pa_nil)))))
            (pss_cons (ps_expr (pe_meth (pv 0) cW mW FW (hr.mono (by decide)) bW .nil passA (pa_cons (pv 2) (pa_cons (pv 3) pa_nil))))
            (pss_one (ps_expr (pe_bm PySem.F.plainAttrs_list PySem.F.slot_list_append PySem.F.type_list_append mt_append (pe_fld (pv 0) rfl) (pa_cons (pe_tup (pa_cons (pe_fld (pv 0) rfl) (pa_cons pe_str (pa_cons (pv 3) (pa_cons (pv 2) pa_nil))))) pa_nil)))))))))))), ?_⟩
    have dbt : DGet H x.bu (.str t) (some (.ref ba)) := by
      have := DGet.k (k := Sum.inr t) R.atBu
      rwa [valV_ents, hbt] at this
    refine ⟨_, rfl, r, _, dx, _, _, rfl, R.atR, C.t.c_Relay, C.t.a_Relay_busy, rfl, _, rfl, x.bu, _, rfl, dbt, ?_⟩
    have hb : H ba = some (.tup [.str n, .str o, .int l]) := R.bzt _ (look_in hbt)
    have hgo : x.pu.goOn t = if (inK x.fog t || inK x.fog o) = true then ({ x.pu.free t o with qu := setS x.pu.qu t (n :: qOf x.pu.qu t) } : RS).row "broken" t n
        else if 1 < l then { x.pu with bz := setS x.pu.bz t (n, some o, l - 1) }
        else if o = m.e then ({ x.pu.free t o with ms := setS x.pu.ms n { m with th := true } } : RS).row "there" o n
        else ((x.pu.free t o).wait n o).row "passed" o n := by
      have h1 : look x.pu.bz t = some (n, some o, l) := by rw [pu_bz, hbt]; rfl
      have h2 : look x.pu.ms n = some m := by rw [pu_ms, hmn]; rfl
      unfold RS.goOn
      rw [h1]
      show (if _ then _ else if _ then _ else if o = eOf x.pu.ms n then ({ x.pu.free t o with ms := thMsg x.pu.ms n } : RS).row "there" o n else _) = _
      unfold eOf thMsg
      rw [h2]
      rfl
    rw [hgo] at hq
    clear hgo
    refine ⟨ba, _, rfl, SqT.of hb, rfl, _, _, rfl, _, _, rfl, _, _, rfl, rfl, ?_⟩
    refine ⟨fun b H' => b = (inK x.fog t || inK x.fog o) ∧ H' = H, ?_, ?_⟩
    · refine ⟨_, rfl, _, rfl, r, _, dx, _, _, rfl, R.atR, C.t.c_Relay, C.t.a_Relay_fog, rfl, x.fo, _, rfl, DGet.k (k := Sum.inr t) R.atFo, _, rfl, ?_⟩
      rw [valV_ents, Option.isSome_map]
      show (if inK x.fog t = true then _ else _)
      cases f1 : inK x.fog t with
      | true => exact iteT ⟨rfl, rfl⟩
      | false =>
        refine iteF ⟨_, rfl, _, rfl, r, _, dx, _, _, rfl, R.atR, C.t.c_Relay, C.t.a_Relay_fog, rfl, x.fo, _, rfl, DGet.k (k := Sum.inr o) R.atFo, _, rfl, ?_⟩
        rw [valV_ents, Option.isSome_map]
        exact ⟨rfl, rfl⟩
    · rintro b H' ⟨rfl, rfl⟩
      cases hf : (inK x.fog t || inK x.fog o) with
      | true =>
        refine iteT ?_
        simp only [hf, if_true] at hq
        refine ⟨_, rfl, r, dx, _, rfl, R.atR, rfl, _, rfl, _, rfl, B, r, dx, Z, x, t, o, rfl, R, by rw [hbt]; rfl, hbo, hne, fun x1 H1 R1 e1 es => ?_⟩
        have e6 : look x1.qu t = some (a, q) := by rw [es.1]; exact hqt
        have dq : DGet H1 x1.qs (.str t) (some (.ref a)) := by
          have := DGet.k (k := Sum.inr t) R1.atQs
          rwa [valV_ents, e6] at this
        have aq := R1.atQu (look_in e6)
        refine ⟨_, rfl, r, _, dx, _, _, rfl, R1.atR, C.t.c_Relay, C.t.a_Relay_queues, rfl, _, rfl, x1.qs, _, rfl, dq, .inl ⟨rfl, _, SqL.of aq⟩, _, rfl, a, _, _, _, rfl, rfl, aq, by rw [List.length_map]; exact Nat.lt_of_le_of_lt lq (by decide), by decide, by decide, ?_⟩
        have R2 := R1.queSS (by rw [es.1]; exact ndq) e6 (n :: q)
        have eh : (q.map V.str).take (0 : Int).toNat ++ [V.str n] ++ (q.map V.str).drop (0 : Int).toNat = (n :: q).map V.str := rfl
        rw [eh]
        generalize upd H1 a (.lst ((n :: q).map V.str)) = H2 at R2 ⊢
        refine ⟨_, rfl, r, _, dx, _, _, rfl, R2.atR, C.t.c_Relay, C.t.a_Relay_rows, rfl, .inl ⟨rfl, _, SqL.of R2.atRo⟩, _, rfl, r, _, dx, _, _, rfl, R2.atR, C.t.c_Relay, C.t.a_Relay_minute, rfl, _, rfl, _, rfl, by show 4 ≤ sizeLine; decide, fun p2 hp2 => ⟨_, _, _, rfl, rfl, (R2.new hp2).atRo, ?_, hq _ _ (R2.rowF (x1.mi, "broken", t, n) hp2) ?_⟩⟩
        · rw [List.length_map]
          show x1.rw.length < _
          rw [pu_rwl (x' := x) (show x1.pu.rw = x.pu.rw by rw [e1]; rfl)]
          exact Nat.lt_of_le_of_lt lrw (by decide)
        · have e7 := pu_row (x := { x1 with qu := setS x1.qu t (a, n :: q) }) p2 "broken" t n
          refine e7.trans ?_
          rw [pu_quS, e1]
          have e8 : qOf x.pu.qu t = q := by unfold qOf; rw [pu_qu, hqt]; rfl
          rw [e8]
          rfl
      | false =>
        refine iteF ?_
        simp only [hf, Bool.false_eq_true, if_false] at hq
        refine ⟨_, rfl, l, 1, rfl, rfl, _, rfl, ?_⟩
        by_cases c1 : 1 < l
        · refine iteDT c1 ?_
          rw [if_pos c1] at hq
          refine ⟨_, rfl, _, rfl, _, rfl, _, _, rfl, rfl, by show 3 ≤ sizeLine; decide, fun p hp => ?_⟩
          have R1 := R.bzN hp t (n, some o, l - 1)
          have R0 := R.new (o := .tup (bzV (n, some o, l - 1))) hp
          have lb : x.bz.length < sizeLine := Nat.lt_of_le_of_lt lbz (by decide)
          refine ⟨_, rfl, r, _, dx, _, _, rfl, R0.atR, C.t.c_Relay, C.t.a_Relay_busy, rfl, _, rfl, x.bu, _, rfl, DPut.k (k := Sum.inr t) R0.atBu (by rw [ents_len]; exact lb), ?_⟩
          rw [show (V.ref p) = rf (p, ((n, some o, l - 1) : Bz)) from rfl, put_setS]
          exact hq _ _ R1 (pu_bzS t p _)
        refine iteDF c1 ?_
        rw [if_neg c1] at hq
        refine ⟨_, rfl, r, dx, _, rfl, R.atR, rfl, _, rfl, _, rfl, B, r, dx, Z, x, t, o, rfl, R, by rw [hbt]; rfl, hbo, hne, fun x1 H1 R1 e1 es => ?_⟩
        have e6 : look x1.ms n = some (ma, m) := by rw [es.2]; exact hmn
        have dm : DGet H1 x1.me (.str n) (some (.ref ma)) := by
          have := DGet.k (k := Sum.inr n) R1.atMe
          rwa [valV_ents, e6] at this
        have am := R1.atMs (look_in e6)
        refine ⟨_, rfl, _, rfl, r, _, dx, _, _, rfl, R1.atR, C.t.c_Relay, C.t.a_Relay_messages, rfl, _, rfl, x1.me, _, rfl, dm, ma, _, _, _, rfl, rfl, SqL.of am, atI_nat (j := 1) rfl, rfl, _, rfl, ?_⟩
        have lr1 : x1.rw.length ≤ 1000000 := by
          rw [pu_rwl (x' := x) (show x1.pu.rw = x.pu.rw by rw [e1]; rfl)]
          exact lrw
        by_cases c2 : o = m.e
        · refine iteDT (congrArg V.str c2) ?_
          rw [if_pos c2] at hq
          refine ⟨_, rfl, r, _, dx, _, _, rfl, R1.atR, C.t.c_Relay, C.t.a_Relay_messages, rfl, _, rfl, x1.me, _, rfl, dm, ma, _, _, 4, rfl, rfl, am, rfl, ?_⟩
          have R2 := R1.msgSS (by rw [es.2]; exact ndm) e6 { m with th := true }
          have eh : HO.lst ((msgV m).set 4 (V.str "there")) = HO.lst (msgV { m with th := true }) := rfl
          rw [eh]
          generalize upd H1 ma (.lst (msgV { m with th := true })) = H2 at R2 ⊢
          refine ⟨_, rfl, r, _, dx, _, _, rfl, R2.atR, C.t.c_Relay, C.t.a_Relay_rows, rfl, .inl ⟨rfl, _, SqL.of R2.atRo⟩, _, rfl, r, _, dx, _, _, rfl, R2.atR, C.t.c_Relay, C.t.a_Relay_minute, rfl, _, rfl, _, rfl, by show 4 ≤ sizeLine; decide, fun p2 hp2 => ⟨_, _, _, rfl, rfl, (R2.new hp2).atRo, ?_, hq _ _ (R2.rowF (x1.mi, "there", o, n) hp2) ?_⟩⟩
          · rw [List.length_map]
            exact Nat.lt_of_le_of_lt lr1 (by decide)
          · have e7 := pu_row (x := { x1 with ms := setS x1.ms n (ma, { m with th := true }) }) p2 "there" o n
            refine e7.trans ?_
            rw [pu_msS, e1]
            rfl
        · refine iteDF (fun z => c2 (V.str.inj z)) ?_
          rw [if_neg c2] at hq
          refine ⟨_, rfl, r, dx, _, rfl, R1.atR, rfl, _, rfl, _, rfl, B, r, dx, Z, x1, n, o, a2, q2, rfl, R1, by rw [es.1]; exact ndq, by rw [es.1]; exact hqo, lq2, ?_, fun x2 H2 R2 e2 => ?_⟩
          · intro k hk
            rw [es.2]
            rcases List.mem_cons.mp hk with rfl | hk
            · rw [hmn]; rfl
            · exact hm2 k hk
          · refine ⟨_, rfl, r, _, dx, _, _, rfl, R2.atR, C.t.c_Relay, C.t.a_Relay_rows, rfl, .inl ⟨rfl, _, SqL.of R2.atRo⟩, _, rfl, r, _, dx, _, _, rfl, R2.atR, C.t.c_Relay, C.t.a_Relay_minute, rfl, _, rfl, _, rfl, by show 4 ≤ sizeLine; decide, fun p2 hp2 => ⟨x2.ro, _, _, rfl, rfl, (R2.new hp2).atRo, ?_, hq _ _ (R2.rowF (x2.mi, "passed", o, n) hp2) ?_⟩⟩
            · rw [List.length_map, pu_rwl (x' := x1) (show x2.pu.rw = x1.pu.rw by rw [e2]; rfl)]
              exact Nat.lt_of_le_of_lt lr1 (by decide)
            · rw [pu_row, e2, e1]
end
end K6

-- text K6J
set_option maxRecDepth 100000
set_option maxHeartbeats 4000000
namespace K6
open PySem PySem.Spec PyProof.Rows L2 LamX GX
section
variable {P : Program} {w : World} {K : PySem.W.Frag} {mg : Str → Option Value} {base : Heap}
/-! ### begin -/
theorem Rel.queD {B H : Hp} {r dx : Addr} {Z : Sta} {x : RA} {p : Addr} (h : Rel K B H r dx Z x) {j : Nat} {q : Str × Addr × List Str} (hj : x.qu[j]? = some q) {l : List Str} (hp : H p = some (.lst (l.map V.str))) (hf : p ∉ (cells K r dx Z x).map (·.1)) (hB : B p = none) :
    Rel K B (upd H x.qs (.dK (ents rf (x.qu.set j (q.1, p, l))))) r dx Z { x with qu := x.qu.set j (q.1, p, l) } := by
  have hq : (cells K r dx Z x)[3]? = some (x.qs, .dK (ents rf x.qu)) := rfl
  have hm := List.mem_of_getElem? hq
  have hl := (List.getElem?_eq_some_iff.mp hj).1
  have hqp : x.qs ≠ p := fun e => hf (List.mem_map.mpr ⟨_, hm, e⟩)
  have ec : cells K r dx Z { x with qu := x.qu.set j (q.1, p, l) } = ((cells K r dx Z x).set 3 (x.qs, .dK (ents rf (x.qu.set j (q.1, p, l))))).set (6 + (x.ms.length + j)) (p, .lst (l.map V.str)) := by
    unfold cells
    show _ ++ _ = List.set ([_, _, _, _, _, _] ++ _) _ _
    rw [List.set_append_right _ _ (by show 6 ≤ 6 + (x.ms.length + j); omega)]
    show _ ++ _ = _ ++ List.set _ (6 + (x.ms.length + j) - 6) _
    rw [Nat.add_sub_cancel_left, List.set_append_right _ _ (by rw [List.length_map]; omega), List.length_map, Nat.add_sub_cancel_left, ← List.map_set (f := fun p : Str × Addr × List Str => (p.2.1, HO.lst (p.2.2.map V.str))) (a := (q.1, p, l))]
    rfl
  refine h.put (h.no _ hm) (h.at_ _ hm) trivial (fun _ z => by cases z) ?_ (fun c hc => ?_) (fun q hq => .inl hq) (fun y hy => .inl hy)
  · rw [ec, List.map_set, set_fst hq]
    exact nodup_set h.nd hf _
  · rw [ec] at hc
    rcases List.mem_or_eq_of_mem_set hc with e | e
    · rcases mem_setN h.nd hq e with e | e
      · exact .inl e
      · exact .inr ⟨e.1, .inl e.2⟩
    · rw [e]
      exact .inr ⟨Ne.symm hqp, .inr ⟨hp, hB⟩⟩
theorem Rel.queDS {B H : Hp} {r dx : Addr} {Z : Sta} {x : RA} {p : Addr} (h : Rel K B H r dx Z x) (nd : (x.qu.map (·.1)).Nodup) {t : Str} {a : Addr} {q : List Str} (e : look x.qu t = some (a, q)) {l : List Str} (hp : H p = some (.lst (l.map V.str))) (hf : p ∉ (cells K r dx Z x).map (·.1)) (hB : B p = none) :
    Rel K B (upd H x.qs (.dK (ents rf (setS x.qu t (p, l))))) r dx Z { x with qu := setS x.qu t (p, l) } := by
  obtain ⟨j, hj⟩ := look_get e
  have := h.queD hj hp hf hB
  rw [set_setS nd hj] at this
  exact this
theorem way_two {ts : List Str} {s e : Str} {b : Nat} {w : List Str} (h : Way ts s b w) (hl : lastS w = e) (hne : e ≠ s) : ∃ o tl, w = s :: o :: tl ∧ o ∈ ts ∧ o ≠ s ∧ way1 w = o := by
  obtain ⟨tl, rfl, h1, h2, _⟩ := h
  match tl, h1, h2, hl with
  | [], _, _, hl => exact absurd hl.symm hne
  | o :: r, h1, h2, _ => exact ⟨o, r, rfl, h2 o List.mem_cons_self, fun z => h1 (by rw [z]; exact List.mem_cons_self), rfl⟩
theorem look_or {α : Type} (cs : SD α) (n : Str) : look cs n = none ∨ ∃ v, look cs n = some v := by
  cases look cs n with
  | none => exact .inl rfl
  | some v => exact .inr ⟨v, rfl⟩
theorem setS_len {α : Type} {cs : SD α} {n : Str} {v : α} : (setS cs n v).length ≤ cs.length + 1 := by
  unfold setS
  split
  · rw [List.length_map]; omega
  · rw [List.length_append]; exact Nat.le_refl _
theorem nearF_sub {ts : List Str} {ls : List (Str × Str)} {f : SD Int} : ∀ n, ∀ o ∈ nearF ts ls f n, o ∈ ts := fun _ _ ho => (List.mem_filter.mp ho).1
def spBegin (K : PySem.W.Frag) : Sp := fun vs H Q E => ∃ B r dx Z x t a q, vs = [.ref r, .str t] ∧ Rel K B H r dx Z x ∧ x.rw.length ≤ 1000000 ∧ (x.qu.map (·.1)).Nodup ∧ x.qu.length ≤ 200 ∧ x.bz.length ≤ 200 ∧ t ∈ Z.ts ∧ look x.qu t = some (a, q) ∧ q.length ≤ 200 ∧ 1 ≤ Z.hold ∧ Z.hold ≤ 20 ∧
  (∀ n ∈ q, ∃ ma m, look x.ms n = some (ma, m) ∧ m.e ∈ Z.ts ∧ m.e ≠ t ∧ 1 ≤ m.n ∧ m.n ≤ 50) ∧ (∀ x' H', Rel K B H' r dx Z x' → x'.pu = x.pu.begin Z.ts Z.lp Z.hold t → Q .non H')
theorem ok_begin (C : Ctx K mg base) : MetX P w K mg base 4 (aRl K) "begin" ["self", "tower"] (spBegin K) := by
  obtain ⟨fd, F⟩ := C.d.d_Relay_begin
  refine ⟨_, fd, ?_, F.funD.bindsN fun _ _ _ _ _ _ us hl => (match us, hl with | [_, _], _ => rfl), C.t.t_Relay_begin, C.t.c_Relay⟩
  refine F.ok sc_Relay_begin (fun vs H Q E h => ?_) (fun A outer s H vs Q E hr h => ?_)
  · obtain ⟨B, r, dx, Z, x, t, a, q, rfl, _⟩ := h
    rfl
  · obtain ⟨B, r, dx, Z, x, t, a, q, rfl, R, lrw, ndq, lqu, lbz, hm, hqt, lq, h1, h20, hms, hq⟩ := h
    obtain ⟨fR, fdR, FR, bR, mR, cR⟩ := ok_route (P := P) (w := w) C
    have nn := sc_Relay_begin.nd
    refine ⟨_, pss_one (ps_for ownsA rfl (pi_list (pe_dget (hu_of hr) (pe_fld (pv 0) rfl) (pv 1) (fun _ _ => rfl))) (pg_name (i := 2) nn rfl (by first | exact Or.inl rfl | exact Or.inr rfl))
      (pss_cons (ps_set (i := 3) nn rfl (by first | exact Or.inl rfl | exact Or.inr rfl) (pe_meth (pv 0) cR mR FR (hr.mono (by decide)) bR .nil passA (pa_cons (pv 1) (pa_cons (pe_ix ix_list (pe_dget (hu_of hr) (pe_fld (pv 0) rfl) (pv 2) (fun _ _ => rfl)) pe_int (fun _ _ => rfl)) pa_nil))))
      (pss_one (ps_if (PW.pt (pw_and (pt_cmp (pc_notN (pv 3))) (pw_and1 (pt_cmp (pc_dnotin (hu_of hr) (pe_ix ix_tup (pv 3) pe_int (fun _ _ => rfl)) (pe_fld (pv 0) rfl))))))
        (pss_cons (ps_dput (hu_of hr) (pe_fld (pv 0) rfl) (pv 1) (pe_lc (own := [("one", 4)]) (g := gName 4) rfl nn (pi_list (pe_dget (hu_of hr) (pe_fld (pv 0) rfl) (pv 1) (fun _ _ => rfl))) (blkOk_by (N := n_Relay_begin) (sc := defScope s_Relay_begin) (by decide +kernel))
            (fun _ _ _ _ _ => (pg_name (i := 4) nn rfl (by first | exact Or.inl rfl | exact Or.inr rfl))) (fun _ _ _ _ _ => pts_one (pt_cmpR op_ne (pv 4) (pv 2) (nomark _))) (fun _ _ _ _ _ => pv 4)) (by rfl))
        (pss_cons (ps_dput (hu_of hr) (pe_fld (pv 0) rfl) (pv 1) (pe_tup (pa_cons (pv 2) (pa_cons (pe_ix ix_tup (pv 3) pe_int (fun _ _ => rfl)) (pa_cons (pe_op op_mul (pe_fld (pv 0) rfl) (pe_ix ix_list (pe_dget (hu_of hr) (pe_fld (pv 0) rfl) (pv 2) (fun _ _ => rfl)) pe_int (fun _ _ => rfl))) pa_nil)))) (by rfl))
        (pss_cons (ps_dput (hu_of hr) (pe_fld (pv 0) rfl) (pe_ix ix_tup (pv 3) pe_int (fun _ _ => rfl)) (pe_tup (pa_cons (pv 2) (pa_cons pe_non (pa_cons pe_int pa_nil)))) (by rfl))
        (pss_cons (ps_expr (pe_bm PySem.F.plainAttrs_list PySem.F.slot_list_append PySem.F.type_list_append mt_append (pe_fld (pv 0) rfl) (pa_cons (pe_tup (pa_cons (pe_fld (pv 0) rfl) (pa_cons pe_str (pa_cons (pv 1) (pa_cons (pv 2) pa_nil))))) pa_nil)))
        (pss_one ps_retN))))) pss_nil)))), ?_⟩
    have dq : ∀ {H' : Hp}, Rel K B H' r dx Z x → DGet H' x.qs (.str t) (some (.ref a)) := fun R' => by
      have := DGet.k (k := Sum.inr t) R'.atQs
      rwa [valV_ents, hqt] at this
    have aq : ∀ {H' : Hp}, Rel K B H' r dx Z x → H' a = some (.lst (q.map V.str)) := fun R' => R'.atQu (look_in hqt)
    have epu : qOf x.pu.qu t = q := by unfold qOf; rw [pu_qu, hqt]; rfl
    refine ⟨_, rfl, r, _, dx, _, _, rfl, R.atR, C.t.c_Relay, C.t.a_Relay_queues, rfl, _, rfl, x.qs, _, rfl, dq R, a, rfl, ⟨_, SqL.of (aq R)⟩, ?_⟩
    refine for_list (xs := q.map V.str) (fun i σ H' => (∃ a2 a3, σ = [some (.ref r), some (.str t), a2, a3, none]) ∧ Le (T K) H H' ∧ ∀ n ∈ q.take i, (canGo Z.ts Z.lp x.pu t n).isSome = false)
      ⟨⟨_, _, rfl⟩, Le.refl R.tab, fun n hn => absurd hn List.not_mem_nil⟩ (fun i σ H' _ hP => SqL.of (aq (R.to hP.2.1))) (fun i v σ H1 hv ⟨⟨a2, a3, hσ⟩, L1, hno⟩ => ?_) (fun σ H1 ⟨⟨a2, a3, hσ⟩, L1, hno⟩ => ?_)
    rotate_left
    · subst hσ
      rw [List.length_map, List.take_length] at hno
      refine hq x H1 (R.to L1) ?_
      unfold RS.begin
      rw [epu, List.find?_eq_none.mpr fun n hn => by rw [hno n hn]; decide]
    subst hσ
    obtain ⟨n, hn, rfl⟩ := GX.get_map hv
    have hnq := List.mem_of_getElem? hn
    obtain ⟨ma, m, hmn, hme, hmt, hn1, hn50⟩ := hms n hnq
    have R1 := R.to L1
    have dm : ∀ {x' : RA} {H' : Hp}, x'.ms = x.ms → Rel K B H' r dx Z x' → DGet H' x'.me (.str n) (some (.ref ma)) := fun e R' => by
      have := DGet.k (k := Sum.inr n) R'.atMe
      rwa [valV_ents, e, hmn] at this
    have am : ∀ {x' : RA} {H' : Hp}, x'.ms = x.ms → Rel K B H' r dx Z x' → H' ma = some (.lst (msgV m)) := fun e R' => R'.atMs (look_in (by rw [e]; exact hmn))
    have een : eOf x.pu.ms n = m.e := by unfold eOf; rw [pu_ms, hmn]; rfl
    have enn : nOf x.pu.ms n = m.n := by unfold nOf; rw [pu_ms, hmn]; rfl
    have fst : (canGo Z.ts Z.lp x.pu t n).isSome = true → x.pu.begin Z.ts Z.lp Z.hold t = ({ x.pu with qu := setS x.pu.qu t (q.filter fun k => decide (k ≠ n)), bz := setS (setS x.pu.bz t (n, some ((canGo Z.ts Z.lp x.pu t n).getD ""), Z.hold * m.n)) ((canGo Z.ts Z.lp x.pu t n).getD "") (n, none, 0) } : RS).row "sends" t n := fun hc => by
      unfold RS.begin
      rw [epu, find_at hn hno hc]
      show RS.row _ "sends" t n = _
      rw [enn]
    have stp : (canGo Z.ts Z.lp x.pu t n).isSome = false → ∀ k ∈ q.take (i + 1), (canGo Z.ts Z.lp x.pu t k).isSome = false := fun hc k hk => by
      rw [GX.take_snoc hn] at hk
      rcases List.mem_append.mp hk with hk | hk
      · exact hno k hk
      · rw [List.mem_singleton.mp hk]; exact hc
    have ecg : canGo Z.ts Z.lp x.pu t n = match routeL Z.ts (nearF Z.ts Z.lp x.fog) t m.e with | some w => if inK x.pu.bz (way1 w) = true then none else some (way1 w) | none => none := by
      unfold canGo RS.rt
      rw [een]
      rfl
    refine ⟨_, rfl, r, dx, _, rfl, R1.atR, rfl, _, rfl, _, rfl, r, _, dx, _, _, rfl, R1.atR, C.t.c_Relay, C.t.a_Relay_messages, rfl, _, rfl, x.me, _, rfl, dm rfl R1, ma, _, _, _, rfl, rfl, SqL.of (am rfl R1), atI_nat (j := 1) rfl,
      B, r, dx, Z, x, t, m.e, rfl, R1, fun _ _ H2 L2 => ⟨fun hw => ?_, fun u w hw hu => ?_⟩, fun z => absurd ⟨hm, hme⟩ z⟩
    · rw [hw] at ecg
      exact ⟨_, rfl, _, rfl, iteF (iteF ⟨⟨_, _, rfl⟩, L1.trans L2, stp (by rw [ecg]; rfl)⟩)⟩
    · rw [hw] at ecg
      obtain ⟨Wy, hla⟩ := routeL_ok nearF_sub hm hw
      obtain ⟨o, tl, ew, ho, hot, ew1⟩ := way_two Wy hla hmt
      have R2 := R1.to L2
      have L2' := L1.trans L2
      have au : ∀ {H' : Hp}, H' u = some (.tup (w.map V.str)) → SqT K H' u (w.map V.str) := fun h => SqT.of h
      have at1 : atI (w.map V.str) (1 : Nat) = some (.str o) := atI_nat (by rw [ew]; rfl)
      refine ⟨_, rfl, _, rfl, iteT ⟨_, rfl, u, _, _, _, rfl, rfl, SqT.of hu, at1, _, rfl, r, _, dx, _, _, rfl, R2.atR, C.t.c_Relay, C.t.a_Relay_busy, rfl, x.bu, _, rfl, DGet.k (k := Sum.inr o) R2.atBu, _, rfl, ?_⟩⟩
      rw [valV_ents, Option.isSome_map]
      have eib : inK x.pu.bz (way1 w) = (look x.bz o).isSome := by
        unfold inK
        rw [pu_bz, ew1, Option.isSome_map]
      have ecg : canGo Z.ts Z.lp x.pu t n = if inK x.pu.bz (way1 w) = true then none else some (way1 w) := ecg
      rw [eib, ew1] at ecg
      cases hb : (look x.bz o).isSome with
      | true =>
        rw [hb, if_pos rfl] at ecg
        exact iteF ⟨⟨_, _, rfl⟩, L2', stp (by rw [ecg]; rfl)⟩
      | false =>
        rw [hb, if_neg (by decide)] at ecg
        have fst := fst (by rw [ecg]; rfl)
        rw [ecg] at fst
        have fst : x.pu.begin Z.ts Z.lp Z.hold t = ({ x.pu with qu := setS x.pu.qu t (q.filter fun k => decide (k ≠ n)), bz := setS (setS x.pu.bz t (n, some o, Z.hold * m.n)) o (n, none, 0) } : RS).row "sends" t n := fst
        rw [fst] at hq
        clear fst stp ecg hno
        refine iteT ?_
        refine ⟨_, rfl, r, _, dx, _, _, rfl, R2.atR, C.t.c_Relay, C.t.a_Relay_queues, rfl, _, rfl, x.qs, _, rfl, dq R2, a, rfl, ⟨_, SqL.of (aq R2)⟩, fun D hD => ?_⟩
        refine lc_pick (K := K) (T := T K) (xs := q) (f := V.str) (fun k => decide (k ≠ n)) V.str (walksVL (SqL.of (aq R2))) R2.tab hD (Nat.le_trans lq (by decide)) (fun k hk H3 Y N L3 hY hN => ⟨rfl, ?_⟩) (fun H3 L3 h3 => ?_)
        · refine ⟨_, rfl, _, rfl, rfl, _, rfl, ?_⟩
          by_cases c : k = n
          · subst c
            rw [decide_eq_true rfl]
            exact iteF (hN _ (Le.refl L3.tab) (by simp))
          · exact iteNT (fun z => c (V.str.inj z)) ⟨_, rfl, hY _ (Le.refl L3.tab) (by simpa using c)⟩
        have hf := R2.fresh hD
        have hB := R2.le.no _ hD
        have R3 := R2.to L3
        have L3' := L2'.trans L3
        have q60 : x.qu.length < sizeLine := Nat.lt_of_le_of_lt lqu (by decide)
        refine ⟨_, rfl, r, _, dx, _, _, rfl, R3.atR, C.t.c_Relay, C.t.a_Relay_queues, rfl, _, rfl, x.qs, _, rfl, DPut.k (k := Sum.inr t) R3.atQs (by rw [ents_len]; exact q60), ?_⟩
        rw [show V.ref D = rf (D, q.filter fun k => decide (k ≠ n)) from rfl, put_setS]
        have R4 := R3.queDS ndq hqt h3 hf hB
        have hu3 := L3.at hu
        have hu4 := (upd_ne (o := .dK (ents rf (setS x.qu t (D, q.filter fun k => decide (k ≠ n))))) (fun z : u = x.qs => by rw [z, R3.atQs] at hu3; cases hu3)).trans hu3
        generalize upd H3 x.qs _ = H4 at R4 hu4 ⊢
        have d4 := dm (x' := { x with qu := setS x.qu t (D, q.filter fun k => decide (k ≠ n)) }) rfl R4
        have a4 := am (x' := { x with qu := setS x.qu t (D, q.filter fun k => decide (k ≠ n)) }) rfl R4
        refine ⟨_, rfl, _, rfl, u, _, _, _, rfl, rfl, SqT.of hu4, at1, _, rfl, r, _, dx, _, _, rfl, R4.atR, C.t.c_Relay, C.t.a_Relay_hold, rfl, _, rfl, r, _, dx, _, _, rfl, R4.atR, C.t.c_Relay, C.t.a_Relay_messages, rfl, _, rfl, x.me, _, rfl, d4, ma, _, _, _, rfl, rfl, SqL.of a4, atI_nat (j := 2) rfl, _, _, rfl, rfl, .inl ⟨by omega, by omega⟩, by show 3 ≤ sizeLine; decide, fun p hp => ?_⟩
        have R5 := R4.bzN hp t (n, some o, Z.hold * m.n)
        have R5' := R4.new (o := .tup (bzV (n, some o, Z.hold * m.n))) hp
        have hu5 := (upd_ne (o := .tup (bzV (n, some o, Z.hold * m.n))) (ne_of_none hu4 hp)).trans hu4
        refine ⟨_, rfl, r, _, dx, _, _, rfl, R5'.atR, C.t.c_Relay, C.t.a_Relay_busy, rfl, _, rfl, x.bu, _, rfl, DPut.k (k := Sum.inr t) R5'.atBu (by rw [ents_len]; exact Nat.lt_of_le_of_lt lbz (by decide)), ?_⟩
        rw [show V.ref p = rf (p, ((n, some o, Z.hold * m.n) : Bz)) from rfl, put_setS]
        have hu6 := (upd_ne (o := .dK (ents rf (setS x.bz t (p, ((n, some o, Z.hold * m.n) : Bz))))) (fun z : u = x.bu => by have := R5'.atBu; rw [z] at hu5; rw [hu5] at this; cases this)).trans hu5
        have hu6 : (upd (upd H4 p (.tup [.str n, .str o, .int (Z.hold * m.n)])) x.bu (.dK (ents rf (setS x.bz t (p, ((n, some o, Z.hold * m.n) : Bz)))))) u = some (.tup (w.map V.str)) := hu6
        change Rel K B (upd (upd H4 p (.tup [.str n, .str o, .int (Z.hold * m.n)])) x.bu (.dK (ents rf (setS x.bz t (p, ((n, some o, Z.hold * m.n) : Bz)))))) r dx Z _ at R5
        generalize upd (upd H4 p (.tup [.str n, .str o, .int (Z.hold * m.n)])) x.bu _ = H5 at R5 hu6 ⊢
        clear R4 R5' hu4 hu5 hp
        refine ⟨_, rfl, by show 3 ≤ sizeLine; decide, fun p2 hp2 => ?_⟩
        have R6 := R5.bzN hp2 o (n, none, 0)
        have R6' := R5.new (o := .tup (bzV (n, none, 0))) hp2
        have hu7 := (upd_ne (o := .tup (bzV (n, none, 0))) (ne_of_none hu6 hp2)).trans hu6
        refine ⟨_, rfl, r, _, dx, _, _, rfl, R6'.atR, C.t.c_Relay, C.t.a_Relay_busy, rfl, _, rfl, u, _, _, _, rfl, rfl, SqT.of hu7, at1, x.bu, _, rfl, DPut.k (k := Sum.inr o) R6'.atBu (by rw [ents_len]; exact Nat.lt_of_le_of_lt (Nat.le_trans setS_len (Nat.succ_le_succ lbz)) (by decide)), ?_⟩
        rw [show V.ref p2 = rf (p2, ((n, none, 0) : Bz)) from rfl, put_setS]
        change Rel K B (upd (upd H5 p2 (.tup [.str n, .non, .int 0])) x.bu (.dK (ents rf (setS (setS x.bz t (p, ((n, some o, Z.hold * m.n) : Bz))) o (p2, ((n, none, 0) : Bz)))))) r dx Z _ at R6
        generalize upd (upd H5 p2 (.tup [.str n, .non, .int 0])) x.bu _ = H6 at R6 ⊢
        refine ⟨_, rfl, r, _, dx, _, _, rfl, R6.atR, C.t.c_Relay, C.t.a_Relay_rows, rfl, .inl ⟨rfl, _, SqL.of R6.atRo⟩, _, rfl, r, _, dx, _, _, rfl, R6.atR, C.t.c_Relay, C.t.a_Relay_minute, rfl, _, rfl, _, rfl, by show 4 ≤ sizeLine; decide, fun p3 hp3 => ⟨_, _, _, rfl, rfl, (R6.new hp3).atRo, ?_, hq _ _ (R6.rowF (x.mi, "sends", t, n) hp3) ?_⟩⟩
        · rw [List.length_map]
          exact Nat.lt_of_le_of_lt lrw (by decide)
        · refine (pu_row (x := { x with qu := setS x.qu t (D, q.filter fun k => decide (k ≠ n)), bz := setS (setS x.bz t (p, ((n, some o, Z.hold * m.n) : Bz))) o (p2, ((n, none, 0) : Bz)) }) p3 "sends" t n).trans ?_
          refine congrArg (fun y : RS => y.row "sends" t n) ?_
          show RS.mk _ _ _ _ _ _ = RS.mk _ _ _ _ _ _
          rw [drop1_set, drop1_set, drop1_set]
          rfl
end
end K6

-- text K6K
set_option maxRecDepth 100000
set_option maxHeartbeats 4000000
namespace K6
open PySem PySem.Spec PyProof.Rows L2 LamX GX
section
variable {P : Program} {w : World} {K : PySem.W.Frag} {mg : Str → Option Value} {base : Heap}
/-! ### where, took, least -/
theorem walksVK {α : Type} {TT : List (Addr × Str)} {H1 : Hp} {cs : SD α} {f : α → V} {d : Addr} {o : Obj} (h : H1 d = some (.frz o (.dK (ents f cs)))) : WalksV K TT H1 (cs.map fun p => V.str p.1) (Itk d o (ents f cs)) where
  go i H' l hi := ⟨l.at h, by rw [ents_len]; rwa [List.length_map] at hi⟩
  stop H' l := ⟨l.at h, by rw [ents_len, List.length_map]; exact Nat.le_refl _⟩
  yld i H' x H'' l y := by
    obtain ⟨e, k, v, hk, rfl⟩ := y
    refine ⟨e, ?_⟩
    unfold ents at hk
    rw [List.getElem?_map] at hk ⊢
    obtain ⟨p, hp, e2⟩ := Option.map_eq_some_iff.mp hk
    cases e2
    rw [hp]
    rfl
def sendN (bz : SD Bz) (n : Str) : List Str := (bz.filter fun p => decide (p.2.1 = n) && p.2.2.1.isSome).map (·.1)
def whereP (ts : List Str) (x : RS) (n : Str) : Option (Str × Str) :=
  match look x.ms n with
  | none => none
  | some m => if m.th = true then some ("there", m.e) else
    match ts.find? fun t => decide (n ∈ qOf x.qu t) with
    | some t => some ("waits", t)
    | none => match sendN x.bz n with
      | s :: _ => some ("sent", s)
      | [] => none
def spWhere (K : PySem.W.Frag) : Sp := fun vs H Q E => ∃ B r dx Z x n, vs = [.ref r, .str n] ∧ Rel K B H r dx Z x ∧ x.bz.length ≤ 200 ∧ (x.bz.map (·.1)).Nodup ∧ (∀ t ∈ Z.ts, ∃ a q, look x.qu t = some (a, q)) ∧ (look x.ms n = none → ∀ H', Le (T K) H H' → E (.ref (aRE K)) none H') ∧
  (∀ v, look x.ms n = some v → ∃ u, whereP Z.ts x.pu n = some u ∧ ∀ H' p, Le (T K) H H' → H' p = some (.tup [.str u.1, .str u.2]) → Q (.ref p) H')
theorem ok_where (C : Ctx K mg base) : MetX P w K mg base 1 (aRl K) "where" ["self", "name"] (spWhere K) := by
  obtain ⟨fd, F⟩ := C.d.d_Relay_where
  refine ⟨_, fd, ?_, F.funD.bindsN fun _ _ _ _ _ _ us hl => (match us, hl with | [_, _], _ => rfl), C.t.t_Relay_where, C.t.c_Relay⟩
  refine F.ok sc_Relay_where (fun vs H Q E h => ?_) (fun A outer s H vs Q E hr h => ?_)
  · obtain ⟨B, r, dx, Z, x, n, rfl, _⟩ := h
    rfl
  · obtain ⟨B, r, dx, Z, x, n, rfl, R, lbz, ndb, hqu, hno, hq⟩ := h
    obtain ⟨e1, e2, e3, e4⟩ := C.t.e_RelayError
    have nn := sc_Relay_where.nd
    refine ⟨_, pss_cons (ps_if (pt_cmp (pc_dnotin (hu_of hr) (pv 1) (pe_fld (pv 0) rfl))) (pss_one (ps_raise rfl takesA (pmk_own PySem.F.excBase_ValueError e1 C.t.m_RelayError e2 (raises_own e3 e4) (by rfl)))) pss_nil)
      (pss_cons (ps_if (pt_cmpR op_eq (pe_ix ix_list (pe_dget (hu_of hr) (pe_fld (pv 0) rfl) (pv 1) (fun _ _ => rfl)) pe_int (fun _ _ => rfl)) pe_str (nomark _))
        (pss_one (ps_ret (pe_tup (pa_cons pe_str (pa_cons (pe_ix ix_list (pe_dget (hu_of hr) (pe_fld (pv 0) rfl) (pv 1) (fun _ _ => rfl)) pe_int (fun _ _ => rfl)) pa_nil))))) pss_nil)
      (pss_cons (ps_for ownsA rfl (pi_tup (pe_fld (pv 0) rfl)) (pg_name (i := 2) nn rfl (by first | exact Or.inl rfl | exact Or.inr rfl))
        (pss_one (ps_if (pt_cmpR op_in_seq (pv 1) (pe_dget (hu_of hr) (pe_fld (pv 0) rfl) (pv 2) (fun _ _ => rfl)) rfl) (pss_one (ps_ret (pe_tup (pa_cons pe_str (pa_cons (pv 2) pa_nil))))) pss_nil)))
      (pss_cons (ps_lock (ps_setLc (i := 3) (own := [("tower", 2)]) (g := gName 2) rfl nn rfl rfl (sw_true rfl rfl rfl (by decide +kernel)) (pi_keys (pe_fld (pv 0) rfl)) (blkOk_by (N := n_Relay_where) (sc := defScope s_Relay_where) (by decide +kernel))
          (fun _ _ _ _ _ => (pg_name (i := 2) nn rfl (by first | exact Or.inl rfl | exact Or.inr rfl))) (fun _ _ _ _ _ => pts_one (PW.pt (pw_and (pt_cmpR op_eq (pe_ix (r := rIxT K) ix_tup (pe_dget (hu_of hr) (pe_fldK (K := K) rfl (pv 0) rfl) (pv 2) (fun _ _ => rfl)) pe_int (fun _ _ => rfl)) (pv 1) (nomark _)) (pw_and1 (pt_cmp (pc_notN (pe_ix (r := rIxT K) ix_tup (pe_dget (hu_of hr) (pe_fldK (K := K) rfl (pv 0) rfl) (pv 2) (fun _ _ => rfl)) pe_int (fun _ _ => rfl)))))))) (fun _ _ _ _ _ => pv 2)))
      (pss_one (ps_ret (pe_tup (pa_cons pe_str (pa_cons (pe_ix ix_list (pv 3) pe_int (fun _ _ => rfl)) pa_nil)))))))), ?_⟩
    refine ⟨_, rfl, _, rfl, r, _, dx, _, _, rfl, R.atR, C.t.c_Relay, C.t.a_Relay_messages, rfl, x.me, _, rfl, DGet.k (k := Sum.inr n) R.atMe, _, rfl, ?_⟩
    rw [valV_ents, Option.isSome_map]
    rcases look_or x.ms n with hx | ⟨⟨ma, m⟩, hx⟩
    · rw [hx]; exact iteT (hno hx _ (Le.refl R.tab))
    rw [hx]
    obtain ⟨u, hu, hq⟩ := hq _ hx
    refine iteF ?_
    have dm : DGet H x.me (.str n) (some (.ref ma)) := by
      have := DGet.k (k := Sum.inr n) R.atMe
      rwa [valV_ents, hx] at this
    have am := R.atMs (look_in hx)
    have ew : whereP Z.ts x.pu n = if m.th = true then some (("there" : Str), m.e) else
        match Z.ts.find? fun t => decide (n ∈ qOf x.pu.qu t) with
        | some t => some (("waits" : Str), t)
        | none => match sendN x.pu.bz n with
          | s :: _ => some (("sent" : Str), s)
          | [] => none := by
      unfold whereP
      rw [pu_ms, hx]
      rfl
    rw [ew] at hu
    refine ⟨_, rfl, r, _, dx, _, _, rfl, R.atR, C.t.c_Relay, C.t.a_Relay_messages, rfl, _, rfl, x.me, _, rfl, dm, ma, _, _, _, rfl, rfl, SqL.of am, atI_nat (j := 4) rfl, rfl, _, rfl, ?_⟩
    cases hth : m.th with
    | true =>
      rw [hth, if_pos rfl] at hu
      obtain rfl := Option.some.inj hu
      refine iteDT rfl ?_
      exact ⟨_, rfl, r, _, dx, _, _, rfl, R.atR, C.t.c_Relay, C.t.a_Relay_messages, rfl, _, rfl, x.me, _, rfl, dm, ma, _, _, _, rfl, rfl, SqL.of am, atI_nat (j := 1) rfl, by show 2 ≤ sizeLine; decide, fun p hp => hq _ p ((Le.refl R.tab).new hp) upd_same⟩
    | false =>
    rw [hth, if_neg (by decide)] at hu
    refine iteDF (fun z => absurd (V.str.inj z) (by decide)) ?_
    refine ⟨_, rfl, r, _, dx, _, _, rfl, R.atR, C.t.c_Relay, C.t.a_Relay_towers, rfl, Z.tw, rfl, ⟨_, SqT.of R.st.tw⟩, ?_⟩
    refine for_tup (xs := Z.ts.map V.str) (fun i σ H' => (∃ a2, σ = [some (.ref r), some (.str n), a2, none]) ∧ H' = H ∧ ∀ t ∈ Z.ts.take i, decide (n ∈ qOf x.pu.qu t) = false)
      ⟨⟨_, rfl⟩, rfl, fun t ht => absurd ht List.not_mem_nil⟩ (fun i σ H' _ hP => by rw [hP.2.1]; exact SqT.of R.st.tw) (fun i v σ H1 hv ⟨⟨a2, hσ⟩, h1, hnt⟩ => ?_) (fun σ H1 ⟨⟨a2, hσ⟩, h1, hnt⟩ => ?_)
    · subst hσ
      subst h1
      obtain ⟨t, ht, rfl⟩ := GX.get_map hv
      obtain ⟨a, q, hqt⟩ := hqu t (List.mem_of_getElem? ht)
      have eq : qOf x.pu.qu t = q := by unfold qOf; rw [pu_qu, hqt]; rfl
      have dq : DGet H1 x.qs (.str t) (some (.ref a)) := by
        have := DGet.k (k := Sum.inr t) R.atQs
        rwa [valV_ents, hqt] at this
      refine ⟨_, rfl, _, rfl, r, _, dx, _, _, rfl, R.atR, C.t.c_Relay, C.t.a_Relay_queues, rfl, _, rfl, x.qs, _, rfl, dq, a, _, rfl, .inl (SqL.of (R.atQu (look_in hqt))), rfl, flat_strs' q, _, rfl, ?_⟩
      show (if inV (.str n) (q.map V.str) = true then _ else _)
      rw [inV_strs]
      by_cases c : n ∈ q
      · refine iteDT c ⟨_, rfl, by show 2 ≤ sizeLine; decide, fun p hp => ?_⟩
        rw [find_at ht hnt (by rw [eq]; exact decide_eq_true c)] at hu
        obtain rfl := Option.some.inj hu
        exact hq _ p ((Le.refl R.tab).new hp) upd_same
      · refine iteDF c ⟨⟨_, rfl⟩, rfl, fun y hy => ?_⟩
        rw [GX.take_snoc ht] at hy
        rcases List.mem_append.mp hy with hy | hy
        · exact hnt y hy
        · rw [List.mem_singleton.mp hy, eq]; exact decide_eq_false c
    · subst hσ
      subst h1
      rw [List.length_map, List.take_length] at hnt
      rw [List.find?_eq_none.mpr fun y hy => by rw [hnt y hy]; decide] at hu
      have hu : (match sendN x.pu.bz n with | s :: _ => some (("sent" : Str), s) | [] => none) = some u := hu
      refine ⟨x.bu, _, R.atBu, trivial, fun od => ?_⟩
      have hrd : r ≠ x.bu := fun z => by have := R.atR; rw [z, R.atBu] at this; cases this
      have TL := tabs_lock (o := od) R.tab R.atBu trivial
      have hr1 := at_lock (o := od) (u := .dK (ents rf x.bz)) R.atR hrd
      have ht1 : ∀ p ∈ x.bz, upd H1 x.bu (.frz od (.dK (ents rf x.bz))) p.2.1 = some (.tup (bzV p.2.2)) := fun p hp => at_lock (R.bzt p hp) fun z => by
        have := R.bzt p hp
        rw [z, R.atBu] at this
        cases this
      refine ⟨_, rfl, r, _, dx, _, _, rfl, hr1, C.t.c_Relay, C.t.a_Relay_busy, rfl, x.bu, od, rfl, .inl ⟨_, upd_same, fun D hD => ?_⟩⟩
      refine lc_pick (K := K) (T := T K) (xs := x.bz) (f := fun p => V.str p.1) (fun p => decide (p.2.2.1 = n) && p.2.2.2.1.isSome) (fun p => V.str p.1) (walksVK upd_same) TL hD (Nat.le_trans lbz (by decide)) (fun p hp H3 Y N L3 hY hN => ⟨rfl, ?_⟩) (fun H3 L3 h3 => ?_)
      · have dp : DGet H3 x.bu (.str p.1) (some (.ref p.2.1)) := dget_rd (f := rf) (.inr ⟨od, L3.at upd_same⟩) (look_of ndb hp)
        have tp := L3.at (ht1 p hp)
        refine ⟨_, rfl, r, _, dx, _, _, rfl, L3.at hr1, C.t.c_Relay, C.t.a_Relay_busy, rfl, _, rfl, x.bu, _, rfl, dp, p.2.1, _, _, _, rfl, rfl, SqT.of tp, atI_nat (j := 0) rfl, _, rfl, rfl, _, rfl, ?_⟩
        by_cases c : p.2.2.1 = n
        · refine iteDT (congrArg V.str c) ⟨_, rfl, r, _, dx, _, _, rfl, L3.at hr1, C.t.c_Relay, C.t.a_Relay_busy, rfl, _, rfl, x.bu, _, rfl, dp, p.2.1, _, _, _, rfl, rfl, SqT.of tp, atI_nat (j := 1) rfl, _, rfl, ?_⟩
          cases ho : p.2.2.2.1 with
          | none => exact iteF (hN _ (Le.refl L3.tab) (by rw [ho, decide_eq_true c]; rfl))
          | some o => exact iteT ⟨_, rfl, hY _ (Le.refl L3.tab) (by rw [ho, decide_eq_true c]; rfl)⟩
        · exact iteDF (fun z => c (V.str.inj z)) (iteF (hN _ (Le.refl L3.tab) (by rw [decide_eq_false c]; rfl)))
      · have es : sendN x.pu.bz n = (x.bz.filter fun p => decide (p.2.2.1 = n) && p.2.2.2.1.isSome).map (·.1) := by
          unfold sendN
          show ((x.bz.map fun p => (p.1, p.2.2)).filter _).map _ = _
          rw [List.filter_map, List.map_map]
          rfl
        have L4 : Le (T K) H1 (upd H3 x.bu (.dK (ents rf x.bz))) := Le.unlock R.atBu trivial L3
        have hD4 : upd H3 x.bu (.dK (ents rf x.bz)) D = some (.lst ((x.bz.filter fun p => decide (p.2.2.1 = n) && p.2.2.2.1.isSome).map fun p => V.str p.1)) := (upd_ne (fun z : D = x.bu => by rw [z, upd_same] at hD; cases hD)).trans h3
        refine ⟨L3.at upd_same, ?_⟩
        generalize upd H3 x.bu (.dK (ents rf x.bz)) = H4 at L4 hD4 ⊢
        rw [es] at hu
        cases hS : (x.bz.filter fun p => decide (p.2.2.1 = n) && p.2.2.2.1.isSome) with
        | nil => rw [hS] at hu; cases hu
        | cons s0 rest =>
          rw [hS] at hu hD4
          obtain rfl : (("sent" : Str), s0.1) = u := Option.some.inj hu
          exact ⟨_, rfl, D, _, _, _, rfl, rfl, SqL.of hD4, atI_nat (j := 0) rfl, by show 2 ≤ sizeLine; decide, fun p hp => hq _ p (L4.new hp) upd_same⟩
/-- the minutes of a message's rows of one kind -/
def minsOf (rw : List Row4) (what n : Str) : List Int := (rw.filter fun y => decide (y.2.1 = what) && decide (y.2.2.2 = n)).map (·.1)
def spTook (K : PySem.W.Frag) : Sp := fun vs H Q E => ∃ B r dx Z x n, vs = [.ref r, .str n] ∧ Rel K B H r dx Z x ∧ x.bz.length ≤ 200 ∧ (x.bz.map (·.1)).Nodup ∧ x.rw.length ≤ 100000 ∧ (∀ t ∈ Z.ts, ∃ a q, look x.qu t = some (a, q)) ∧ (look x.ms n = none → ∀ H', Le (T K) H H' → E (.ref (aRE K)) none H') ∧
  (∀ v, look x.ms n = some v → ∃ u, whereP Z.ts x.pu n = some u ∧ (u.1 ≠ "there" → ∀ H', Le (T K) H H' → Q .non H') ∧ (u.1 = "there" → ∃ g gs d ds, minsOf x.pu.rw "given" n = g :: gs ∧ minsOf x.pu.rw "there" n = d :: ds ∧ ∀ H', Le (T K) H H' → Q (.int (d - g)) H'))
theorem ok_took (C : Ctx K mg base) : MetX P w K mg base 2 (aRl K) "took" ["self", "name"] (spTook K) := by
  obtain ⟨fd, F⟩ := C.d.d_Relay_took
  refine ⟨_, fd, ?_, F.funD.bindsN fun _ _ _ _ _ _ us hl => (match us, hl with | [_, _], _ => rfl), C.t.t_Relay_took, C.t.c_Relay⟩
  refine F.ok sc_Relay_took (fun vs H Q E h => ?_) (fun A outer s H vs Q E hr h => ?_)
  · obtain ⟨B, r, dx, Z, x, n, rfl, _⟩ := h
    rfl
  · obtain ⟨B, r, dx, Z, x, n, rfl, R, lbz, ndb, lrw, hqu, hno, hq⟩ := h
    obtain ⟨fW, fdW, FW, bW, mW, cW⟩ := ok_where (P := P) (w := w) C
    have nn := sc_Relay_took.nd
    refine ⟨_, pss_cons (ps_if (pt_cmpR op_ne (pe_ix ix_tup (pe_meth (pv 0) cW mW FW (hr.mono (by decide)) bW .nil passA (pa_cons (pv 1) pa_nil)) pe_int (fun _ _ => rfl)) pe_str (nomark _)) (pss_one (ps_ret pe_non)) pss_nil)
      (pss_cons (ps_setLc (i := 2) (own := [("minute", 4), ("what", 5), ("tower", 6), ("one", 7)]) (g := gTup K 4 (gCons (gName 4) (gCons (gName 5) (gCons (gName 6) (gCons (gName 7) gNil))))) rfl nn rfl rfl (sw_true rfl rfl rfl (by decide +kernel)) (pi_list (pe_fld (pv 0) rfl)) (blkOk_by (N := n_Relay_took) (sc := defScope s_Relay_took) (by decide +kernel))
          (fun _ _ _ _ _ => by exact pg_tup rfl (pgs_cons (pg_name (i := 4) nn rfl (by first | exact Or.inl rfl | exact Or.inr rfl)) (pgs_cons (pg_name (i := 5) nn rfl (by first | exact Or.inl rfl | exact Or.inr rfl)) (pgs_cons (pg_name (i := 6) nn rfl (by first | exact Or.inl rfl | exact Or.inr rfl)) (pgs_cons (pg_name (i := 7) nn rfl (by first | exact Or.inl rfl | exact Or.inr rfl)) pgs_nil))))) (fun _ _ _ _ _ => pts_one (PW.pt (pw_and (pt_cmpR op_eq (pv 5) pe_str (nomark _)) (pw_and1 (pt_cmpR op_eq (pv 7) (pv 1) (nomark _)))))) (fun _ _ _ _ _ => pv 4))
      (pss_cons (ps_setLc (i := 3) (own := [("minute", 4), ("what", 5), ("tower", 6), ("one", 7)]) (g := gTup K 4 (gCons (gName 4) (gCons (gName 5) (gCons (gName 6) (gCons (gName 7) gNil))))) rfl nn rfl rfl (sw_true rfl rfl rfl (by decide +kernel)) (pi_list (pe_fld (pv 0) rfl)) (blkOk_by (N := n_Relay_took) (sc := defScope s_Relay_took) (by decide +kernel))
          (fun _ _ _ _ _ => by exact pg_tup rfl (pgs_cons (pg_name (i := 4) nn rfl (by first | exact Or.inl rfl | exact Or.inr rfl)) (pgs_cons (pg_name (i := 5) nn rfl (by first | exact Or.inl rfl | exact Or.inr rfl)) (pgs_cons (pg_name (i := 6) nn rfl (by first | exact Or.inl rfl | exact Or.inr rfl)) (pgs_cons (pg_name (i := 7) nn rfl (by first | exact Or.inl rfl | exact Or.inr rfl)) pgs_nil))))) (fun _ _ _ _ _ => pts_one (PW.pt (pw_and (pt_cmpR op_eq (pv 5) pe_str (nomark _)) (pw_and1 (pt_cmpR op_eq (pv 7) (pv 1) (nomark _)))))) (fun _ _ _ _ _ => pv 4))
      (pss_one (ps_ret (pe_op op_sub (pe_ix ix_list (pv 3) pe_int (fun _ _ => rfl)) (pe_ix ix_list (pv 2) pe_int (fun _ _ => rfl))))))), ?_⟩
    rcases look_or x.ms n with hx | ⟨v, hx⟩
    · refine ⟨_, rfl, r, dx, _, rfl, R.atR, rfl, _, rfl, B, r, dx, Z, x, n, rfl, R, lbz, ndb, hqu, hno, fun v hv => by rw [hx] at hv; cases hv⟩
    obtain ⟨u, hu, hq1, hq2⟩ := hq _ hx
    refine ⟨_, rfl, r, dx, _, rfl, R.atR, rfl, _, rfl, B, r, dx, Z, x, n, rfl, R, lbz, ndb, hqu, hno, fun v hv => ⟨u, hu, fun H1 p L1 hp => ?_⟩⟩
    refine ⟨p, _, _, _, rfl, rfl, SqT.of hp, atI_nat (j := 0) rfl, rfl, _, rfl, ?_⟩
    by_cases c : u.1 = "there"
    rotate_left
    · exact iteDN (fun z => c (V.str.inj z)) (hq1 c _ L1)
    show (if (!decide (V.str u.1 = V.str "there")) = true then _ else _)
    rw [decide_eq_true (congrArg V.str c)]
    refine iteF ?_
    obtain ⟨g, gs, d, ds, hg, hd, hq⟩ := hq2 c
    have R1 := R.to L1
    refine ⟨_, rfl, r, _, dx, _, _, rfl, R1.atR, C.t.c_Relay, C.t.a_Relay_rows, rfl, x.ro, rfl, ⟨_, SqL.of R1.atRo⟩, fun D hD => ?_⟩
    have em : ∀ what, minsOf x.pu.rw what n = (x.rw.filter fun y => decide (y.2.2.1 = what) && decide (y.2.2.2.2 = n)).map (fun y => y.2.1) := fun what => by
      unfold minsOf
      show ((x.rw.map (·.2)).filter _).map _ = _
      rw [List.filter_map, List.map_map]
      rfl
    have ev : ∀ what, (x.rw.filter fun y => decide (y.2.2.1 = what) && decide (y.2.2.2.2 = n)).map (fun y => V.int y.2.1) = (minsOf x.pu.rw what n).map V.int := fun what => by
      rw [em, List.map_map]
      rfl
    refine lc_pick (K := K) (T := T K) (xs := x.rw) (f := rf) (fun y => decide (y.2.2.1 = "given") && decide (y.2.2.2.2 = n)) (fun y => V.int y.2.1) (walksVL (SqL.of R1.atRo)) R1.tab hD lrw (fun y hy H3 Y N L3 hY hN => ?_) (fun H4 LH4 hH4 => ?_)
    · refine ⟨y.1, _, rfl, SqT.of (L3.at (R1.rwt y hy)), rfl, _, _, rfl, _, _, rfl, _, _, rfl, _, _, rfl, rfl, rfl, ?_⟩
      refine ⟨_, rfl, rfl, _, rfl, ?_⟩
      by_cases c1 : y.2.2.1 = "given"
      · refine iteDT (congrArg V.str c1) ⟨_, rfl, _, rfl, rfl, _, rfl, ?_⟩
        by_cases c2 : y.2.2.2.2 = n
        · exact iteDT (congrArg V.str c2) ⟨_, rfl, hY _ (Le.refl L3.tab) (by rw [decide_eq_true c1, decide_eq_true c2]; rfl)⟩
        · exact iteDF (fun z => c2 (V.str.inj z)) (hN _ (Le.refl L3.tab) (by rw [decide_eq_true c1, decide_eq_false c2]; rfl))
      · exact iteDF (fun z => c1 (V.str.inj z)) (iteF (hN _ (Le.refl L3.tab) (by rw [decide_eq_false c1]; rfl)))
    rw [ev] at hH4
    have R4 := R1.to LH4
    refine ⟨_, rfl, r, _, dx, _, _, rfl, R4.atR, C.t.c_Relay, C.t.a_Relay_rows, rfl, x.ro, rfl, ⟨_, SqL.of R4.atRo⟩, fun D2 hD2 => ?_⟩
    refine lc_pick (K := K) (T := T K) (xs := x.rw) (f := rf) (fun y => decide (y.2.2.1 = "there") && decide (y.2.2.2.2 = n)) (fun y => V.int y.2.1) (walksVL (SqL.of R4.atRo)) R4.tab hD2 lrw (fun y hy H3 Y N L3 hY hN => ?_) (fun H5 LH5 hH5 => ?_)
    · refine ⟨y.1, _, rfl, SqT.of (L3.at (R4.rwt y hy)), rfl, _, _, rfl, _, _, rfl, _, _, rfl, _, _, rfl, rfl, rfl, ?_⟩
      refine ⟨_, rfl, rfl, _, rfl, ?_⟩
      by_cases c1 : y.2.2.1 = "there"
      · refine iteDT (congrArg V.str c1) ⟨_, rfl, _, rfl, rfl, _, rfl, ?_⟩
        by_cases c2 : y.2.2.2.2 = n
        · exact iteDT (congrArg V.str c2) ⟨_, rfl, hY _ (Le.refl L3.tab) (by rw [decide_eq_true c1, decide_eq_true c2]; rfl)⟩
        · exact iteDF (fun z => c2 (V.str.inj z)) (hN _ (Le.refl L3.tab) (by rw [decide_eq_true c1, decide_eq_false c2]; rfl))
      · exact iteDF (fun z => c1 (V.str.inj z)) (iteF (hN _ (Le.refl L3.tab) (by rw [decide_eq_false c1]; rfl)))
    rw [ev] at hH5
    have h4 := LH5.at hH4
    rw [hg] at h4
    rw [hd] at hH5
    exact ⟨_, rfl, D2, _, _, _, rfl, rfl, SqL.of hH5, atI_nat (j := 0) rfl, _, rfl, D, _, _, _, rfl, rfl, SqL.of h4, atI_nat (j := 0) rfl, _, _, rfl, rfl, hq _ ((L1.trans LH4).trans LH5)⟩
def spLeast (K : PySem.W.Frag) : Sp := fun vs H Q E => ∃ B r dx Z x n, vs = [.ref r, .str n] ∧ Rel K B H r dx Z x ∧ 1 ≤ Z.hold ∧ Z.hold ≤ 20 ∧ (look x.ms n = none → ∀ H', Le (T K) H H' → E (.ref (aRE K)) none H') ∧
  (∀ a m, look x.ms n = some (a, m) → m.s ∈ Z.ts ∧ m.e ∈ Z.ts ∧ 1 ≤ m.n ∧ m.n ≤ 50 ∧ ∀ H', Le (T K) H H' → match x.pu.rt Z.ts Z.lp m.s m.e with | none => Q .non H' | some w => Q (.int (((w.length : Int) - 1) * Z.hold * m.n + 1)) H')
theorem ok_least (C : Ctx K mg base) : MetX P w K mg base 4 (aRl K) "least" ["self", "name"] (spLeast K) := by
  obtain ⟨fd, F⟩ := C.d.d_Relay_least
  refine ⟨_, fd, ?_, F.funD.bindsN fun _ _ _ _ _ _ us hl => (match us, hl with | [_, _], _ => rfl), C.t.t_Relay_least, C.t.c_Relay⟩
  refine F.ok sc_Relay_least (fun vs H Q E h => ?_) (fun A outer s H vs Q E hr h => ?_)
  · obtain ⟨B, r, dx, Z, x, n, rfl, _⟩ := h
    rfl
  · obtain ⟨B, r, dx, Z, x, n, rfl, R, h1, h20, hno, hq⟩ := h
    obtain ⟨e1, e2, e3, e4⟩ := C.t.e_RelayError
    obtain ⟨fR, fdR, FR, bR, mR, cR⟩ := ok_route (P := P) (w := w) C
    have nn := sc_Relay_least.nd
    refine ⟨_, pss_cons (ps_if (pt_cmp (pc_dnotin (hu_of hr) (pv 1) (pe_fld (pv 0) rfl))) (pss_one (ps_raise rfl takesA (pmk_own PySem.F.excBase_ValueError e1 C.t.m_RelayError e2 (raises_own e3 e4) (by rfl)))) pss_nil)
      (pss_cons (ps_asg (pe_slice sl_list (pe_dget (hu_of hr) (pe_fld (pv 0) rfl) (pv 1) (fun _ _ => rfl)) po_none (po_some pe_int)) (pg_lst rfl (pgs_cons (pg_name (i := 2) nn rfl (by first | exact Or.inl rfl | exact Or.inr rfl)) (pgs_cons (pg_name (i := 3) nn rfl (by first | exact Or.inl rfl | exact Or.inr rfl)) (pgs_cons (pg_name (i := 4) nn rfl (by first | exact Or.inl rfl | exact Or.inr rfl)) pgs_nil)))))
      (pss_cons (ps_set (i := 5) nn rfl (by first | exact Or.inl rfl | exact Or.inr rfl) (pe_meth (pv 0) cR mR FR (hr.mono (by decide)) bR .nil passA (pa_cons (pv 2) (pa_cons (pv 3) pa_nil))))
      (pss_one (ps_ret (pe_ifExp (pt_cmp (pc_isN (pv 5))) pe_non (pe_op op_add (pe_op op_mul (pe_op op_mul (pe_op op_sub (pe_callB call_len_seq (by rfl) C.t.b_len PySem.boot_len (pa_cons (pv 5) pa_nil)) pe_int) (pe_fld (pv 0) rfl)) (pv 4)) pe_int)))))), ?_⟩
    refine ⟨_, rfl, _, rfl, r, _, dx, _, _, rfl, R.atR, C.t.c_Relay, C.t.a_Relay_messages, rfl, x.me, _, rfl, DGet.k (k := Sum.inr n) R.atMe, _, rfl, ?_⟩
    rw [valV_ents, Option.isSome_map]
    rcases look_or x.ms n with hx | ⟨⟨ma, m⟩, hx⟩
    · rw [hx]; exact iteT (hno hx _ (Le.refl R.tab))
    rw [hx]
    obtain ⟨hs, he, hn1, hn50, hq⟩ := hq _ _ hx
    refine iteF ?_
    have dm : DGet H x.me (.str n) (some (.ref ma)) := by
      have := DGet.k (k := Sum.inr n) R.atMe
      rwa [valV_ents, hx] at this
    have am := R.atMs (look_in hx)
    refine ⟨_, rfl, r, _, dx, _, _, rfl, R.atR, C.t.c_Relay, C.t.a_Relay_messages, rfl, _, rfl, x.me, _, rfl, dm, ?_⟩
    have ecut : cutV (msgV m) none (some 3) = [.str m.s, .str m.e, .int m.n] := rfl
    refine ⟨_, rfl, ma, _, rfl, SqL.of am, fun p hp => ?_⟩
    rw [ecut]
    refine ⟨p, _, rfl, SqL.of upd_same, rfl, _, _, rfl, _, _, rfl, _, _, rfl, rfl, ?_⟩
    have L1 := (Le.refl R.tab).new (o := .lst [.str m.s, .str m.e, .int m.n]) hp
    generalize upd H p (.lst [.str m.s, .str m.e, .int m.n]) = H1 at L1 ⊢
    have R1 := R.to L1
    refine ⟨_, rfl, r, dx, _, rfl, R1.atR, rfl, _, rfl, _, rfl, B, r, dx, Z, x, m.s, m.e, rfl, R1, fun _ _ H2 L2 => ⟨fun hw => ?_, fun u w hw hu => ?_⟩, fun z => absurd ⟨hs, he⟩ z⟩
    · have hq := hq _ (L1.trans L2)
      rw [show x.pu.rt Z.ts Z.lp m.s m.e = none from hw] at hq
      exact ⟨_, rfl, _, rfl, iteT hq⟩
    · have hq := hq _ (L1.trans L2)
      rw [show x.pu.rt Z.ts Z.lp m.s m.e = some w from hw] at hq
      have R2 := R1.to L2
      have hq : Q (.int (((w.length : Int) - 1) * Z.hold * m.n + 1)) H2 := hq
      refine ⟨_, rfl, _, rfl, iteF ⟨_, rfl, u, _, rfl, .inr (SqT.of hu), _, _, rfl, rfl, _, rfl, r, _, dx, _, _, rfl, R2.atR, C.t.c_Relay, C.t.a_Relay_hold, rfl, _, _, rfl, rfl, .inr ⟨by omega, by omega⟩, _, rfl, _, _, rfl, rfl, .inr ⟨by omega, by omega⟩, _, _, rfl, rfl, ?_⟩⟩
      rw [List.length_map]
      exact hq
end
end K6

-- text K6L
set_option maxRecDepth 100000
set_option maxHeartbeats 4000000
namespace K6
open PySem PySem.Spec PyProof.Rows L2 LamX GX
section
variable {P : Program} {w : World} {K : PySem.W.Frag} {mg : Str → Option Value} {base : Heap}
/-! ### a relay is made -/
abbrev flN (l : List V) : List (Str × V) := (["towers", "links", "hold", "fog", "messages", "queues", "busy", "rows", "minute"] : List Str).zip l
theorem eqv_nilT (ws : List PyData) : PyData.eqv (.tuple ws) (.tuple []) = decide (ws = []) := by
  cases ws with
  | nil => rfl
  | cons x r => rfl
structure Own1 (K : PySem.W.Frag) (B H : Hp) (cs : List (Addr × HO)) : Prop where
  le : Le (T K) B H
  nd : (cs.map (·.1)).Nodup
  at_ : ∀ c ∈ cs, H c.1 = some c.2
  no : ∀ c ∈ cs, B c.1 = none
section
variable {B H H' : Hp} {cs cs' : List (Addr × HO)} {p b : Addr} {o u v : HO}
theorem Own1.perm (h : Own1 K B H cs) (e : cs.Perm cs') : Own1 K B H cs' := ⟨h.le, ((e.map (·.1)).nodup_iff).mp h.nd, fun c hc => h.at_ c (e.mem_iff.mpr hc), fun c hc => h.no c (e.mem_iff.mpr hc)⟩
theorem Own1.alloc (h : Own1 K B H cs) (hp : H p = none) : Own1 K B (upd H p o) ((p, o) :: cs) := by
  have ne : ∀ c ∈ cs, c.1 ≠ p := fun c hc => ne_of_none (h.at_ c hc) hp
  refine ⟨h.le.new hp, ?_, fun c hc => ?_, fun c hc => ?_⟩
  · rw [List.map_cons]
    exact List.nodup_cons.mpr ⟨fun z => by
      obtain ⟨c, hc, e⟩ := List.mem_map.mp z
      exact ne c hc e, h.nd⟩
  · rcases List.mem_cons.mp hc with rfl | hc
    · exact upd_same
    · exact (upd_ne (ne c hc)).trans (h.at_ c hc)
  · rcases List.mem_cons.mp hc with rfl | hc
    · exact h.le.no _ hp
    · exact h.no c hc
theorem Own1.setF (h : Own1 K B H ((b, u) :: cs)) (hu : PlainO u) : Own1 K B (upd H b v) ((b, v) :: cs) := by
  have hb := h.at_ (b, u) List.mem_cons_self
  have hn := h.no (b, u) List.mem_cons_self
  have nd := h.nd
  rw [List.map_cons] at nd
  have ne : ∀ c ∈ cs, c.1 ≠ b := fun c hc e => (List.nodup_cons.mp nd).1 (List.mem_map.mpr ⟨c, hc, e⟩)
  refine ⟨h.le.set hn hb hu, h.nd, fun c hc => ?_, fun c hc => ?_⟩
  · rcases List.mem_cons.mp hc with rfl | hc
    · exact upd_same
    · exact (upd_ne (ne c hc)).trans (h.at_ c (List.mem_cons_of_mem _ hc))
  · rcases List.mem_cons.mp hc with rfl | hc
    · exact hn
    · exact h.no c (List.mem_cons_of_mem _ hc)
end
theorem Own1.fld {B H : Hp} {cs : List (Addr × HO)} {p b : Addr} {o u v : HO} (h : Own1 K B H ((b, u) :: cs)) (hu : PlainO u) (hp : H p = none) : Own1 K B (upd (upd H p o) b v) ((b, v) :: (p, o) :: cs) := ((h.alloc hp).perm (List.Perm.swap _ _ _)).setF hu
abbrev LkA := Addr × Str × Str
def goodRel (ts : List Str) (lp : List (Str × Str)) (h : Int) : Prop := ts ≠ [] ∧ ts.Nodup ∧ 1 ≤ h ∧ h ≤ 20 ∧ ∀ l ∈ lp, l.1 ∈ ts ∧ l.2 ∈ ts ∧ l.1 ≠ l.2
def RS.new (ts : List Str) : RS := ⟨[], [], ts.map fun t => (t, []), [], [], 0⟩
def spInit (K : PySem.W.Frag) : Sp := fun vs H Q E => ∃ (b a k dx : Addr) (ts : List Str) (L : List LkA) (h : Int) (H0 : Hp), vs = [.ref b, .ref a, .ref k, .int h] ∧ H b = some (.ins (aRl K) dx []) ∧ H0 b = none ∧ Le (T K) H0 H ∧ SqL K H0 a (ts.map V.str) ∧ SqL K H0 k (L.map rf) ∧
  (∀ x ∈ L, H0 x.1 = some (.tup [.str x.2.1, .str x.2.2])) ∧ ts.length ≤ 60 ∧ L.length ≤ 1000 ∧ (∀ t ∈ ts, (PyData.str t).canLay0 = true) ∧ (∀ x ∈ L, (PyData.str x.2.1).canLay0 = true ∧ (PyData.str x.2.2).canLay0 = true) ∧
  (¬ goodRel ts (L.map (·.2)) h → ∀ H', Le (T K) H0 H' → E (.ref (aRE K)) none H') ∧
  (goodRel ts (L.map (·.2)) h → ∀ H' B Z x, Le (T K) H0 B → Rel K B H' b dx Z x → Z.ts = ts → Z.lp = L.map (·.2) → Z.hold = h → x.pu = RS.new ts → Q .non H')
theorem ok_init (C : Ctx K mg base) : MakX P w K mg base 3 "Relay" (aRl K) ["self", "towers", "links", "hold"] (spInit K) := by
  obtain ⟨fd, F⟩ := C.d.d_Relay_init
  refine ⟨_, fd, ?_, F.funD.bindsN fun _ _ _ _ _ _ us hl => (match us, hl with | [_, _, _, _], _ => rfl), C.t.k_Relay, C.t.m_Relay⟩
  refine F.ok sc_Relay_init (fun vs H Q E h => ?_) (fun A outer s H vs Q E hr h => ?_)
  · obtain ⟨b, a, k, dx, ts, L, h, H0, rfl, _⟩ := h
    rfl
  · obtain ⟨b, a, k, dx, ts, L, h, H0, rfl, hb, hb0, L0, ha, hk, hL, lts, lL, oks, okl, hno, hq⟩ := h
    obtain ⟨e1, e2, e3, e4⟩ := C.t.e_RelayError
    obtain ⟨t20, i20⟩ := C.t.i_MOST_HOLD
    have nn := sc_Relay_init.nd
    refine ⟨_, pss_cons (ps_fld (pv 0) (pe_callTy call_tuple_of (by rfl) C.t.b_tuple (by decide +kernel) (pa_cons (pv 1) pa_nil)) rfl)
      (pss_cons (ps_fld (pv 0) (pe_genTup (T := T K) (own := [("one", 5), ("other", 6)]) (g := gTup K 2 (gCons (gName 5) (gCons (gName 6) gNil))) hr rfl C.t.b_tuple nn (C.b _ (tf_mem 0)) rfl (T_mem 0) (T_uniq C.u 0) (pi_list (pv 2)) (gsc_by (blkOk_by (N := n_Relay_init) (sc := defScope s_Relay_init) (by decide +kernel)) (by decide +kernel))
        (fun _ _ _ _ _ => by exact pg_tup rfl (pgs_cons (pg_name (i := 5) nn rfl (by first | exact Or.inl rfl | exact Or.inr rfl)) (pgs_cons (pg_name (i := 6) nn rfl (by first | exact Or.inl rfl | exact Or.inr rfl)) pgs_nil))) (fun _ _ _ _ _ _ => pe_tup (pa_cons (pv 5) (pa_cons (pv 6) pa_nil)))) rfl)
      (pss_cons (ps_fld (pv 0) (pv 3) rfl)
      (pss_cons (ps_setDc (i := 4) (own := [("name", 7)]) (g := gName 7) rfl nn rfl rfl (sw_dict rfl rfl rfl (by decide +kernel)) (pi_tup (pe_fld (pv 0) rfl)) (blkOk_by (N := n_Relay_init) (sc := defScope s_Relay_init) (by decide +kernel)) (fun _ _ _ _ _ => (pg_name (i := 7) nn rfl (by first | exact Or.inl rfl | exact Or.inr rfl))) (fun _ _ _ _ _ => pts_nil) (fun _ _ _ _ _ => pv 7) (fun _ _ _ _ _ => pe_bl))
      (pss_cons (ps_if (PW.pt (pw_or (pt_cmpR (r := rEqD K) (op_eqD hr.units) (pe_fld (pv 0) rfl) (pe_tup pa_nil) (nomark _)) (pw_or (pt_cmpR op_lt (pe_callB call_lenD (by rfl) C.t.b_len PySem.boot_len (pa_cons (pv 4) pa_nil)) (pe_callB call_len_seq (by rfl) C.t.b_len PySem.boot_len (pa_cons (pe_fld (pv 0) rfl) pa_nil)) (nomark _)) (pw_or1 (pt_not (pt_chain op_le op_le pe_int (pv 3) (pe_glob (by rfl) i20 (v := .int 20) ⟨_, rfl⟩))))))) (pss_one (ps_raise rfl takesA (pmk_own PySem.F.excBase_ValueError e1 C.t.m_RelayError e2 (raises_own e3 e4) (by rfl)))) pss_nil)
      (pss_cons (ps_if (pt_val (pe_genAny (T := T K) (own := [("one", 5), ("other", 6)]) (g := gTup K 2 (gCons (gName 5) (gCons (gName 6) gNil))) hr rfl C.t.b_any nn (C.b _ (tf_mem 0)) rfl (T_mem 0) (T_uniq C.u 0) (pi_tup (pe_fld (pv 0) rfl)) (gsc_by (blkOk_by (N := n_Relay_init) (sc := defScope s_Relay_init) (by decide +kernel)) (by decide +kernel))
          (fun _ _ _ _ _ => by exact pg_tup rfl (pgs_cons (pg_name (i := 5) nn rfl (by first | exact Or.inl rfl | exact Or.inr rfl)) (pgs_cons (pg_name (i := 6) nn rfl (by first | exact Or.inl rfl | exact Or.inr rfl)) pgs_nil))) (fun _ _ _ _ _ hrk => pe_or (pe_cmpR (r := rIn K true) op_notIn_seq (pv 5) (pe_fldK (K := K) rfl (pv 0) rfl) rfl) (pe_or (pe_cmpR (r := rIn K true) op_notIn_seq (pv 6) (pe_fldK (K := K) rfl (pv 0) rfl) rfl) (pe_one (pe_cmpR op_eq (pv 5) (pv 6) (nomark _))))))) (pss_one (ps_raise rfl takesA (pmk_own PySem.F.excBase_ValueError e1 C.t.m_RelayError e2 (raises_own e3 e4) (by rfl)))) pss_nil)
      (pss_cons (ps_fld (pv 0) pe_dnewK rfl)
      (pss_cons (ps_fld (pv 0) pe_dnewK rfl)
      (pss_cons (ps_fld (pv 0) (pe_dc (own := [("name", 7)]) (g := gName 7) rfl nn (pi_tup (pe_fld (pv 0) rfl)) (blkOk_by (N := n_Relay_init) (sc := defScope s_Relay_init) (by decide +kernel)) (fun _ _ _ _ _ => (pg_name (i := 7) nn rfl (by first | exact Or.inl rfl | exact Or.inr rfl))) (fun _ _ _ _ _ => pts_nil) (fun _ _ _ _ _ => pv 7) (fun _ _ _ _ _ => pe_lst pa_nil)) rfl)
      (pss_cons (ps_fld (pv 0) pe_dnewK rfl)
      (pss_cons (ps_fld (pv 0) (pe_lst pa_nil) rfl)
      (pss_one (ps_fld (pv 0) pe_int rfl)))))))))))), ?_⟩
    refine ⟨_, rfl, a, _, rfl, .inl ⟨L0.seqL ha, fun tw htw => ?_⟩⟩
    have L1 := L0.new (o := .tup (ts.map V.str)) htw
    have hbt : b ≠ tw := ne_of_none hb htw
    have hb1 : upd H tw (.tup (ts.map V.str)) b = some (.ins (aRl K) dx []) := (upd_ne hbt).trans hb
    have ht1 : upd H tw (.tup (ts.map V.str)) tw = some (.tup (ts.map V.str)) := upd_same
    generalize upd H tw (.tup (ts.map V.str)) = H1 at L1 hb1 ht1 ⊢
    clear htw
    refine ⟨_, rfl, b, _, dx, _, rfl, hb1, C.t.c_Relay, C.t.a_Relay_towers, by show 0 < 1000; decide, ?_⟩
    have L2 : Le (T K) H0 (upd H1 b (.ins (aRl K) dx [("towers", .ref tw)])) := L1.set hb0 hb1
    have hb2 : upd H1 b (.ins (aRl K) dx [("towers", .ref tw)]) b = some (.ins (aRl K) dx [("towers", .ref tw)]) := upd_same
    have ht2 : upd H1 b (.ins (aRl K) dx [("towers", .ref tw)]) tw = some (.tup (ts.map V.str)) := (upd_ne (Ne.symm hbt)).trans ht1
    show tSeq _ _ _ _ (upd H1 b (.ins (aRl K) dx [("towers", .ref tw)]))
    generalize upd H1 b (.ins (aRl K) dx [("towers", .ref tw)]) = H2 at L2 hb2 ht2 ⊢
    clear L1 hb1 ht1 L0 hb
    refine ⟨_, rfl, k, rfl, ⟨_, L2.seqL hk⟩, L2.tab, fun H3 hE hT3 hno3 => ?_⟩
    have L23 : Le (T K) H2 H3 := ⟨hE, hT3, hno3⟩
    refine ⟨L.length, fun i ys H' => Le (T K) H3 H' ∧ ∃ M : List LkA, ys = M.map rf ∧ (∀ x ∈ M, H' x.1 = some (.tup [.str x.2.1, .str x.2.2])) ∧ M.map (·.2) = (L.take i).map (·.2), Nat.le_trans lL (by decide), ⟨Le.refl hT3, [], rfl, (fun x hx => by cases hx), rfl⟩,
      fun i ys H4 hi ⟨L4, M, m1, m2, m3⟩ => ⟨Itl_go (((L2.trans L23).trans L4).seqL hk) (by rw [List.length_map]; exact hi), fun v H5 y5 => ?_⟩, fun ys H4 ⟨L4, M, m1, m2, m3⟩ => ⟨Itl_stop (((L2.trans L23).trans L4).seqL hk) (by rw [List.length_map]; exact Nat.le_refl _), fun lk hlk => ?_⟩⟩
    · obtain ⟨rfl, hx⟩ := Itl_yld (((L2.trans L23).trans L4).seqL hk) y5
      obtain ⟨x, hx1, rfl⟩ := GX.get_map hx
      refine ⟨x.1, _, rfl, SqT.of (((L2.trans L23).trans L4).at (hL x (List.mem_of_getElem? hx1))), rfl, _, _, rfl, _, _, rfl, rfl, rfl, ?_⟩
      refine ⟨_, rfl, _, rfl, by show 2 ≤ sizeLine; decide, fun u hu => ?_⟩
      refine ⟨L4.new hu, M ++ [(u, x.2)], by rw [List.map_append, m1]; rfl, fun y hy => ?_, ?_⟩
      · rcases List.mem_append.mp hy with hy | hy
        · exact (upd_ne (ne_of_none (m2 y hy) hu)).trans (m2 y hy)
        · rw [List.mem_singleton.mp hy]; exact upd_same
      · rw [List.map_append, m3, GX.take_snoc hx1, List.map_append]
        rfl
    subst m1
    rw [List.take_of_length_le (Nat.le_refl _)] at m3
    have LA : Le (T K) H0 H4 := (L2.trans L23).trans L4
    have hb4 := (L23.trans L4).at hb2
    have ht4 := (L23.trans L4).at ht2
    clear L23 L4 L2 hb2 ht2
    have L5 := LA.new (o := .tup (M.map rf)) hlk
    have hbl : b ≠ lk := ne_of_none hb4 hlk
    have hb5 := (upd_ne (o := .tup (M.map rf)) hbl).trans hb4
    have ht5 := (upd_ne (o := .tup (M.map rf)) (ne_of_none ht4 hlk)).trans ht4
    have hM5 : ∀ x ∈ M, upd H4 lk (.tup (M.map rf)) x.1 = some (.tup [.str x.2.1, .str x.2.2]) := fun x hx => (upd_ne (ne_of_none (m2 x hx) hlk)).trans (m2 x hx)
    have hl5 : upd H4 lk (.tup (M.map rf)) lk = some (.tup (M.map rf)) := upd_same
    generalize upd H4 lk (.tup (M.map rf)) = H5 at L5 hb5 ht5 hM5 hl5 ⊢
    clear LA hb4 ht4 m2 hlk
    refine ⟨_, rfl, b, _, dx, _, rfl, hb5, C.t.c_Relay, C.t.a_Relay_links, by show 1 < 1000; decide, ?_⟩
    have F6 : putF "links" (V.ref lk) (flN [.ref tw]) = flN [.ref tw, .ref lk] := rfl
    have F7 : putF "hold" (V.int h) (flN [.ref tw, .ref lk]) = flN [.ref tw, .ref lk, .int h] := rfl
    change tSeq _ _ _ _ (upd H5 b (.ins (aRl K) dx (putF "links" (V.ref lk) (flN [.ref tw]))))
    rw [F6]
    have hb6 : upd H5 b (.ins (aRl K) dx (flN [.ref tw, .ref lk])) b = some (.ins (aRl K) dx (flN [.ref tw, .ref lk])) := upd_same
    refine ⟨_, rfl, _, rfl, b, _, dx, _, rfl, hb6, C.t.c_Relay, C.t.a_Relay_hold, by show 2 < 1000; decide, ?_⟩
    rw [L2.upd_upd, F7]
    clear hb6 F6 F7
    have L7 := L5.set (o := .ins (aRl K) dx (flN [.ref tw, .ref lk, .int h])) hb0 hb5
    have hb7 : upd H5 b (.ins (aRl K) dx (flN [.ref tw, .ref lk, .int h])) b = some (.ins (aRl K) dx (flN [.ref tw, .ref lk, .int h])) := upd_same
    have ht7 := (upd_ne (o := .ins (aRl K) dx (flN [.ref tw, .ref lk, .int h])) (Ne.symm hbt)).trans ht5
    have hl7 := (upd_ne (o := .ins (aRl K) dx (flN [.ref tw, .ref lk, .int h])) (Ne.symm hbl)).trans hl5
    have hM7 : ∀ x ∈ M, upd H5 b (.ins (aRl K) dx (flN [.ref tw, .ref lk, .int h])) x.1 = some (.tup [.str x.2.1, .str x.2.2]) := fun x hx => (upd_ne (fun z => by have := hM5 x hx; rw [z, hb5] at this; cases this)).trans (hM5 x hx)
    generalize upd H5 b (.ins (aRl K) dx (flN [.ref tw, .ref lk, .int h])) = H7 at L7 hb7 ht7 hl7 hM7 ⊢
    clear L5 hb5 ht5 hl5 hM5
    refine ⟨_, rfl, b, _, dx, _, _, rfl, hb7, C.t.c_Relay, C.t.a_Relay_towers, rfl, tw, rfl, ⟨_, SqT.of ht7⟩, fun D hD => ?_⟩
    refine dc_n ts.length (fun i H' => Le (T K) H7 H' ∧ ∃ S : SD Unit, H' D = some (.dK (ents blT S)) ∧ S.length ≤ i ∧ (∀ y, y ∈ S.map (·.1) ↔ y ∈ ts.take i) ∧ ((ts.take i).Nodup → S.length = i) ∧ (¬ (ts.take i).Nodup → S.length < i))
      ⟨(Le.refl L7.tab).new hD, [], upd_same, Nat.le_refl _, fun y => by simp, fun _ => rfl, fun z => absurd List.nodup_nil z⟩
      (fun i H8 hi ⟨L8, S, h8, k1, k2, k3, k4⟩ => ⟨Itt_go (L8.seqT (SqT.of ht7)) (by rw [List.length_map]; exact hi), fun x H9 hy => ?_⟩) (fun H8 ⟨L8, S, h8, k1, k2, k3, k4⟩ => ⟨Itt_stop (L8.seqT (SqT.of ht7)) (by rw [List.length_map]; exact Nat.le_refl _), ?_⟩)
    · obtain ⟨rfl, hx⟩ := Itt_yld (L8.seqT (SqT.of ht7)) hy
      obtain ⟨x, hxl, rfl⟩ := GX.get_map hx
      refine ⟨rfl, ?_⟩
      refine yes_ ?_
      refine iteT ?_
      refine ⟨_, rfl, _, Sum.inr x, rfl, h8, by rw [ents_len]; exact Nat.lt_of_le_of_lt (show S.length ≤ 60 by omega) (by decide), L8.set hD h8, setS S x (), ?_, ?_⟩
      · rw [upd_same]
        exact congrArg (fun z => some (HO.dK z)) (put_setS S x ())
      have nd1 : (ts.take (i + 1)).Nodup ↔ (ts.take i).Nodup ∧ x ∉ ts.take i := by
        rw [GX.take_snoc hxl, List.nodup_append]
        simp only [List.nodup_cons, List.not_mem_nil, not_false_iff, List.nodup_nil, and_true, true_and, List.mem_singleton]
        exact ⟨fun ⟨u, v⟩ => ⟨u, fun z => v x z x rfl rfl⟩, fun ⟨u, v⟩ => ⟨u, fun a ha c hc e => v (by rw [← hc, ← e]; exact ha)⟩⟩
      have kk : ∀ y, y ∈ (setS S x ()).map (·.1) ↔ y ∈ ts.take (i + 1) := fun y => by
        rw [keys_setS, GX.take_snoc hxl, List.mem_append, List.mem_singleton, ← k2 y]
        split
        · rename_i hc
          exact ⟨.inl, fun z => z.elim id fun e => e ▸ hc⟩
        · rw [List.mem_append, List.mem_singleton]
      by_cases hin : x ∈ ts.take i
      · have e : (setS S x ()).length = S.length := by
          have := congrArg List.length (keys_old (v := ()) ((k2 x).mpr hin))
          rwa [List.length_map, List.length_map] at this
        refine ⟨by omega, kk, fun z => absurd hin (nd1.mp z).2, fun _ => by omega⟩
      · have e : (setS S x ()).length = S.length + 1 := by
          rw [setS_new (fun z => hin ((k2 x).mp z)), List.length_append]
          rfl
        refine ⟨by omega, kk, fun z => by rw [e, k3 (nd1.mp z).1], fun z => ?_⟩
        have := k4 fun z2 => z (nd1.mpr ⟨z2, hin⟩)
        omega
    rw [List.take_of_length_le (Nat.le_refl _)] at k3 k4
    have LG := L7.trans L8
    have hb8 := L8.at hb7
    have ht8 := L8.at ht7
    have bad : ¬ goodRel ts (L.map (·.2)) h → ∀ H', Le (T K) H8 H' → E (.ref (aRE K)) none H' := fun z H' L' => hno z _ (LG.trans L')
    refine ⟨_, rfl, b, _, dx, _, _, rfl, hb8, C.t.c_Relay, C.t.a_Relay_towers, rfl, by show 0 ≤ sizeLine; decide, fun e he => ?_⟩
    have L9 := LG.new (o := .tup []) he
    have hb9 := (upd_ne (o := .tup []) (ne_of_none hb8 he)).trans hb8
    have ht9 := (upd_ne (o := .tup []) (ne_of_none ht8 he)).trans ht8
    have hl8 := L8.at hl7
    have hl9 := (upd_ne (o := .tup []) (ne_of_none hl8 he)).trans hl8
    have hM9 : ∀ x ∈ M, upd H8 e (.tup []) x.1 = some (.tup [.str x.2.1, .str x.2.2]) := fun x hx => (upd_ne (ne_of_none (L8.at (hM7 x hx)) he)).trans (L8.at (hM7 x hx))
    have hS9 := (upd_ne (o := .tup []) (ne_of_none h8 he)).trans h8
    refine ⟨.tuple (ts.map PyData.str), .tuple [], .tup (SqT.of ht9) (DpAll.strs _), .tup (SqT.of upd_same) .nil, shaped_of (lay_tuple (names_lay oks)) (by decide), rfl, _, rfl, ?_⟩
    rw [eqv_nilT]
    generalize upd H8 e (.tup []) = H9 at L9 hb9 ht9 hl9 hM9 hS9 ⊢
    clear hb8 ht8 hl8 he LG L8 h8 L7 hb7 ht7 hl7 hM7
    have bad : ¬ goodRel ts (L.map (·.2)) h → E (.ref (aRE K)) none H9 := fun z => hno z _ L9
    by_cases c0 : ts = []
    · exact iteDT (by rw [c0]; rfl) (iteT (bad fun z => z.1 c0))
    refine iteDF (by simpa using c0) ?_
    refine ⟨_, rfl, D, _, rfl, hS9, _, rfl, b, _, dx, _, _, rfl, hb9, C.t.c_Relay, C.t.a_Relay_towers, rfl, tw, _, rfl, .inr (SqT.of ht9), _, _, rfl, rfl, _, rfl, ?_⟩
    rw [ents_len, List.length_map]
    by_cases ndt : ts.Nodup
    rotate_left
    · have := k4 ndt
      exact iteDT (by omega) (iteT (bad fun z => ndt z.2.1))
    refine iteDF (by have := k3 ndt; omega) ?_
    refine ⟨_, rfl, _, _, rfl, rfl, _, rfl, ?_⟩
    by_cases h1 : 1 ≤ h
    rotate_left
    · exact iteDF h1 ⟨_, rfl, iteT (bad fun z => h1 z.2.2.1)⟩
    refine iteDT h1 ⟨_, _, rfl, rfl, _, rfl, ?_⟩
    by_cases h20 : h ≤ 20
    rotate_left
    · rw [decide_eq_false h20]
      exact iteT (bad fun z => h20 z.2.2.2.1)
    rw [decide_eq_true h20]
    refine iteF ?_
    refine ⟨_, rfl, b, _, dx, _, _, rfl, hb9, C.t.c_Relay, C.t.a_Relay_links, rfl, lk, rfl, ⟨_, SqT.of hl9⟩, L9.tab, fun H10 hE hT10 hno10 => ?_⟩
    have L10 : Le (T K) H9 H10 := ⟨hE, hT10, hno10⟩
    refine ⟨M.length, fun i H' => Le (T K) H10 H' ∧ ∀ l ∈ (M.take i).map (·.2), l.1 ∈ ts ∧ l.2 ∈ ts ∧ l.1 ≠ l.2, ⟨Le.refl hT10, fun l hl => by cases hl⟩,
      fun i H' hi ⟨L11, hll⟩ => ⟨Itt_go (SqT.of ((L10.trans L11).at hl9)) (by rw [List.length_map]; exact hi), fun v H'' y5 => ?_⟩, fun H' ⟨L11, hll⟩ => ⟨Itt_stop (SqT.of ((L10.trans L11).at hl9)) (by rw [List.length_map]; exact Nat.le_refl _), ?_⟩⟩
    · obtain ⟨rfl, hx⟩ := Itt_yld (SqT.of ((L10.trans L11).at hl9)) y5
      obtain ⟨x, hx1, rfl⟩ := GX.get_map hx
      have hxm := List.mem_of_getElem? hx1
      have hxl : x.2 ∈ L.map (·.2) := by rw [← m3]; exact List.mem_map.mpr ⟨x, hxm, rfl⟩
      have hb12 := (L10.trans L11).at hb9
      have ht12 := (L10.trans L11).at ht9
      have bad : ¬ goodRel ts (L.map (·.2)) h → E (.ref (aRE K)) none H'' := fun z => hno z _ (L9.trans (L10.trans L11))
      refine ⟨x.1, _, rfl, SqT.of ((L10.trans L11).at (hM9 x hxm)), rfl, _, _, rfl, _, _, rfl, rfl, rfl, ?_⟩
      refine ⟨_, rfl, _, rfl, b, _, dx, _, _, rfl, hb12, C.t.c_Relay, C.t.a_Relay_towers, rfl, tw, _, rfl, .inr (SqT.of ht12), rfl, flat_strs' _, _, rfl, ?_⟩
      show (if (!inV (.str x.2.1) (ts.map V.str)) = true then _ else _)
      rw [inV_strs]
      by_cases g1 : x.2.1 ∈ ts
      rotate_left
      · exact iteDN g1 ⟨_, rfl, iteT ⟨_, rfl, iteT (bad fun z => g1 (z.2.2.2.2 _ hxl).1)⟩⟩
      rw [decide_eq_true g1]
      refine iteF ⟨_, rfl, _, rfl, b, _, dx, _, _, rfl, hb12, C.t.c_Relay, C.t.a_Relay_towers, rfl, tw, _, rfl, .inr (SqT.of ht12), rfl, flat_strs' _, _, rfl, ?_⟩
      show (if (!inV (.str x.2.2) (ts.map V.str)) = true then _ else _)
      rw [inV_strs]
      by_cases g2 : x.2.2 ∈ ts
      rotate_left
      · exact iteDN g2 ⟨_, rfl, iteT ⟨_, rfl, iteT (bad fun z => g2 (z.2.2.2.2 _ hxl).2.1)⟩⟩
      rw [decide_eq_true g2]
      refine iteF ⟨_, rfl, _, rfl, rfl, _, rfl, ?_⟩
      by_cases g3 : x.2.1 = x.2.2
      · exact iteDT (congrArg V.str g3) ⟨_, rfl, iteT (bad fun z => (z.2.2.2.2 _ hxl).2.2 g3)⟩
      refine iteDF (fun z => g3 (V.str.inj z)) ⟨L11, fun l hl => ?_⟩
      rw [GX.take_snoc hx1, List.map_append] at hl
      rcases List.mem_append.mp hl with hl | hl
      · exact hll l hl
      · rw [List.mem_singleton.mp hl]; exact ⟨g1, g2, g3⟩
    rw [List.take_of_length_le (Nat.le_refl _), m3] at hll
    have hq := hq ⟨c0, ndt, h1, h20, hll⟩
    refine ⟨_, rfl, iteF ?_⟩
    have LX := L10.trans L11
    have hbX := LX.at hb9
    have htX := LX.at ht9
    have hlX := LX.at hl9
    have hMX : ∀ x ∈ M, H' x.1 = some (.tup [.str x.2.1, .str x.2.2]) := fun x hx => LX.at (hM9 x hx)
    have LHG : Le (T K) H0 (hid H' [b]) := (L9.trans LX).hid (fun d hd => by rw [List.mem_singleton.mp hd]; exact hb0) (fun d hd u hu => by rw [List.mem_singleton.mp hd, hbX] at hu; cases hu; trivial)
    have LG : Le (T K) (hid H' [b]) H' := hid_le LX.tab
    have Gt : hid H' [b] tw = some (.tup (ts.map V.str)) := hid_at htX (by simpa using Ne.symm hbt)
    have Gl : hid H' [b] lk = some (.tup (M.map rf)) := hid_at hlX (by simpa using Ne.symm hbl)
    have GM : ∀ x ∈ M, hid H' [b] x.1 = some (.tup [.str x.2.1, .str x.2.2]) := fun x hx => hid_at (hMX x hx) (by
      have := hMX x hx
      simp only [List.mem_singleton]
      intro z
      rw [z, hbX] at this
      cases this)
    have O : Own1 K (hid H' [b]) H' [(b, .ins (aRl K) dx (flN [.ref tw, .ref lk, .int h]))] := ⟨LG, by simp, fun c hc => by rw [List.mem_singleton.mp hc]; exact hbX, fun c hc => by rw [List.mem_singleton.mp hc]; exact hid_no (by simp)⟩
    generalize hid H' [b] = G at LHG LG Gt Gl GM O
    clear L10 L11 LX hbX htX hlX hMX hb9 ht9 hl9 hM9 hS9 L9 hno bad k2 k3 k4 hno10
    refine fun fo hfo => ⟨_, rfl, b, _, dx, _, rfl, (O.alloc (o := .dK []) hfo).at_ (b, _) (List.mem_cons_of_mem _ List.mem_cons_self), C.t.c_Relay, C.t.a_Relay_fog, by show 3 < 1000; decide, ?_⟩
    have O1 := O.fld (o := .dK []) (v := .ins (aRl K) dx (flN [.ref tw, .ref lk, .int h, .ref fo])) trivial hfo
    have F1 : putF "fog" (V.ref fo) (flN [.ref tw, .ref lk, .int h]) = flN [.ref tw, .ref lk, .int h, .ref fo] := rfl
    rw [F1]
    generalize upd (upd H' fo (.dK [])) b (.ins (aRl K) dx (flN [.ref tw, .ref lk, .int h, .ref fo])) = H1 at O1 ⊢
    clear O hfo F1
    refine fun me hme => ⟨_, rfl, b, _, dx, _, rfl, (O1.alloc (o := .dK []) hme).at_ (b, _) (List.mem_cons_of_mem _ List.mem_cons_self), C.t.c_Relay, C.t.a_Relay_messages, by show 4 < 1000; decide, ?_⟩
    have O2 := O1.fld (o := .dK []) (v := .ins (aRl K) dx (flN [.ref tw, .ref lk, .int h, .ref fo, .ref me])) trivial hme
    have F2 : putF "messages" (V.ref me) (flN [.ref tw, .ref lk, .int h, .ref fo]) = flN [.ref tw, .ref lk, .int h, .ref fo, .ref me] := rfl
    rw [F2]
    generalize upd (upd H1 me (.dK [])) b (.ins (aRl K) dx (flN [.ref tw, .ref lk, .int h, .ref fo, .ref me])) = H2 at O2 ⊢
    clear O1 hme F2
    refine ⟨_, rfl, b, _, dx, _, _, rfl, O2.at_ (b, _) List.mem_cons_self, C.t.c_Relay, C.t.a_Relay_towers, rfl, tw, rfl, ⟨_, SqT.of (O2.le.at Gt)⟩, fun qs hqs => ?_⟩
    have O3 := O2.alloc (o := .dK []) hqs
    refine dc_n ts.length (fun i H' => ∃ Q : SD (Addr × List Str), Q.map (·.1) = ts.take i ∧ (∀ p ∈ Q, p.2.2 = []) ∧ Own1 K G H' ((qs, .dK (ents rf Q)) :: ((Q.map fun p => (p.2.1, HO.lst (p.2.2.map V.str))) ++ [(b, HO.ins (aRl K) dx (flN [.ref tw, .ref lk, .int h, .ref fo, .ref me])), (me, HO.dK []), (fo, HO.dK [])])))
      ⟨[], rfl, (fun p hp => by cases hp), O3⟩
      (fun i H8 hi ⟨Q, q1, q2, O4⟩ => ⟨Itt_go (SqT.of (O4.le.at Gt)) (by rw [List.length_map]; exact hi), fun x H9 hy => ?_⟩) (fun H8 ⟨Q, q1, q2, O4⟩ => ⟨Itt_stop (SqT.of (O4.le.at Gt)) (by rw [List.length_map]; exact Nat.le_refl _), ?_⟩)
    · obtain ⟨rfl, hx⟩ := Itt_yld (SqT.of (O4.le.at Gt)) hy
      obtain ⟨x, hxl, rfl⟩ := GX.get_map hx
      refine ⟨rfl, ?_⟩
      refine yes_ ?_
      refine iteT ?_
      refine ⟨_, rfl, by show 0 ≤ sizeLine; decide, fun p hp => ?_⟩
      have O5 := (O4.alloc (o := .lst []) hp).perm (List.Perm.swap _ _ _)
      have lq : Q.length ≤ 60 := by
        have := congrArg List.length q1
        rw [List.length_map, List.length_take] at this
        omega
      refine ⟨_, Sum.inr x, rfl, O5.at_ (qs, _) List.mem_cons_self, by rw [ents_len]; exact Nat.lt_of_le_of_lt lq (by decide), Q ++ [(x, p, [])], ?_, ?_, ?_⟩
      · rw [List.map_append, q1, GX.take_snoc hxl]
        rfl
      · intro y hy
        rcases List.mem_append.mp hy with hy | hy
        · exact q2 y hy
        · rw [List.mem_singleton.mp hy]
      · have hxn : x ∉ Q.map (·.1) := by
          rw [q1]
          intro z
          have := ndt.sublist (List.take_sublist (i + 1) ts)
          rw [GX.take_snoc hxl] at this
          exact (List.nodup_append.mp this).2.2 x z x List.mem_cons_self rfl
        have ep : putK (ents rf Q) (Sum.inr x) (V.ref p) = ents rf (Q ++ [(x, p, [])]) := by
          rw [← setS_new hxn]
          exact put_setS (f := rf) Q x (p, ([] : List Str))
        rw [ep]
        refine (O5.setF (v := .dK (ents rf (Q ++ [(x, p, [])]))) trivial).perm (List.Perm.cons _ ?_)
        rw [List.map_append, List.append_assoc]
        exact List.perm_middle.symm
    rw [List.take_of_length_le (Nat.le_refl _)] at q1
    generalize hls : (Q.map fun p => (p.2.1, HO.lst (p.2.2.map V.str))) = ls at O4
    have O5 := O4.perm ((List.Perm.cons _ List.perm_middle).trans (List.Perm.swap _ _ _))
    refine ⟨_, rfl, b, _, dx, _, rfl, O5.at_ (b, _) List.mem_cons_self, C.t.c_Relay, C.t.a_Relay_queues, by show 5 < 1000; decide, ?_⟩
    have F3 : putF "queues" (V.ref qs) (flN [.ref tw, .ref lk, .int h, .ref fo, .ref me]) = flN [.ref tw, .ref lk, .int h, .ref fo, .ref me, .ref qs] := rfl
    rw [F3]
    have O6 := O5.setF (v := .ins (aRl K) dx (flN [.ref tw, .ref lk, .int h, .ref fo, .ref me, .ref qs])) trivial
    generalize upd H8 b (.ins (aRl K) dx (flN [.ref tw, .ref lk, .int h, .ref fo, .ref me, .ref qs])) = H9 at O6 ⊢
    clear O4 O5 F3 O3 O2 hqs
    refine fun bu hbu => ⟨_, rfl, b, _, dx, _, rfl, (O6.alloc (o := .dK []) hbu).at_ (b, _) (List.mem_cons_of_mem _ List.mem_cons_self), C.t.c_Relay, C.t.a_Relay_busy, by show 6 < 1000; decide, ?_⟩
    have O7 := O6.fld (o := .dK []) (v := .ins (aRl K) dx (flN [.ref tw, .ref lk, .int h, .ref fo, .ref me, .ref qs, .ref bu])) trivial hbu
    have F4 : putF "busy" (V.ref bu) (flN [.ref tw, .ref lk, .int h, .ref fo, .ref me, .ref qs]) = flN [.ref tw, .ref lk, .int h, .ref fo, .ref me, .ref qs, .ref bu] := rfl
    rw [F4]
    generalize upd (upd H9 bu (.dK [])) b (.ins (aRl K) dx (flN [.ref tw, .ref lk, .int h, .ref fo, .ref me, .ref qs, .ref bu])) = H10 at O7 ⊢
    clear O6 hbu F4
    refine ⟨by show 0 ≤ sizeLine; decide, fun ro hro => ⟨_, rfl, b, _, dx, _, rfl, (O7.alloc (o := .lst []) hro).at_ (b, _) (List.mem_cons_of_mem _ List.mem_cons_self), C.t.c_Relay, C.t.a_Relay_rows, by show 7 < 1000; decide, ?_⟩⟩
    have O8 := O7.fld (o := .lst []) (v := .ins (aRl K) dx (flN [.ref tw, .ref lk, .int h, .ref fo, .ref me, .ref qs, .ref bu, .ref ro])) trivial hro
    have F5 : putF "rows" (V.ref ro) (flN [.ref tw, .ref lk, .int h, .ref fo, .ref me, .ref qs, .ref bu]) = flN [.ref tw, .ref lk, .int h, .ref fo, .ref me, .ref qs, .ref bu, .ref ro] := rfl
    rw [F5]
    generalize upd (upd H10 ro (.lst [])) b (.ins (aRl K) dx (flN [.ref tw, .ref lk, .int h, .ref fo, .ref me, .ref qs, .ref bu, .ref ro])) = H11 at O8 ⊢
    clear O7 hro F5
    refine ⟨_, rfl, b, _, dx, _, rfl, O8.at_ (b, _) List.mem_cons_self, C.t.c_Relay, C.t.a_Relay_minute, by show 8 < 1000; decide, ?_⟩
    have F6 : putF "minute" (V.int 0) (flN [.ref tw, .ref lk, .int h, .ref fo, .ref me, .ref qs, .ref bu, .ref ro]) = flN [.ref tw, .ref lk, .int h, .ref fo, .ref me, .ref qs, .ref bu, .ref ro, .int 0] := rfl
    rw [F6]
    have O9 := O8.setF (v := .ins (aRl K) dx (flN [.ref tw, .ref lk, .int h, .ref fo, .ref me, .ref qs, .ref bu, .ref ro, .int 0])) trivial
    generalize upd H11 b (.ins (aRl K) dx (flN [.ref tw, .ref lk, .int h, .ref fo, .ref me, .ref qs, .ref bu, .ref ro, .int 0])) = H12 at O9 ⊢
    clear O8 F6
    have SO : StaOk G ⟨tw, lk, ts, M, h⟩ := by
      refine ⟨Gt, Gl, GM, ndt, oks, fun x hx => ?_, lts, ?_⟩
      · have : x.2 ∈ L.map (·.2) := by rw [← m3]; exact List.mem_map.mpr ⟨x, hx, rfl⟩
        obtain ⟨y, hy, e⟩ := List.mem_map.mp this
        have := okl y hy
        rwa [e] at this
      · have := congrArg List.length m3
        rw [List.length_map, List.length_map] at this
        show M.length ≤ 1000
        omega
    have ec : cells K b dx ⟨tw, lk, ts, M, h⟩ ⟨fo, me, qs, bu, ro, [], [], Q, [], [], 0⟩ = (b, .ins (aRl K) dx (flN [.ref tw, .ref lk, .int h, .ref fo, .ref me, .ref qs, .ref bu, .ref ro, .int 0])) :: ([(fo, HO.dK []), (me, .dK []), (qs, .dK (ents rf Q)), (bu, .dK []), (ro, .lst [])] ++ ls) := by
      rw [← hls]
      rfl
    have OC := O9.perm (cs' := cells K b dx ⟨tw, lk, ts, M, h⟩ ⟨fo, me, qs, bu, ro, [], [], Q, [], [], 0⟩) (by
      rw [ec]
      refine List.Perm.cons _ ?_
      show (([(ro, HO.lst []), (bu, HO.dK []), (qs, HO.dK (ents rf Q))] : List (Addr × HO)) ++ (ls ++ [(me, HO.dK []), (fo, HO.dK [])])).Perm _
      refine (List.Perm.append_left _ List.perm_append_comm).trans ?_
      exact (List.reverse_perm ([(fo, HO.dK []), (me, .dK []), (qs, .dK (ents rf Q)), (bu, .dK []), (ro, .lst [])] : List (Addr × HO))).append_right ls)
    refine hq H12 G ⟨tw, lk, ts, M, h⟩ ⟨fo, me, qs, bu, ro, [], [], Q, [], [], 0⟩ LHG ⟨OC.le, OC.nd, OC.at_, OC.no, fun p hp => (by cases hp), fun y hy => (by cases hy), SO⟩ rfl m3 rfl ?_
    show RS.mk [] [] (drop1 Q) [] [] 0 = RS.mk [] [] (ts.map fun t => (t, [])) [] [] 0
    have : drop1 Q = ts.map fun t => (t, ([] : List Str)) := by
      rw [← q1, List.map_map]
      unfold drop1
      exact List.map_congr_left fun p hp => by
        show (p.1, p.2.2) = (p.1, [])
        rw [q2 p hp]
    rw [this]
end
end K6

-- text K6M
set_option maxRecDepth 100000
set_option maxHeartbeats 4000000
namespace K6
open PySem PySem.Spec PyProof.Rows L2 LamX GX
section
variable {P : Program} {w : World} {K : PySem.W.Frag} {mg : Str → Option Value} {base : Heap}
/-! ### what stays true of a relay -/
def sends (bz : SD Bz) : SD Bz := bz.filter fun p => p.2.2.1.isSome
def rcv (bz : SD Bz) : List Str := bz.filterMap fun p => p.2.2.1
def places (x : RS) : List Str := x.qu.flatMap (·.2) ++ (sends x.bz).map (·.2.1)
structure BzOk (bz : SD Bz) : Prop where
  nd : (bz.map (·.1)).Nodup
  pm : (bz.map (·.1)).Perm ((sends bz).map (·.1) ++ rcv bz)
structure RInv (ts : List Str) (x : RS) : Prop where
  qk : x.qu.map (·.1) = ts
  mnd : (x.ms.map (·.1)).Nodup
  ml : x.ms.length ≤ 60
  me : ∀ n m, look x.ms n = some m → m.s ∈ ts ∧ m.e ∈ ts ∧ 1 ≤ m.n ∧ m.n ≤ 50
  bz : BzOk x.bz
  bt : ∀ t ∈ x.bz.map (·.1), t ∈ ts
  bl : ∀ p ∈ sends x.bz, 1 ≤ p.2.2.2 ∧ eOf x.ms p.2.1 ≠ p.1
  qe : ∀ p ∈ x.qu, ∀ n ∈ p.2, eOf x.ms n ≠ p.1
  pn : (places x).Nodup
  pm : ∀ n ∈ places x, ∃ m, look x.ms n = some m ∧ m.th = false
  pa : ∀ n m, look x.ms n = some m → m.th = false → n ∈ places x
  fnd : (x.fog.map (·.1)).Nodup
  fk : ∀ t ∈ x.fog.map (·.1), t ∈ ts
  fv : ∀ p ∈ x.fog, 1 ≤ p.2
theorem sends_app (a b : SD Bz) : sends (a ++ b) = sends a ++ sends b := List.filter_append ..
theorem rcv_app (a b : SD Bz) : rcv (a ++ b) = rcv a ++ rcv b := List.filterMap_append ..
theorem mem_sends {bz : SD Bz} {p : Str × Bz} (h : p ∈ sends bz) : ∃ o, p.2.2.1 = some o ∧ o ∈ rcv bz := by
  obtain ⟨h1, h2⟩ := List.mem_filter.mp h
  cases e : p.2.2.1 with
  | none => rw [e] at h2; cases h2
  | some o => exact ⟨o, rfl, List.mem_filterMap.mpr ⟨p, h1, e⟩⟩
section
variable {bz : SD Bz} {t o n : Str} {l : Int}
theorem BzOk.sn (h : BzOk bz) : ((sends bz).map (·.1) ++ rcv bz).Nodup := h.pm.nodup_iff.mp h.nd
theorem look_sends (h : look bz t = some (n, some o, l)) : (t, n, some o, l) ∈ sends bz := List.mem_filter.mpr ⟨look_in h, rfl⟩
theorem BzOk.other (h : BzOk bz) (hl : look bz t = some (n, some o, l)) : o ≠ t ∧ o ∈ bz.map (·.1) ∧ o ∉ (sends bz).map (·.1) := by
  have h1 := look_sends hl
  have ho : o ∈ rcv bz := List.mem_filterMap.mpr ⟨_, look_in hl, rfl⟩
  have hn : o ∉ (sends bz).map (·.1) := fun z => (List.nodup_append.mp h.sn).2.2 o z o ho rfl
  exact ⟨fun z => hn (z ▸ List.mem_map.mpr ⟨_, h1, rfl⟩), h.pm.mem_iff.mpr (List.mem_append_right _ ho), hn⟩
theorem BzOk.free (h : BzOk bz) (hl : look bz t = some (n, some o, l)) : ∃ a b, sends bz = a ++ (t, n, some o, l) :: b ∧ sends (delS (delS bz t) o) = a ++ b ∧ BzOk (delS (delS bz t) o) ∧ ∀ k ∈ (delS (delS bz t) o).map (·.1), k ∈ bz.map (·.1) := by
  obtain ⟨h1, h2, h3⟩ := h.other hl
  obtain ⟨a, b, e, ka, kb⟩ := look_split h.nd hl
  subst e
  have hd : delS (a ++ (t, n, some o, l) :: b) t = a ++ b := delS_mid ka kb
  have ho : o ∈ (a ++ b).map (·.1) := by
    rw [List.map_append, List.map_cons] at h2
    rw [List.map_append]
    rcases List.mem_append.mp h2 with z | z
    · exact List.mem_append_left _ z
    · rcases List.mem_cons.mp z with z | z
      · exact absurd z h1
      · exact List.mem_append_right _ z
  have nd2 : ((a ++ b).map (·.1)).Nodup := by rw [← hd]; exact nodup_delS h.nd
  obtain ⟨⟨n', r', l'⟩, hlo, hmo⟩ := look_mem ho
  obtain ⟨c, d, e2, kc, kd⟩ := look_split nd2 hlo
  have hr : r' = none := by
    cases r' with
    | none => rfl
    | some q =>
      exfalso
      apply h3
      have hm : (o, n', some q, l') ∈ a ++ (t, n, some o, l) :: b := by
        rcases List.mem_append.mp hmo with z | z
        · exact List.mem_append_left _ z
        · exact List.mem_append_right _ (List.mem_cons_of_mem _ z)
      exact List.mem_map.mpr ⟨_, List.mem_filter.mpr ⟨hm, rfl⟩, rfl⟩
  subst hr
  have hdd : delS (a ++ b) o = c ++ d := by rw [e2]; exact delS_mid kc kd
  have es : sends (c ++ d) = sends a ++ sends b := by
    rw [← sends_app, e2, sends_app, sends_app]
    rfl
  have er : rcv (c ++ d) = rcv a ++ rcv b := by
    rw [← rcv_app, e2, rcv_app, rcv_app]
    rfl
  rw [hd, hdd]
  refine ⟨sends a, sends b, by rw [sends_app]; rfl, es, ⟨?_, ?_⟩, ?_⟩
  · rw [← hdd]; exact nodup_delS nd2
  · have p1 := h.pm
    rw [sends_app, rcv_app] at p1
    have p2 : ((a ++ (t, n, some o, l) :: b).map (·.1)).Perm (t :: o :: (c ++ d).map (·.1)) := by
      rw [List.map_append, List.map_cons]
      refine List.perm_middle.trans (List.Perm.cons _ ?_)
      rw [← List.map_append, e2, List.map_append, List.map_cons, List.map_append]
      exact List.perm_middle
    have p3 : ((sends a ++ sends ((t, n, some o, l) :: b)).map (·.1) ++ (rcv a ++ rcv ((t, n, some o, l) :: b))).Perm (t :: o :: ((sends (c ++ d)).map (·.1) ++ rcv (c ++ d))) := by
      rw [es, er]
      show ((sends a ++ (t, n, some o, l) :: sends b).map (·.1) ++ (rcv a ++ o :: rcv b)).Perm _
      rw [List.map_append, List.map_cons, List.append_assoc, List.cons_append]
      refine List.perm_middle.trans (List.Perm.cons _ ?_)
      rw [← List.append_assoc, ← List.append_assoc, List.map_append, ← List.append_assoc]
      exact List.perm_middle
    exact (List.perm_cons _).mp ((List.perm_cons _).mp ((p2.symm.trans p1).trans p3))
  · intro k hk
    have : k ∈ (a ++ b).map (·.1) := by
      rw [e2]
      rw [List.map_append] at hk
      rw [List.map_append, List.map_cons]
      rcases List.mem_append.mp hk with z | z
      · exact List.mem_append_left _ z
      · exact List.mem_append_right _ (List.mem_cons_of_mem _ z)
    rw [List.map_append] at this
    rw [List.map_append, List.map_cons]
    rcases List.mem_append.mp this with z | z
    · exact List.mem_append_left _ z
    · exact List.mem_append_right _ (List.mem_cons_of_mem _ z)
theorem BzOk.less (h : BzOk bz) (hl : look bz t = some (n, some o, l)) (k : Int) : ∃ a b, sends bz = a ++ (t, n, some o, l) :: b ∧ sends (setS bz t (n, some o, k)) = a ++ (t, n, some o, k) :: b ∧ BzOk (setS bz t (n, some o, k)) ∧ (setS bz t (n, some o, k)).map (·.1) = bz.map (·.1) := by
  obtain ⟨a, b, e, ka, kb⟩ := look_split h.nd hl
  subst e
  rw [setS_mid ka kb]
  have hk : (a ++ (t, n, some o, k) :: b).map (·.1) = (a ++ (t, n, some o, l) :: b).map (·.1) := by
    rw [List.map_append, List.map_append]
    rfl
  refine ⟨sends a, sends b, by rw [sends_app]; rfl, by rw [sends_app]; rfl, ⟨by rw [hk]; exact h.nd, ?_⟩, hk⟩
  rw [hk]
  have p1 := h.pm
  rw [sends_app, rcv_app] at p1 ⊢
  have e1 : (sends a ++ sends ((t, n, some o, k) :: b)).map (·.1) = (sends a ++ sends ((t, n, some o, l) :: b)).map (·.1) := by
    rw [List.map_append, List.map_append]
    rfl
  rw [e1]
  exact p1
theorem BzOk.more (h : BzOk bz) (ht : t ∉ bz.map (·.1)) (ho : o ∉ bz.map (·.1)) (hne : o ≠ t) (k : Int) : setS (setS bz t (n, some o, k)) o (n, none, 0) = bz ++ [(t, n, some o, k), (o, n, none, 0)] ∧ sends (bz ++ [(t, n, some o, k), (o, n, none, 0)]) = sends bz ++ [(t, n, some o, k)] ∧ BzOk (bz ++ [(t, n, some o, k), (o, n, none, 0)]) := by
  refine ⟨?_, by rw [sends_app]; rfl, ⟨?_, ?_⟩⟩
  · rw [setS_new ht, setS_new (by
      rw [List.map_append]
      intro z
      rcases List.mem_append.mp z with z | z
      · exact ho z
      · exact hne (List.mem_singleton.mp z)), List.append_assoc]
    rfl
  · rw [List.map_append]
    refine List.nodup_append.mpr ⟨h.nd, List.nodup_cons.mpr ⟨fun z => hne (List.mem_singleton.mp z).symm, List.nodup_cons.mpr ⟨List.not_mem_nil, List.nodup_nil⟩⟩, fun x hx y hy z => ?_⟩
    subst z
    rcases List.mem_cons.mp hy with z | z
    · exact ht (by rw [z] at hx; exact hx)
    · exact ho (by rw [List.mem_singleton.mp z] at hx; exact hx)
  · rw [sends_app, rcv_app, List.map_append, List.map_append]
    show ((bz.map (·.1)) ++ [t, o]).Perm ((sends bz).map (·.1) ++ [t] ++ (rcv bz ++ [o]))
    refine (h.pm.append_right _).trans ?_
    rw [List.append_assoc, List.append_assoc]
    refine List.Perm.append_left _ ?_
    show (rcv bz ++ ([t] ++ [o])).Perm ([t] ++ (rcv bz ++ [o]))
    rw [← List.append_assoc, ← List.append_assoc]
    exact List.perm_append_comm.append_right _
end
/-- a queue changed -/
theorem perm_setQ {qu : SD (List Str)} {t : Str} {q : List Str} (nd : (qu.map (·.1)).Nodup) (h : look qu t = some q) : ∃ R, (qu.flatMap (·.2)).Perm (q ++ R) ∧ ∀ q', ((setS qu t q').flatMap (·.2)).Perm (q' ++ R) := by
  obtain ⟨a, b, rfl, ka, kb⟩ := look_split nd h
  have g : ∀ q' : List Str, ((a ++ (t, q') :: b).flatMap (·.2)).Perm (q' ++ (a.flatMap (·.2) ++ b.flatMap (·.2))) := fun q' => by
    rw [List.flatMap_append, List.flatMap_cons]
    show (a.flatMap (·.2) ++ (q' ++ b.flatMap (·.2))).Perm _
    rw [← List.append_assoc, ← List.append_assoc]
    exact List.perm_append_comm.append_right _
  exact ⟨_, g q, fun q' => by rw [setS_mid ka kb]; exact g q'⟩
theorem insQ_perm (q : List Str) (k : Nat) (n : Str) : (insQ q k n).Perm (n :: q) := by
  unfold insQ
  rw [List.append_assoc]
  refine List.perm_middle.trans (List.Perm.cons _ ?_)
  show (q.take k ++ q.drop k).Perm q
  rw [List.take_append_drop]
theorem filter_perm {q : List Str} (nd : q.Nodup) {n : Str} (h : n ∈ q) : q.Perm (n :: q.filter fun m => decide (m ≠ n)) := by
  obtain ⟨a, b, rfl⟩ := List.append_of_mem h
  have no : ∀ {l : List Str}, n ∉ l → l.filter (fun m => decide (m ≠ n)) = l := fun {l} h => List.filter_eq_self.mpr fun m hm => decide_eq_true fun z => h (z ▸ hm)
  have nd' := nd
  have nd2 := List.perm_middle.nodup_iff.mp nd'
  obtain ⟨h1, h2⟩ := List.nodup_cons.mp nd2
  rw [List.filter_append, List.filter_cons_of_neg (by simp), no (fun z => h1 (List.mem_append_left _ z)), no (fun z => h1 (List.mem_append_right _ z))]
  exact List.perm_middle
end
end K6

-- text K6N
set_option maxRecDepth 100000
set_option maxHeartbeats 4000000
namespace K6
open PySem PySem.Spec PyProof.Rows L2 LamX GX
section
variable {P : Program} {w : World} {K : PySem.W.Frag} {mg : Str → Option Value} {base : Heap}
/-! ### each doing keeps it -/
theorem permP {F F' q q' R a b : List Str} {n : Str} (h1 : F.Perm (q ++ R)) (h2 : F'.Perm (q' ++ R)) (h3 : q'.Perm (n :: q)) : (F' ++ (a ++ b)).Perm (F ++ (a ++ n :: b)) := by
  have e1 : (F' ++ (a ++ b)).Perm (n :: ((q ++ R) ++ (a ++ b))) := (h2.trans (h3.append_right R)).append_right (a ++ b)
  have e2 : (F ++ (a ++ n :: b)).Perm (n :: ((q ++ R) ++ (a ++ b))) := by
    refine (h1.append_right _).trans ?_
    rw [← List.append_assoc, ← List.append_assoc]
    exact List.perm_middle
  exact e1.trans e2.symm
section
variable {ts : List Str} {x x' : RS} {t n o : Str} {l : Int} {ls : List (Str × Str)} {hold : Int}
theorem RInv.row (h : RInv ts x) (w t n : Str) : RInv ts (x.row w t n) := ⟨h.qk, h.mnd, h.ml, h.me, h.bz, h.bt, h.bl, h.qe, h.pn, h.pm, h.pa, h.fnd, h.fk, h.fv⟩
theorem RInv.minute (h : RInv ts x) (m : Int) : RInv ts { x with mi := m } := ⟨h.qk, h.mnd, h.ml, h.me, h.bz, h.bt, h.bl, h.qe, h.pn, h.pm, h.pa, h.fnd, h.fk, h.fv⟩
theorem RInv.q (h : RInv ts x) (ht : t ∈ ts) : ∃ q, look x.qu t = some q := by
  obtain ⟨q, e, _⟩ := look_mem (cs := x.qu) (n := t) (by rw [h.qk]; exact ht)
  exact ⟨q, e⟩
theorem RInv.moved (h : RInv ts x) (hqk : x'.qu.map (·.1) = ts) (hms : x'.ms = x.ms) (hfog : x'.fog = x.fog) (b1 : BzOk x'.bz) (b2 : ∀ t ∈ x'.bz.map (·.1), t ∈ ts) (b3 : ∀ p ∈ sends x'.bz, 1 ≤ p.2.2.2 ∧ eOf x.ms p.2.1 ≠ p.1)
    (qe : ∀ p ∈ x'.qu, ∀ n ∈ p.2, eOf x.ms n ≠ p.1) (pm : (places x').Perm (places x)) : RInv ts x' :=
  ⟨hqk, by rw [hms]; exact h.mnd, by rw [hms]; exact h.ml, by rw [hms]; exact h.me, b1, b2, by rw [hms]; exact b3, by rw [hms]; exact qe, pm.nodup_iff.mpr h.pn, by rw [hms]; exact fun n hn => h.pm n (pm.mem_iff.mp hn), by
    rw [hms]
    exact fun n m e1 e2 => pm.mem_iff.mpr (h.pa n m e1 e2), by rw [hfog]; exact h.fnd, by rw [hfog]; exact h.fk, by rw [hfog]; exact h.fv⟩
theorem qe_set (h : ∀ p ∈ x.qu, ∀ n ∈ p.2, eOf x.ms n ≠ p.1) {q q' : List Str} (hq : look x.qu t = some q) (hq' : ∀ k ∈ q', k = n ∨ k ∈ q) (hn : eOf x.ms n ≠ t) : ∀ p ∈ setS x.qu t q', ∀ k ∈ p.2, eOf x.ms k ≠ p.1 := fun p hp k hk => by
  rcases mem_setS hp with e | e
  · exact h p e k hk
  · subst e
    rcases hq' k hk with e | e
    · rw [e]; exact hn
    · exact h _ (look_in hq) k e
theorem RInv.keysQ (h : RInv ts x) (ht : t ∈ ts) (q : List Str) : (setS x.qu t q).map (·.1) = ts := by rw [keys_old (by rw [h.qk]; exact ht), h.qk]
theorem RInv.ndQ (h : RInv ts x) (ndt : ts.Nodup) : (x.qu.map (·.1)).Nodup := by rw [h.qk]; exact ndt
theorem eOf_th (m0 : Str) : eOf (thMsg x.ms n) m0 = eOf x.ms m0 := by
  unfold thMsg
  rcases look_or x.ms n with e | ⟨m, e⟩
  · rw [e]
  · rw [e]
    show eOf (setS x.ms n { m with th := true }) m0 = _
    unfold eOf
    rw [look_setS]
    by_cases c : m0 = n
    · rw [if_pos c, c, e]
    · rw [if_neg c]
theorem RInv.goOn (h : RInv ts x) (ndt : ts.Nodup) (t : Str) : RInv ts (x.goOn t) := by
  unfold RS.goOn
  split
  rotate_left
  · exact h
  rename_i n o l hl
  obtain ⟨a, b, hs, hs', okF, sub⟩ := h.bz.free hl
  have tt : t ∈ ts := h.bt t (inK_iff.mp (by unfold inK; rw [hl]; rfl))
  obtain ⟨o1, o2, o3⟩ := h.bz.other hl
  have oo : o ∈ ts := h.bt o o2
  have b2 : ∀ k ∈ (x.free t o).bz.map (·.1), k ∈ ts := fun k hk => h.bt k (sub k hk)
  have b3 : ∀ p ∈ sends (x.free t o).bz, 1 ≤ p.2.2.2 ∧ eOf x.ms p.2.1 ≠ p.1 := fun p hp => h.bl p (by
    have hp : p ∈ a ++ b := by rw [← hs']; exact hp
    rw [hs]
    rcases List.mem_append.mp hp with z | z
    · exact List.mem_append_left _ z
    · exact List.mem_append_right _ (List.mem_cons_of_mem _ z))
  have hn := h.bl (t, n, some o, l) (by rw [hs]; simp)
  have epl : places x = x.qu.flatMap (·.2) ++ (a.map (·.2.1) ++ n :: b.map (·.2.1)) := by
    unfold places
    rw [hs, List.map_append]
    rfl
  have hsm : (sends (x.free t o).bz).map (·.2.1) = a.map (·.2.1) ++ b.map (·.2.1) := by
    show (sends (delS (delS x.bz t) o)).map _ = _
    rw [hs', List.map_append]
  split
  · refine RInv.row ?_ _ _ _
    obtain ⟨q, hq⟩ := h.q tt
    obtain ⟨R, p1, p2⟩ := perm_setQ (h.ndQ ndt) hq
    have eq : qOf x.qu t = q := by unfold qOf; rw [hq]; rfl
    rw [eq]
    refine h.moved (h.keysQ tt _) rfl rfl okF b2 b3 (qe_set h.qe hq (fun k hk => List.mem_cons.mp hk) hn.2) ?_
    rw [epl]
    show ((setS x.qu t (n :: q)).flatMap (·.2) ++ (sends (x.free t o).bz).map (·.2.1)).Perm _
    rw [hsm]
    exact permP p1 (p2 _) (List.Perm.refl _)
  · split
    · rename_i hl1
      obtain ⟨a', b', k1, k2, k3, k4⟩ := h.bz.less hl (l - 1)
      refine h.moved h.qk rfl rfl k3 (fun k hk => h.bt k (by rw [← k4]; exact hk)) (fun p hp => ?_) h.qe ?_
      · have hp : p ∈ a' ++ (t, n, some o, l - 1) :: b' := by rw [← k2]; exact hp
        rcases List.mem_append.mp hp with z | z
        · exact h.bl p (by rw [k1]; exact List.mem_append_left _ z)
        · rcases List.mem_cons.mp z with z | z
          · rw [z]; exact ⟨by show 1 ≤ l - 1; omega, hn.2⟩
          · exact h.bl p (by rw [k1]; exact List.mem_append_right _ (List.mem_cons_of_mem _ z))
      · unfold places
        show (x.qu.flatMap (·.2) ++ (sends (setS x.bz t (n, some o, l - 1))).map (·.2.1)).Perm _
        rw [k1, k2, List.map_append, List.map_append]
        exact List.Perm.refl _
    · split
      · rename_i heo
        refine RInv.row ?_ _ _ _
        have hnp : n ∈ places x := by rw [epl]; simp
        obtain ⟨m, hm, hth⟩ := h.pm n hnp
        have eth : thMsg x.ms n = setS x.ms n { m with th := true } := by unfold thMsg; rw [hm]
        have epl' : places { x.free t o with ms := thMsg x.ms n } = x.qu.flatMap (·.2) ++ (a.map (·.2.1) ++ b.map (·.2.1)) := by
          unfold places
          show x.qu.flatMap (·.2) ++ (sends (x.free t o).bz).map (·.2.1) = _
          rw [hsm]
        have pp : (places x).Perm (n :: places { x.free t o with ms := thMsg x.ms n }) := by
          rw [epl, epl', ← List.append_assoc, ← List.append_assoc]
          exact List.perm_middle
        have pnd := pp.nodup_iff.mp h.pn
        obtain ⟨n1, n2⟩ := List.nodup_cons.mp pnd
        have kk : x.ms.map (·.1) = (thMsg x.ms n).map (·.1) := by rw [eth, keys_old (inK_iff.mp (by unfold inK; rw [hm]; rfl))]
        refine ⟨h.qk, by show ((thMsg x.ms n).map (·.1)).Nodup; rw [← kk]; exact h.mnd, ?_, fun k m' hk => ?_, okF, b2, fun p hp => ?_, fun p hp k hk => ?_, n2, fun k hk => ?_, fun k m' hk hk2 => ?_, h.fnd, h.fk, h.fv⟩
        · have := congrArg List.length kk
          rw [List.length_map, List.length_map] at this
          show (thMsg x.ms n).length ≤ 60
          rw [← this]
          exact h.ml
        · have hk : look (thMsg x.ms n) k = some m' := hk
          rw [eth, look_setS] at hk
          by_cases c : k = n
          · rw [if_pos c] at hk
            cases hk
            exact h.me n m hm
          · rw [if_neg c] at hk
            exact h.me k m' hk
        · show _ ∧ eOf (thMsg x.ms n) _ ≠ _
          rw [eOf_th]
          exact b3 p hp
        · show eOf (thMsg x.ms n) _ ≠ _
          rw [eOf_th]
          exact h.qe p hp k hk
        · have c : k ≠ n := fun z => n1 (z ▸ hk)
          obtain ⟨m', h1, h2⟩ := h.pm k (pp.mem_iff.mpr (List.mem_cons_of_mem _ hk))
          refine ⟨m', ?_, h2⟩
          show look (thMsg x.ms n) k = _
          rw [eth, look_setS, if_neg c]
          exact h1
        · have hk : look (thMsg x.ms n) k = some m' := hk
          rw [eth, look_setS] at hk
          by_cases c : k = n
          · rw [if_pos c] at hk
            cases hk
            cases hk2
          · rw [if_neg c] at hk
            rcases List.mem_cons.mp (pp.mem_iff.mp (h.pa k m' hk hk2)) with z | z
            · exact absurd z c
            · exact z
      · rename_i heo
        refine RInv.row ?_ _ _ _
        obtain ⟨q, hq⟩ := h.q oo
        obtain ⟨R, p1, p2⟩ := perm_setQ (h.ndQ ndt) hq
        have eq : qOf (x.free t o).qu o = q := by
          show qOf x.qu o = q
          unfold qOf
          rw [hq]
          rfl
        unfold RS.wait
        rw [eq]
        have wp : (waitQ (x.free t o).ms q n).Perm (n :: q) := insQ_perm _ _ _
        refine h.moved (h.keysQ oo _) rfl rfl okF b2 b3 (qe_set h.qe hq (fun k hk => List.mem_cons.mp (wp.mem_iff.mp hk)) (fun z => heo z.symm)) ?_
        rw [epl]
        show ((setS x.qu o _).flatMap (·.2) ++ (sends (x.free t o).bz).map (·.2.1)).Perm _
        rw [hsm]
        exact permP p1 (p2 _) wp
theorem canGo_ok (ht : t ∈ ts) (hne : eOf x.ms n ≠ t) (h : canGo ts ls x t n = some o) : o ∈ ts ∧ o ≠ t ∧ inK x.bz o = false := by
  unfold canGo RS.rt at h
  split at h
  · rename_i w hw
    obtain ⟨Wy, hla⟩ := routeL_ok nearF_sub ht hw
    obtain ⟨o', tl, ew, h1, h2, h3⟩ := way_two Wy hla hne
    split at h
    · cases h
    · rename_i hc
      obtain rfl := Option.some.inj h
      rw [h3] at hc ⊢
      exact ⟨h1, h2, by simpa using hc⟩
  · cases h
theorem RInv.begin (h : RInv ts x) (ndt : ts.Nodup) (h1 : 1 ≤ hold) (ht : t ∈ ts) (hb : inK x.bz t = false) : RInv ts (x.begin ts ls hold t) := by
  unfold RS.begin
  split
  rotate_left
  · exact h
  rename_i n hf
  obtain ⟨q, hq⟩ := h.q ht
  have eq : qOf x.qu t = q := by unfold qOf; rw [hq]; rfl
  rw [eq] at hf ⊢
  have hnq := List.mem_of_find?_eq_some hf
  have hg : (canGo ts ls x t n).isSome = true := by simpa using List.find?_some hf
  obtain ⟨o, ho⟩ := Option.isSome_iff_exists.mp hg
  have hne := h.qe _ (look_in hq) n hnq
  obtain ⟨o1, o2, o3⟩ := canGo_ok ht hne ho
  rw [ho]
  refine RInv.row ?_ _ _ _
  have kt : t ∉ x.bz.map (·.1) := fun z => by rw [inK_iff.mpr z] at hb; cases hb
  have ko : o ∉ x.bz.map (·.1) := fun z => by rw [inK_iff.mpr z] at o3; cases o3
  obtain ⟨k1, k2, k3⟩ := h.bz.more kt ko o2 (n := n) (hold * nOf x.ms n)
  have k1 : setS (setS x.bz t (n, some ((some o).getD ""), hold * nOf x.ms n)) ((some o).getD "") (n, none, 0) = _ := k1
  rw [k1]
  obtain ⟨R, p1, p2⟩ := perm_setQ (h.ndQ ndt) hq
  have hnp : n ∈ places x := List.mem_append_left _ (List.mem_flatMap.mpr ⟨_, look_in hq, hnq⟩)
  obtain ⟨m, hm, hth⟩ := h.pm n hnp
  have hnn : 1 ≤ nOf x.ms n := by
    unfold nOf
    rw [hm]
    exact (h.me n m hm).2.2.1
  have qnd : q.Nodup := by
    have := h.pn
    unfold places at this
    have := (List.nodup_append.mp this).1
    exact (List.nodup_append.mp (p1.nodup_iff.mp this)).1
  refine h.moved (h.keysQ ht _) rfl rfl k3 (fun k hk => ?_) (fun p hp => ?_) (qe_set h.qe hq (n := n) (fun k hk => .inr (List.mem_filter.mp hk).1) hne) ?_
  · have hk : k ∈ (x.bz ++ [(t, n, some o, hold * nOf x.ms n), (o, n, none, 0)]).map (·.1) := hk
    rw [List.map_append] at hk
    rcases List.mem_append.mp hk with z | z
    · exact h.bt k z
    · rcases List.mem_cons.mp z with z | z
      · rw [z]; exact ht
      · rw [List.mem_singleton.mp z]; exact o1
  · have hp : p ∈ sends (x.bz ++ [(t, n, some o, hold * nOf x.ms n), (o, n, none, 0)]) := hp
    rw [k2] at hp
    rcases List.mem_append.mp hp with z | z
    · exact h.bl p z
    · rw [List.mem_singleton.mp z]
      exact ⟨by
        show 1 ≤ hold * nOf x.ms n
        have := Int.mul_le_mul h1 hnn (by decide) (by omega)
        omega, hne⟩
  · show ((setS x.qu t _).flatMap (·.2) ++ (sends (x.bz ++ [(t, n, some o, hold * nOf x.ms n), (o, n, none, 0)])).map (·.2.1)).Perm (x.qu.flatMap (·.2) ++ (sends x.bz).map (·.2.1))
    rw [k2, List.map_append]
    have e := permP (a := (sends x.bz).map (·.2.1)) (b := []) (p2 (q.filter fun m => decide (m ≠ n))) p1 (filter_perm qnd hnq)
    rw [List.append_nil] at e
    exact e.symm
theorem RInv.begin' (h : RInv ts x) (ndt : ts.Nodup) (h1 : 1 ≤ hold) (ht : t ∈ ts) : RInv ts (x.begin' ts ls hold t) := by
  unfold RS.begin'
  split
  · exact h
  · rename_i hb
    exact h.begin ndt h1 ht (by simpa using hb)
end
end
end K6

-- text K6O
set_option maxRecDepth 100000
set_option maxHeartbeats 4000000
namespace K6
open PySem PySem.Spec PyProof.Rows L2 LamX GX
section
variable {P : Program} {w : World} {K : PySem.W.Frag} {mg : Str → Option Value} {base : Heap}
/-! ### more of it -/
section
variable {ts : List Str} {x x' : RS} {t n o : Str} {l : Int} {ls : List (Str × Str)} {hold : Int}
theorem row_len (x : RS) (w t n : Str) : (x.row w t n).rw.length = x.rw.length + 1 := by
  show (x.rw ++ [_]).length = _
  rw [List.length_append]; rfl
theorem goOn_rw (x : RS) (t : Str) : (x.goOn t).rw.length ≤ x.rw.length + 1 := by
  unfold RS.goOn
  split
  · split
    · rw [row_len]; exact Nat.le_refl _
    · split
      · exact Nat.le_succ _
      · split
        · rw [row_len]; exact Nat.le_refl _
        · rw [row_len]; exact Nat.le_refl _
  · exact Nat.le_succ _
theorem begin_rw (x : RS) (t : Str) : (x.begin' ts ls hold t).rw.length ≤ x.rw.length + 1 := by
  unfold RS.begin'
  split
  · exact Nat.le_succ _
  · unfold RS.begin
    split
    · rw [row_len]; exact Nat.le_refl _
    · exact Nat.le_succ _
theorem fold_rw {f : RS → Str → RS} (h : ∀ x t, (f x t).rw.length ≤ x.rw.length + 1) : ∀ (l : List Str) (x : RS), (l.foldl f x).rw.length ≤ x.rw.length + l.length
  | [], x => Nat.le_refl _
  | t :: r, x => by
    have := fold_rw h r (f x t)
    have := h x t
    show (r.foldl f (f x t)).rw.length ≤ _
    rw [List.length_cons]
    omega
theorem fold_inv {f : RS → Str → RS} : ∀ (l : List Str) (x : RS), (∀ t ∈ l, ∀ x, RInv ts x → RInv ts (f x t)) → RInv ts x → RInv ts (l.foldl f x)
  | [], x, _, hx => hx
  | t :: r, x, h, hx => fold_inv r (f x t) (fun t' ht' => h t' (List.mem_cons_of_mem _ ht')) (h t List.mem_cons_self x hx)
structure FogOk (ts : List Str) (f : SD Int) : Prop where
  nd : (f.map (·.1)).Nodup
  k : ∀ t ∈ f.map (·.1), t ∈ ts
  v : ∀ p ∈ f, 1 ≤ p.2
theorem RInv.fog (h : RInv ts x) : FogOk ts x.fog := ⟨h.fnd, h.fk, h.fv⟩
theorem RInv.withFog (h : RInv ts x) {f : SD Int} (hf : FogOk ts f) : RInv ts { x with fog := f } := ⟨h.qk, h.mnd, h.ml, h.me, h.bz, h.bt, h.bl, h.qe, h.pn, h.pm, h.pa, hf.nd, hf.k, hf.v⟩
theorem FogOk.del {f : SD Int} (h : FogOk ts f) (t : Str) : FogOk ts (delS f t) := ⟨nodup_delS h.nd, fun k hk => by
  obtain ⟨p, hp, rfl⟩ := List.mem_map.mp hk
  exact h.k _ (List.mem_map.mpr ⟨p, (List.mem_filter.mp hp).1, rfl⟩), fun p hp => h.v p (List.mem_filter.mp hp).1⟩
theorem FogOk.set {f : SD Int} (h : FogOk ts f) {t : Str} (ht : t ∈ ts) {v : Int} (hv : 1 ≤ v) : FogOk ts (setS f t v) := ⟨nodup_setS h.nd, fun k hk => by
  obtain ⟨p, hp, rfl⟩ := List.mem_map.mp hk
  rcases mem_setS hp with e | e
  · exact h.k _ (List.mem_map.mpr ⟨p, e, rfl⟩)
  · rw [e]; exact ht, fun p hp => by
  rcases mem_setS hp with e | e
  · exact h.v p e
  · rw [e]; exact hv⟩
theorem FogOk.step {f : SD Int} (h : FogOk ts f) (t : Str) : FogOk ts (fogStep f t) := by
  unfold fogStep
  split
  · rename_i v hv
    have h1 := h.v _ (look_in hv)
    split
    · exact h.del t
    · exact h.set (h.k t (List.mem_map.mpr ⟨_, look_in hv, rfl⟩)) (by
        have : 1 ≤ v := h1
        omega)
  · exact h
theorem FogOk.steps : ∀ (l : List Str) (f : SD Int), FogOk ts f → FogOk ts (l.foldl fogStep f)
  | [], f, h => h
  | t :: r, f, h => FogOk.steps r _ (h.step t)
theorem RInv.goMin (h : RInv ts x) (ndt : ts.Nodup) (h1 : 1 ≤ hold) : RInv ts (x.goMin ts ls hold) := by
  unfold RS.goMin
  refine RInv.withFog ?_ (FogOk.steps _ _ (RInv.fog ?_)) <;>
  exact fold_inv _ _ (fun t ht x hx => hx.begin' ndt h1 ht) (fold_inv _ _ (fun t ht x hx => hx.goOn ndt t) (h.minute _))
theorem RInv.fogged (h : RInv ts x) (ht : t ∈ ts) (m : Int) : RInv ts { x with fog := if 0 < m then setS (delS x.fog t) t m else delS x.fog t } := h.withFog (by
  split
  · rename_i hm
    exact (h.fog.del t).set ht (by omega)
  · exact h.fog.del t)
theorem RInv.ql (h : RInv ts x) {q : List Str} (hq : look x.qu t = some q) : q.Nodup ∧ q.length ≤ 60 ∧ ∀ k ∈ q, ∃ m, look x.ms k = some m ∧ m.th = false := by
  have hm := look_in hq
  have nd : q.Nodup := by
    have h1 := (List.nodup_append.mp h.pn).1
    obtain ⟨a, b, e⟩ := List.append_of_mem hm
    rw [e, List.flatMap_append, List.flatMap_cons] at h1
    exact (List.nodup_append.mp (List.nodup_append.mp h1).2.1).1
  have hk : ∀ k ∈ q, ∃ m, look x.ms k = some m ∧ m.th = false := fun k hk => h.pm k (List.mem_append_left _ (List.mem_flatMap.mpr ⟨_, hm, hk⟩))
  refine ⟨nd, ?_, hk⟩
  have := nodup_sub (l := q) (m := x.ms.map (·.1)) nd fun k hkq => by
    obtain ⟨m, e, _⟩ := hk k hkq
    exact List.mem_map.mpr ⟨_, look_in e, rfl⟩
  rw [List.length_map] at this
  have := h.ml
  omega
theorem RInv.bzl (h : RInv ts x) : x.bz.length ≤ ts.length := by
  have := nodup_sub h.bz.nd h.bt
  rwa [List.length_map] at this
theorem RInv.new (ndt : ts.Nodup) : RInv ts (RS.new ts) := by
  have e : (RS.new ts).qu.flatMap (·.2) = [] := by
    show (ts.map fun t => (t, ([] : List Str))).flatMap (·.2) = []
    rw [List.flatMap_eq_nil_iff]
    intro p hp
    obtain ⟨t, _, rfl⟩ := List.mem_map.mp hp
    rfl
  have ep : places (RS.new ts) = [] := by unfold places; rw [e]; rfl
  refine ⟨?_, List.nodup_nil, (by show 0 ≤ 60; decide), fun n m z => (by cases z), ⟨List.nodup_nil, List.Perm.refl _⟩, fun t z => (by cases z), fun p z => (by cases z), fun p hp n hn => ?_, (by rw [ep]; exact List.nodup_nil), fun n z => (by rw [ep] at z; cases z), fun n m z => (by cases z), List.nodup_nil, fun t z => (by cases z), fun p z => (by cases z)⟩
  · show (ts.map fun t => (t, ([] : List Str))).map (·.1) = ts
    rw [List.map_map]
    exact List.map_id _
  · obtain ⟨t, _, rfl⟩ := List.mem_map.mp (show p ∈ ts.map fun t => (t, ([] : List Str)) from hp)
    cases hn
theorem RInv.send (h : RInv ts x) (ndt : ts.Nodup) {s e : Str} {k : Int} (u : Bool) (g : goodSend ts x.ms n s e k) : RInv ts (x.send n s e k u) := by
  obtain ⟨g1, g2, g3, g4, g5, g6, g7, g8⟩ := g
  unfold RS.send
  refine RInv.row ?_ _ _ _
  obtain ⟨q, hq⟩ := h.q g1
  have eq : qOf x.qu s = q := by unfold qOf; rw [hq]; rfl
  obtain ⟨R, p1, p2⟩ := perm_setQ (h.ndQ ndt) hq
  unfold RS.wait
  show RInv ts { x with ms := setS x.ms n ⟨s, e, k, u, false⟩, qu := setS x.qu s (waitQ (setS x.ms n ⟨s, e, k, u, false⟩) (qOf x.qu s) n) }
  rw [eq]
  have wp : (waitQ (setS x.ms n ⟨s, e, k, u, false⟩) q n).Perm (n :: q) := insQ_perm _ _ _
  generalize waitQ (setS x.ms n ⟨s, e, k, u, false⟩) q n = q' at wp
  have pp : (places { x with ms := setS x.ms n ⟨s, e, k, u, false⟩, qu := setS x.qu s q' }).Perm (n :: places x) := by
    show ((setS x.qu s q').flatMap (·.2) ++ (sends x.bz).map (·.2.1)).Perm (n :: (x.qu.flatMap (·.2) ++ (sends x.bz).map (·.2.1)))
    refine (((p2 q').trans (wp.append_right R)).append_right _).trans ?_
    exact List.Perm.cons _ (p1.symm.append_right _)
  have hnl : look x.ms n = none := look_none g3
  have hnp : n ∉ places x := fun z => by
    obtain ⟨m, e, _⟩ := h.pm n z
    rw [hnl] at e
    cases e
  have old : ∀ {m0 : Str}, m0 ∈ places x → eOf (setS x.ms n ⟨s, e, k, u, false⟩) m0 = eOf x.ms m0 := fun {m0} hm => by
    unfold eOf
    rw [look_setS, if_neg (show ¬ m0 = n from fun z => hnp (by rw [← z]; exact hm))]
  have enw : eOf (setS x.ms n ⟨s, e, k, u, false⟩) n = e := by
    unfold eOf
    rw [look_setS, if_pos rfl]
  refine ⟨h.keysQ g1 _, nodup_setS h.mnd, ?_, fun m0 m hm => ?_, h.bz, h.bt, fun p hp => ?_, fun p hp m0 hm => ?_, pp.nodup_iff.mpr (List.nodup_cons.mpr ⟨hnp, h.pn⟩), fun m0 hm => ?_, fun m0 m hm hm2 => ?_, h.fnd, h.fk, h.fv⟩
  · show (setS x.ms n _).length ≤ 60
    rw [setS_new g3, List.length_append]
    show x.ms.length + 1 ≤ 60
    omega
  · have hm : look (setS x.ms n ⟨s, e, k, u, false⟩) m0 = some m := hm
    rw [look_setS] at hm
    split at hm
    · cases hm
      exact ⟨g1, g2, g5, g6⟩
    · exact h.me m0 m hm
  · show 1 ≤ p.2.2.2 ∧ eOf (setS x.ms n _) _ ≠ _
    rw [old (List.mem_append_right _ (List.mem_map.mpr ⟨p, hp, rfl⟩))]
    exact h.bl p hp
  · show eOf (setS x.ms n _) _ ≠ _
    rcases mem_setS hp with z | z
    · rw [old (List.mem_append_left _ (List.mem_flatMap.mpr ⟨p, z, hm⟩))]
      exact h.qe p z m0 hm
    · subst z
      rcases List.mem_cons.mp (wp.mem_iff.mp hm) with z | z
      · rw [z, enw]; exact fun y => g8 y.symm
      · rw [old (List.mem_append_left _ (List.mem_flatMap.mpr ⟨_, look_in hq, z⟩))]
        exact h.qe _ (look_in hq) m0 z
  · show ∃ m, look (setS x.ms n _) m0 = some m ∧ _
    rw [look_setS]
    rcases List.mem_cons.mp (pp.mem_iff.mp hm) with z | z
    · rw [if_pos z]; exact ⟨_, rfl, rfl⟩
    · rw [if_neg (show ¬ m0 = n from fun y => hnp (by rw [← y]; exact z))]; exact h.pm m0 z
  · have hm : look (setS x.ms n ⟨s, e, k, u, false⟩) m0 = some m := hm
    rw [look_setS] at hm
    by_cases c : m0 = n
    · exact pp.mem_iff.mpr (by rw [c]; exact List.mem_cons_self)
    · rw [if_neg c] at hm
      exact pp.mem_iff.mpr (List.mem_cons_of_mem _ (h.pa m0 m hm hm2))
end
end
end K6

-- text K6P
set_option maxRecDepth 100000
set_option maxHeartbeats 4000000
namespace K6
open PySem PySem.Spec PyProof.Rows L2 LamX GX
section
variable {P : Program} {w : World} {K : PySem.W.Frag} {mg : Str → Option Value} {base : Heap}
/-! ### go_minute -/
theorem look_un {α : Type} {cs : SD (Addr × α)} {n : Str} {v : α} (h : (look cs n).map (·.2) = some v) : ∃ a, look cs n = some (a, v) := by
  rcases look_or cs n with e | ⟨⟨a, u⟩, e⟩
  · rw [e] at h; cases h
  · rw [e] at h; cases h; exact ⟨a, e⟩
theorem pu_rwn (x : RA) : x.rw.length = x.pu.rw.length := by
  show _ = (x.rw.map (·.2)).length
  rw [List.length_map]
theorem del_set (cs : SD Int) (n : Str) (v : Int) : delS (setS cs n v) n = delS cs n := by
  have mp : ∀ l : SD Int, (l.map fun p => if p.1 = n then (p.1, v) else p).filter (fun p => decide (p.1 ≠ n)) = l.filter (fun p => decide (p.1 ≠ n)) := by
    intro l
    induction l with
    | nil => rfl
    | cons p r ih =>
      rw [List.map_cons]
      by_cases h : p.1 = n
      · rw [if_pos h, List.filter_cons_of_neg (by simpa using h), List.filter_cons_of_neg (by simpa using h), ih]
      · rw [if_neg h, List.filter_cons_of_pos (by simpa using h), List.filter_cons_of_pos (by simpa using h), ih]
  unfold setS delS
  split
  · exact mp cs
  · rw [List.filter_append, List.filter_cons_of_neg (by simp)]
    exact List.append_nil _
def spGoMin (K : PySem.W.Frag) : Sp := fun vs H Q E => ∃ B r dx Z x, vs = [.ref r] ∧ Rel K B H r dx Z x ∧ RInv Z.ts x.pu ∧ x.rw.length ≤ 900000 ∧ 1 ≤ Z.hold ∧ Z.hold ≤ 20 ∧ (∀ x' H', Rel K B H' r dx Z x' → x'.pu = x.pu.goMin Z.ts Z.lp Z.hold → Q .non H')
theorem ok_goMin (C : Ctx K mg base) : MetX P w K mg base 5 (aRl K) "go_minute" ["self"] (spGoMin K) := by
  obtain ⟨fd, F⟩ := C.d.d_Relay_go_minute
  refine ⟨_, fd, ?_, F.funD.bindsN fun _ _ _ _ _ _ us hl => (match us, hl with | [_], _ => rfl), C.t.t_Relay_go_minute, C.t.c_Relay⟩
  refine F.ok sc_Relay_go_minute (fun vs H Q E h => ?_) (fun A outer s H vs Q E hr h => ?_)
  · obtain ⟨B, r, dx, Z, x, rfl, _⟩ := h
    rfl
  · obtain ⟨B, r, dx, Z, x, rfl, R, I, lrw, h1, h20, hq⟩ := h
    obtain ⟨fG, fdG, FG, bG, mG, cG⟩ := ok_goOn (P := P) (w := w) C
    obtain ⟨fB, fdB, FB, bB, mB, cB⟩ := ok_begin (P := P) (w := w) C
    have nn := sc_Relay_go_minute.nd
    refine ⟨_, pss_cons (ps_fldaug (pv 0) pe_int in_add)
      (pss_cons (ps_for ownsA rfl (pi_tup (pe_fld (pv 0) rfl)) (pg_name (i := 1) nn rfl (by first | exact Or.inl rfl | exact Or.inr rfl))
        (pss_one (ps_if (PW.pt (pw_and (pt_cmp (pc_din (hu_of hr) (pv 1) (pe_fld (pv 0) rfl))) (pw_and1 (pt_cmp (pc_notN (pe_ix ix_tup (pe_dget (hu_of hr) (pe_fld (pv 0) rfl) (pv 1) (fun _ _ => rfl)) pe_int (fun _ _ => rfl))))))) (pss_one (ps_expr (pe_meth (pv 0) cG mG FG (hr.mono (by decide)) bG .nil passA (pa_cons (pv 1) pa_nil)))) pss_nil)))
      (pss_cons (ps_for ownsA rfl (pi_tup (pe_fld (pv 0) rfl)) (pg_name (i := 1) nn rfl (by first | exact Or.inl rfl | exact Or.inr rfl))
        (pss_one (ps_if (pt_cmp (pc_dnotin (hu_of hr) (pv 1) (pe_fld (pv 0) rfl))) (pss_one (ps_expr (pe_meth (pv 0) cB mB FB (hr.mono (by decide)) bB .nil passA (pa_cons (pv 1) pa_nil)))) pss_nil)))
      (pss_one (ps_for ownsA rfl (pi_tup (pe_fld (pv 0) rfl)) (pg_name (i := 1) nn rfl (by first | exact Or.inl rfl | exact Or.inr rfl))
        (pss_one (ps_if (pt_cmp (pc_din (hu_of hr) (pv 1) (pe_fld (pv 0) rfl)))
          (pss_cons (ps_daug (hu_of hr) (pe_fld (pv 0) rfl) (pv 1) pe_int in_sub (fun _ _ _ => rfl))
          (pss_one (ps_if (pt_cmpR op_eq (pe_dget (hu_of hr) (pe_fld (pv 0) rfl) (pv 1) (fun _ _ => rfl)) pe_int (nomark _)) (pss_one (ps_ddel (pe_fld (pv 0) rfl) (pv 1))) pss_nil))) pss_nil)))))), ?_⟩
    have ndt := R.st.nd
    have l60 := R.st.l60
    refine ⟨_, rfl, r, _, dx, _, _, rfl, R.atR, C.t.c_Relay, C.t.a_Relay_minute, rfl, ?_⟩
    have F1 : putF "minute" (V.int (x.mi + 1)) (relF Z x) = relF Z { x with mi := x.mi + 1 } := rfl
    refine ⟨_, _, rfl, rfl, dx, _, R.atR, by show 9 < 1000; decide, ?_⟩
    rw [F1]
    have R1 := R.minute (x.mi + 1)
    generalize upd H r (.ins (aRl K) dx (relF Z { x with mi := x.mi + 1 })) = H1 at R1 ⊢
    have I1 : RInv Z.ts { x.pu with mi := x.pu.mi + 1 } := I.minute _
    have lr1 : ({ x.pu with mi := x.pu.mi + 1 } : RS).rw.length ≤ 900000 := by
      show x.pu.rw.length ≤ 900000
      rw [← pu_rwn]
      exact lrw
    unfold RS.goMin at hq
    generalize hx0 : ({ x.pu with mi := x.pu.mi + 1 } : RS) = x0 at hq I1 lr1
    have e1 : ({ x with mi := x.mi + 1 } : RA).pu = x0 := hx0
    generalize ({ x with mi := x.mi + 1 } : RA) = xa at R1 e1
    clear F1 R hx0 I lrw
    refine ⟨_, rfl, r, _, dx, _, _, rfl, R1.atR, C.t.c_Relay, C.t.a_Relay_towers, rfl, Z.tw, rfl, ⟨_, SqT.of R1.st.tw⟩, ?_⟩
    refine for_tup (xs := Z.ts.map V.str) (fun i σ H' => (∃ a1, σ = [some (.ref r), a1]) ∧ ∃ y : RA, Rel K B H' r dx Z y ∧ y.pu = (Z.ts.take i).foldl RS.goOn x0)
      ⟨⟨_, rfl⟩, xa, R1, e1⟩ (fun i σ H' _ ⟨_, y, Ry, _⟩ => SqT.of Ry.st.tw) (fun i v σ H2 hv ⟨⟨a1, hσ⟩, y, Ry, ey⟩ => ?_) (fun σ H2 ⟨⟨a1, hσ⟩, y, Ry, ey⟩ => ?_)
    · subst hσ
      obtain ⟨t, ht, rfl⟩ := GX.get_map hv
      have htm := List.mem_of_getElem? ht
      have es : (Z.ts.take (i + 1)).foldl RS.goOn x0 = y.pu.goOn t := by
        rw [GX.take_snoc ht, List.foldl_append, ← ey]
        rfl
      have Iy : RInv Z.ts y.pu := by
        rw [ey]
        exact fold_inv _ _ (fun t ht x hx => hx.goOn ndt t) I1
      have lry : y.rw.length ≤ 1000000 := by
        rw [pu_rwn, ey]
        have := fold_rw goOn_rw (Z.ts.take i) x0
        rw [List.length_take] at this
        omega
      refine ⟨_, rfl, _, rfl, r, _, dx, _, _, rfl, Ry.atR, C.t.c_Relay, C.t.a_Relay_busy, rfl, y.bu, _, rfl, DGet.k (k := Sum.inr t) Ry.atBu, _, rfl, ?_⟩
      rw [valV_ents, Option.isSome_map]
      rcases look_or y.bz t with hb | ⟨⟨ba, n, oo, l⟩, hb⟩
      · rw [hb]
        refine iteF (iteF ⟨⟨_, rfl⟩, y, Ry, ?_⟩)
        rw [es]
        unfold RS.goOn
        rw [pu_bz, hb]
        rfl
      · rw [hb]
        have dbt : DGet H2 y.bu (.str t) (some (.ref ba)) := by
          have := DGet.k (k := Sum.inr t) Ry.atBu
          rwa [valV_ents, hb] at this
        refine iteT ⟨_, rfl, r, _, dx, _, _, rfl, Ry.atR, C.t.c_Relay, C.t.a_Relay_busy, rfl, _, rfl, y.bu, _, rfl, dbt, ba, _, _, _, rfl, rfl, SqT.of (Ry.bzt _ (look_in hb)), atI_nat (j := 1) rfl, _, rfl, ?_⟩
        have hpb : look y.pu.bz t = some (n, oo, l) := by rw [pu_bz, hb]; rfl
        cases oo with
        | none =>
          refine iteF ⟨⟨_, rfl⟩, y, Ry, ?_⟩
          rw [es]
          unfold RS.goOn
          rw [hpb]
        | some o =>
          refine iteT ?_
          obtain ⟨o1, o2, o3⟩ := Iy.bz.other hpb
          have oin : o ∈ Z.ts := Iy.bt o o2
          obtain ⟨q, hqt⟩ := Iy.q htm
          obtain ⟨q2, hqo⟩ := Iy.q oin
          obtain ⟨_, l1, k1⟩ := Iy.ql hqt
          obtain ⟨_, l2, k2⟩ := Iy.ql hqo
          obtain ⟨a, ha⟩ := look_un (pu_qu (x := y) t ▸ hqt)
          obtain ⟨a2, ha2⟩ := look_un (pu_qu (x := y) o ▸ hqo)
          have hnp : n ∈ places y.pu := List.mem_append_right _ (List.mem_map.mpr ⟨_, look_sends hpb, rfl⟩)
          obtain ⟨m, hm, _⟩ := Iy.pm n hnp
          obtain ⟨ma, hma⟩ := look_un (pu_ms (x := y) n ▸ hm)
          have hbo : (look y.bz o).isSome = true := by
            have := inK_iff.mpr o2
            unfold inK at this
            rwa [pu_bz, Option.isSome_map] at this
          have lbz : y.bz.length ≤ 200 := by
            have := Iy.bzl
            have e : y.pu.bz.length = y.bz.length := drop1_len _
            omega
          refine ⟨_, rfl, r, dx, _, rfl, Ry.atR, rfl, _, rfl, B, r, dx, Z, y, t, ba, n, o, l, a, q, a2, q2, ma, m, rfl, Ry, lry, by rw [← drop1_keys]; exact Iy.ndQ ndt, by rw [← drop1_keys]; exact Iy.mnd, lbz, hb, hbo, o1, ha, by omega, ha2, by omega, fun k hk => ?_, hma, fun x' H' R' e' => ⟨⟨_, rfl⟩, x', R', by rw [es]; exact e'⟩⟩
          obtain ⟨m', hm', _⟩ := k2 k hk
          obtain ⟨_, e⟩ := look_un (pu_ms (x := y) k ▸ hm')
          rw [e]
          rfl
    subst hσ
    rw [List.length_map, List.take_length] at ey
    have I2 : RInv Z.ts (Z.ts.foldl RS.goOn x0) := fold_inv _ _ (fun t ht x hx => hx.goOn ndt t) I1
    have lr2 : (Z.ts.foldl RS.goOn x0).rw.length ≤ 900060 := by
      have := fold_rw goOn_rw Z.ts x0
      omega
    generalize Z.ts.foldl RS.goOn x0 = x1 at hq ey I2 lr2
    refine ⟨_, rfl, r, _, dx, _, _, rfl, Ry.atR, C.t.c_Relay, C.t.a_Relay_towers, rfl, Z.tw, rfl, ⟨_, SqT.of Ry.st.tw⟩, ?_⟩
    refine for_tup (xs := Z.ts.map V.str) (fun i σ H' => (∃ a1, σ = [some (.ref r), a1]) ∧ ∃ y : RA, Rel K B H' r dx Z y ∧ y.pu = (Z.ts.take i).foldl (RS.begin' Z.ts Z.lp Z.hold) x1)
      ⟨⟨_, rfl⟩, y, Ry, ey⟩ (fun i σ H' _ ⟨_, y, Ry, _⟩ => SqT.of Ry.st.tw) (fun i v σ H3 hv ⟨⟨a1, hσ⟩, y, Ry, ey⟩ => ?_) (fun σ H3 ⟨⟨a1, hσ⟩, y, Ry, ey⟩ => ?_)
    · subst hσ
      obtain ⟨t, ht, rfl⟩ := GX.get_map hv
      have htm := List.mem_of_getElem? ht
      have es : (Z.ts.take (i + 1)).foldl (RS.begin' Z.ts Z.lp Z.hold) x1 = y.pu.begin' Z.ts Z.lp Z.hold t := by
        rw [GX.take_snoc ht, List.foldl_append, ← ey]
        rfl
      have Iy : RInv Z.ts y.pu := by
        rw [ey]
        exact fold_inv _ _ (fun t ht x hx => hx.begin' ndt h1 (List.mem_of_mem_take ht)) I2
      have lry : y.rw.length ≤ 1000000 := by
        rw [pu_rwn, ey]
        have := fold_rw (f := RS.begin' Z.ts Z.lp Z.hold) (fun x t => begin_rw x t) (Z.ts.take i) x1
        rw [List.length_take] at this
        omega
      refine ⟨_, rfl, _, rfl, r, _, dx, _, _, rfl, Ry.atR, C.t.c_Relay, C.t.a_Relay_busy, rfl, y.bu, _, rfl, DGet.k (k := Sum.inr t) Ry.atBu, _, rfl, ?_⟩
      rw [valV_ents, Option.isSome_map]
      have ein : inK y.pu.bz t = (look y.bz t).isSome := by
        unfold inK
        rw [pu_bz, Option.isSome_map]
      cases hb : (look y.bz t).isSome with
      | true =>
        rw [hb] at ein
        refine iteF ⟨⟨_, rfl⟩, y, Ry, ?_⟩
        rw [es]
        unfold RS.begin'
        rw [if_pos ein]
      | false =>
        rw [hb] at ein
        have es2 : y.pu.begin' Z.ts Z.lp Z.hold t = y.pu.begin Z.ts Z.lp Z.hold t := by
          unfold RS.begin'
          rw [if_neg (by rw [ein]; decide)]
        refine iteT ?_
        obtain ⟨q, hqt⟩ := Iy.q htm
        obtain ⟨_, l1, k1⟩ := Iy.ql hqt
        obtain ⟨a, ha⟩ := look_un (pu_qu (x := y) t ▸ hqt)
        have lbz : y.bz.length ≤ 200 := by
          have := Iy.bzl
          have e : y.pu.bz.length = y.bz.length := drop1_len _
          omega
        have lqu : y.qu.length ≤ 200 := by
          have e : y.pu.qu.length = y.qu.length := drop1_len _
          have := congrArg List.length Iy.qk
          rw [List.length_map] at this
          omega
        refine ⟨_, rfl, r, dx, _, rfl, Ry.atR, rfl, _, rfl, B, r, dx, Z, y, t, a, q, rfl, Ry, lry, by rw [← drop1_keys]; exact Iy.ndQ ndt, lqu, lbz, htm, ha, by omega, h1, h20, fun n hn => ?_, fun x' H' R' e' => ⟨⟨_, rfl⟩, x', R', by rw [es, es2]; exact e'⟩⟩
        obtain ⟨m, hm, _⟩ := k1 n hn
        obtain ⟨ma, hma⟩ := look_un (pu_ms (x := y) n ▸ hm)
        obtain ⟨_, me, n1, n50⟩ := Iy.me n m hm
        have := Iy.qe _ (look_in hqt) n hn
        unfold eOf at this
        rw [hm] at this
        exact ⟨ma, m, hma, me, this, n1, n50⟩
    subst hσ
    rw [List.length_map, List.take_length] at ey
    have I3 : RInv Z.ts (Z.ts.foldl (RS.begin' Z.ts Z.lp Z.hold) x1) := fold_inv _ _ (fun t ht x hx => hx.begin' ndt h1 ht) I2
    have hq : ∀ x' H', Rel K B H' r dx Z x' → x'.pu = { Z.ts.foldl (RS.begin' Z.ts Z.lp Z.hold) x1 with fog := Z.ts.foldl fogStep (Z.ts.foldl (RS.begin' Z.ts Z.lp Z.hold) x1).fog } → Q .non H' := hq
    generalize Z.ts.foldl (RS.begin' Z.ts Z.lp Z.hold) x1 = x2 at hq ey I3
    refine ⟨_, rfl, r, _, dx, _, _, rfl, Ry.atR, C.t.c_Relay, C.t.a_Relay_towers, rfl, Z.tw, rfl, ⟨_, SqT.of Ry.st.tw⟩, ?_⟩
    refine for_tup (xs := Z.ts.map V.str) (fun i σ H' => (∃ a1, σ = [some (.ref r), a1]) ∧ ∃ y : RA, Rel K B H' r dx Z y ∧ y.pu = { x2 with fog := (Z.ts.take i).foldl fogStep x2.fog })
      ⟨⟨_, rfl⟩, y, Ry, ey⟩ (fun i σ H' _ ⟨_, y, Ry, _⟩ => SqT.of Ry.st.tw) (fun i v σ H4 hv ⟨⟨a1, hσ⟩, y, Ry, ey⟩ => ?_) (fun σ H4 ⟨⟨a1, hσ⟩, y, Ry, ey⟩ => ?_)
    · subst hσ
      obtain ⟨t, ht, rfl⟩ := GX.get_map hv
      have htm := List.mem_of_getElem? ht
      have efog : y.fog = (Z.ts.take i).foldl fogStep x2.fog := congrArg RS.fog ey
      have es : (Z.ts.take (i + 1)).foldl fogStep x2.fog = fogStep y.fog t := by
        rw [GX.take_snoc ht, List.foldl_append, ← efog]
        rfl
      have Fy : FogOk Z.ts y.fog := by
        rw [efog]
        exact FogOk.steps _ _ I3.fog
      have lf : y.fog.length < sizeLine := by
        have := nodup_sub Fy.nd Fy.k
        rw [List.length_map] at this
        exact Nat.lt_of_le_of_lt (Nat.le_trans this l60) (by decide)
      have fin : ∀ f : SD Int, f = fogStep y.fog t → ({ y with fog := f } : RA).pu = { x2 with fog := (Z.ts.take (i + 1)).foldl fogStep x2.fog } := fun f hf => by
        rw [es, ← hf]
        show ({ y.pu with fog := f } : RS) = _
        rw [ey]
      refine ⟨_, rfl, _, rfl, r, _, dx, _, _, rfl, Ry.atR, C.t.c_Relay, C.t.a_Relay_fog, rfl, y.fo, _, rfl, DGet.k (k := Sum.inr t) Ry.atFo, _, rfl, ?_⟩
      rw [valV_ents, Option.isSome_map]
      rcases look_or y.fog t with hf | ⟨v, hf⟩
      · rw [hf]
        refine iteF ⟨⟨_, rfl⟩, y, Ry, ?_⟩
        refine (fin y.fog ?_)
        unfold fogStep
        rw [hf]
      · rw [hf]
        have dft : DGet H4 y.fo (.str t) (some (.int v)) := by
          have := DGet.k (k := Sum.inr t) Ry.atFo
          rwa [valV_ents, hf] at this
        refine iteT ⟨_, rfl, r, _, dx, _, _, rfl, Ry.atR, C.t.c_Relay, C.t.a_Relay_fog, rfl, _, rfl, y.fo, _, rfl, dft, _, _, rfl, rfl, _, DPut.k (k := Sum.inr t) Ry.atFo (by rw [ents_len]; exact lf), ?_⟩
        rw [put_setS]
        have R5 := Ry.fogS (setS y.fog t (v - 1))
        generalize upd H4 y.fo _ = H5 at R5 ⊢
        have d5 : DGet H5 y.fo (.str t) (some (.int (v - 1))) := by
          have := DGet.k (k := Sum.inr t) R5.atFo
          rwa [valV_ents, look_setS, if_pos rfl] at this
        refine ⟨_, rfl, r, _, dx, _, _, rfl, R5.atR, C.t.c_Relay, C.t.a_Relay_fog, rfl, _, rfl, y.fo, _, rfl, d5, rfl, _, rfl, ?_⟩
        by_cases c : v - 1 = 0
        · refine iteDT (congrArg V.int c) ?_
          refine ⟨_, rfl, r, _, dx, _, _, rfl, R5.atR, C.t.c_Relay, C.t.a_Relay_fog, rfl, _, rfl, y.fo, _, Sum.inr t, rfl, R5.atFo, rfl, by rw [valV_ents, Option.isSome_map, look_setS, if_pos rfl]; rfl, ?_⟩
          rw [drop_delS]
          refine ⟨⟨_, rfl⟩, _, R5.fogS _, fin _ ?_⟩
          unfold fogStep
          rw [hf]
          show _ = if v - 1 = 0 then _ else _
          rw [if_pos c]
          exact del_set _ _ _
        · refine iteDF (fun z => c (V.int.inj z)) ⟨⟨_, rfl⟩, _, R5, fin _ ?_⟩
          unfold fogStep
          rw [hf]
          show _ = if v - 1 = 0 then _ else _
          rw [if_neg c]
    · subst hσ
      rw [List.length_map, List.take_length] at ey
      exact hq y H4 Ry ey
end
end K6

-- text K6Q
set_option maxRecDepth 100000
set_option maxHeartbeats 4000000
namespace K6
open PySem PySem.Spec PyProof.Rows L2 LamX GX
section
variable {P : Program} {w : World} {K : PySem.W.Frag} {mg : Str → Option Value} {base : Heap}
/-! ### the law's dice -/
abbrev dV (x y z : Int) : HO := .lst [.int x, .int y, .int z]
def spDice (K : PySem.W.Frag) : Sp := fun vs H Q _ => ∃ n : Int, vs = [.int n] ∧ ∀ x y z p, H p = none → Q (.ref p) (upd H p (dV x y z))
theorem ok_dice (C : Ctx K mg base) : CalX P w K mg base 1 "_law_dice" ["cell"] (spDice K) := by
  obtain ⟨fd, F⟩ := C.d.d_l_dice
  refine ⟨_, fd, ?_, F.funD.bindsN fun _ _ _ _ _ _ us hl => (match us, hl with | [_], _ => rfl), F.kp, C.t.m_l_dice⟩
  refine F.ok sc_l_dice (fun vs H Q E h => ?_) (fun A outer s H vs Q E hr h => ?_)
  · obtain ⟨n, rfl, _⟩ := h
    rfl
  · obtain ⟨n, rfl, hq⟩ := h
    refine ⟨_, pss_cons (ps_if (pt_chain op_lt op_lt (pe_op op_sub pe_int pe_int) (pv 0) pe_int) (pss_one (ps_ret (pe_lst (pa_cons (pe_callB call_abs (by rfl) C.t.b_abs (by decide +kernel) (pa_cons (pv 0) pa_nil)) (pa_cons pe_int (pa_cons pe_int pa_nil)))))) pss_nil)
      (pss_one (ps_ret (pe_lst (pa_cons (pv 0) (pa_cons (pe_op op_add pe_int (pe_op op_mod (pe_callTy call_int1 (by rfl) C.t.b_int (by decide +kernel) (pa_cons (pv 0) pa_nil)) pe_int)) (pa_cons (pe_callTy call_int1 (by rfl) C.t.b_int (by decide +kernel) (pa_cons (pe_cmpR op_ge (pv 0) (pe_op op_pow pe_int pe_int) (nomark _)) pa_nil)) pa_nil)))))), ?_⟩
    have last : ∀ H1 : Hp, H1 = H → (∀ (x y z : Int) (p : Addr), H1 p = none → Q (.ref p) (upd H1 p (dV x y z))) := fun H1 e => by rw [e]; exact hq
    refine ⟨_, _, rfl, rfl, _, rfl, _, _, rfl, rfl, _, rfl, ?_⟩
    by_cases h1 : (0 : Int) - 10 < n
    · rw [decide_eq_true h1]
      refine iteT ⟨_, _, rfl, rfl, _, rfl, ?_⟩
      by_cases h2 : n < 10
      · rw [decide_eq_true h2]
        exact iteT ⟨_, rfl, _, rfl, by show 3 ≤ sizeLine; decide, fun p hp => hq _ _ _ p hp⟩
      · rw [decide_eq_false h2]
        refine iteF ?_
        exact ⟨_, rfl, _, rfl, .inl ⟨_, rfl, _, _, rfl, rfl, by show (0 : Int) < 1009; decide, _, _, rfl, rfl, _, rfl, _, _, rfl, rfl, ⟨by decide, by decide, by decide⟩, _, _, rfl, rfl, .inr ⟨_, rfl, by show 3 ≤ sizeLine; decide, fun p hp => hq _ _ _ p hp⟩⟩⟩
    · rw [decide_eq_false h1]
      refine iteF ⟨_, rfl, iteF ?_⟩
      exact ⟨_, rfl, _, rfl, .inl ⟨_, rfl, _, _, rfl, rfl, by show (0 : Int) < 1009; decide, _, _, rfl, rfl, _, rfl, _, _, rfl, rfl, ⟨by decide, by decide, by decide⟩, _, _, rfl, rfl, .inr ⟨_, rfl, by show 3 ≤ sizeLine; decide, fun p hp => hq _ _ _ p hp⟩⟩⟩
theorem upd_upd {H : Hp} {a : Addr} {u v : HO} : upd (upd H a u) a v = upd H a v := by
  funext b
  by_cases h : b = a
  · rw [h, upd_same, upd_same]
  · rw [upd_ne h, upd_ne h, upd_ne h]
def spRoll (K : PySem.W.Frag) : Sp := fun vs H Q _ => ∃ (d : Addr) (x y z m : Int), vs = [.ref d, .int m] ∧ H d = some (dV x y z) ∧ 0 < m ∧ m ≤ 1000 ∧ ∀ x y z r, 0 ≤ r → r < m → Q (.int r) (upd H d (dV x y z))
theorem ok_roll (C : Ctx K mg base) : CalX P w K mg base 1 "_law_roll" ["dice", "many"] (spRoll K) := by
  obtain ⟨fd, F⟩ := C.d.d_l_roll
  refine ⟨_, fd, ?_, F.funD.bindsN fun _ _ _ _ _ _ us hl => (match us, hl with | [_, _], _ => rfl), F.kp, C.t.m_l_roll⟩
  refine F.ok sc_l_roll (fun vs H Q E h => ?_) (fun A outer s H vs Q E hr h => ?_)
  · obtain ⟨d, x, y, z, m, rfl, _⟩ := h
    rfl
  · obtain ⟨d, x, y, z, m, rfl, hd, hm, hm2, hq⟩ := h
    have nn := sc_l_roll.nd
    refine ⟨_, C8.pss_cut (ps_if (PW.pt (pw_or (pt_cmpR op_eq (pe_ix ix_list (pv 0) pe_int (fun _ _ => rfl)) pe_int (nomark _)) (pw_or1 (PW.pt (pw_and (pt_cmpR op_eq (pe_ix ix_list (pv 0) pe_int (fun _ _ => rfl)) pe_int (nomark _)) (pw_and1 (pt_cmpR op_gt (pe_ix ix_list (pv 0) pe_int (fun _ _ => rfl)) pe_int (nomark _))))))))
        (pss_cons (ps_set (i := 2) nn rfl (Or.inl rfl) (pe_op op_mod (pe_callTy call_int1 (by rfl) C.t.b_int (by decide +kernel) (pa_cons (pe_ix ix_list (pv 0) pe_int (fun _ _ => rfl)) pa_nil)) (pv 1)))
        (pss_cons (ps_asg (pe_op op_fdiv (pe_ix ix_list (pv 0) pe_int (fun _ _ => rfl)) (pv 1)) (pg_sub (pv 0) pe_int set_list))
        (pss_one (ps_ret (pv 2))))) pss_nil)
      (pss_cons (ps_asg pe_int (pg_sub (pv 0) pe_int set_list))
      (pss_cons (ps_if (pt_cmpR op_gt (pv 1) pe_int (nomark _)) (pss_one ps_never) pss_nil)
      (pss_cons (ps_asg (pe_op op_mod (pe_callTy call_int1 (by rfl) C.t.b_int (by decide +kernel) (pa_cons (pe_op op_add (pe_op op_add (pe_op op_mul (pe_ix ix_list (pv 0) pe_int (fun _ _ => rfl)) pe_int) (pe_op op_mul (pe_ix ix_list (pv 0) pe_int (fun _ _ => rfl)) pe_int)) pe_int) pa_nil)) pe_int) (pg_sub (pv 0) pe_int set_list))
      (pss_cons (ps_asg (pe_op op_add (pe_ix ix_list (pv 0) pe_int (fun _ _ => rfl)) pe_int) (pg_sub (pv 0) pe_int set_list))
      (pss_one (ps_ret (pe_op op_mod (pe_callTy call_int1 (by rfl) C.t.b_int (by decide +kernel) (pa_cons (pe_op op_fdiv (pe_ix ix_list (pv 0) pe_int (fun _ _ => rfl)) pe_int) pa_nil)) (pv 1))))))))
      , ?_⟩
    have r0 : ∀ a : Int, 0 ≤ a % m ∧ a % m < m := fun a => ⟨Int.emod_nonneg _ (by omega), Int.emod_lt_of_pos _ hm⟩
    refine ⟨fun σ' H' => σ' = [some (.ref d), some (.int m), none] ∧ H' = H, ?_, ?_⟩
    · refine ⟨_, rfl, d, _, _, _, rfl, rfl, SqL.of hd, atI_nat (j := 2) rfl, rfl, _, rfl, ?_⟩
      by_cases hz : z = 2
      · rw [decide_eq_true (show V.int z = V.int 2 by rw [hz])]
        refine iteT (iteT ?_)
        exact ⟨_, rfl, d, _, _, _, rfl, rfl, SqL.of hd, atI_nat (j := 0) rfl, .inl ⟨_, rfl, _, rfl, _, _, rfl, rfl, hm, _, rfl, d, _, _, _, rfl, rfl, SqL.of hd, atI_nat (j := 0) rfl, _, rfl, _, _, rfl, rfl, ⟨hm, by omega⟩, _, rfl, d, _, _, 0, rfl, rfl, hd, rfl, _, rfl, hq _ _ _ _ (r0 x).1 (r0 x).2⟩⟩
      rw [decide_eq_false (show ¬ V.int z = V.int 2 from fun q => hz (by injection q))]
      refine iteF ?_
      refine ⟨_, rfl, d, _, _, _, rfl, rfl, SqL.of hd, atI_nat (j := 2) rfl, rfl, _, rfl, ?_⟩
      by_cases h1 : z = 1
      · rw [decide_eq_true (show V.int z = V.int 1 by rw [h1])]
        refine iteT ⟨_, rfl, d, _, _, _, rfl, rfl, SqL.of hd, atI_nat (j := 0) rfl, _, _, rfl, rfl, _, rfl, ?_⟩
        by_cases h2 : 0 < x
        · rw [decide_eq_true h2]
          refine iteT ?_
          exact ⟨_, rfl, d, _, _, _, rfl, rfl, SqL.of hd, atI_nat (j := 0) rfl, .inl ⟨_, rfl, _, rfl, _, _, rfl, rfl, hm, _, rfl, d, _, _, _, rfl, rfl, SqL.of hd, atI_nat (j := 0) rfl, _, rfl, _, _, rfl, rfl, ⟨hm, by omega⟩, _, rfl, d, _, _, 0, rfl, rfl, hd, rfl, _, rfl, hq _ _ _ _ (r0 x).1 (r0 x).2⟩⟩
        · rw [decide_eq_false h2]
          exact iteF ⟨rfl, rfl⟩
      · rw [decide_eq_false (show ¬ V.int z = V.int 1 from fun q => h1 (by injection q))]
        exact iteF (iteF ⟨rfl, rfl⟩)
    · rintro σ' H' ⟨rfl, rfl⟩
      refine ⟨_, rfl, d, _, _, 2, rfl, rfl, hd, rfl, _, rfl, _, _, rfl, rfl, _, rfl, ?_⟩
      rw [decide_eq_false (show ¬ (100000000 : Int) < m by omega)]
      refine iteF ?_
      have hd1 : upd H' d (.lst ([V.int x, V.int y, V.int z].set 2 (V.int 0))) d = some (dV x y 0) := upd_same
      refine ⟨_, rfl, d, _, _, _, rfl, rfl, SqL.of hd1, atI_nat (j := 0) rfl, _, _, rfl, rfl, .inr ⟨by decide, by decide⟩, _, rfl, d, _, _, _, rfl, rfl, SqL.of hd1, atI_nat (j := 1) rfl, _, _, rfl, rfl, .inr ⟨by decide, by decide⟩, _, _, rfl, rfl, _, _, rfl, rfl, .inl ⟨_, rfl, _, _, rfl, rfl, by show (0 : Int) < 2147483647; decide, ?_⟩⟩
      refine ⟨_, rfl, d, _, _, 0, rfl, rfl, hd1, rfl, ?_⟩
      rw [upd_upd]
      have hd2 : ∀ v : Int, upd H' d (.lst ([V.int x, V.int y, V.int 0].set 0 (V.int v))) d = some (dV v y 0) := fun v => upd_same
      refine ⟨_, rfl, d, _, _, _, rfl, rfl, SqL.of (hd2 _), atI_nat (j := 1) rfl, _, _, rfl, rfl, _, rfl, d, _, _, 1, rfl, rfl, hd2 _, rfl, ?_⟩
      rw [upd_upd]
      refine ⟨_, rfl, d, _, _, _, rfl, rfl, SqL.of upd_same, atI_nat (j := 0) rfl, _, _, rfl, rfl, ⟨by decide, by decide⟩, .inl ⟨_, rfl, _, rfl, _, _, rfl, rfl, hm, hq _ _ _ _ (r0 _).1 (r0 _).2⟩⟩
/-! ### the law's rounds -/
def spRounds (K : PySem.W.Frag) : Sp := fun vs H Q _ => ∃ (s : Addr) (ns : List Int), vs = [.ref s, .int 1] ∧ SqL K H s (ns.map V.int) ∧ Tabs (T K) H ∧
  ∀ H' p d x y z, Le (T K) H H' → H' p = some (.lst [.ref d]) → H' d = some (dV x y z) → H d = none → Q (.ref p) H'
theorem ok_rounds (C : Ctx K mg base) : CalX P w K mg base 2 "_law_rounds" ["script", "most"] (spRounds K) := by
  obtain ⟨fd, F⟩ := C.d.d_l_rounds
  refine ⟨_, fd, ?_, F.funD.bindsN fun _ _ _ _ _ _ us hl => (match us, hl with | [_, _], _ => rfl), F.kp, C.t.m_l_rounds⟩
  refine F.ok sc_l_rounds (fun vs H Q E h => ?_) (fun A outer s H vs Q E hr h => ?_)
  · obtain ⟨s, ns, rfl, _⟩ := h
    rfl
  · obtain ⟨sa, ns, rfl, hs, hT, hq⟩ := h
    have nn := sc_l_rounds.nd
    refine ⟨_, pss_cons (ps_set (i := 2) nn rfl (Or.inl rfl) (pe_slice sl_list (pv 0) po_none (po_some (pv 1))))
      (C8.pss_cut (ps_if (pt_cmpR (op_eqD hr.units) (pv 2) (pe_lst pa_nil) (nomark _)) (pss_one (ps_set (i := 2) nn rfl (Or.inl rfl) (pe_lst (pa_cons pe_int pa_nil)))) pss_nil)
      (pss_one (ps_ret (pe_lcX (own := [("cell", 3)]) (g := gName 3) rfl nn rfl rfl takesA (pi_list (pv 2)) (blkOk_by (N := n_l_rounds) (sc := defScope s_l_rounds) (by decide +kernel))
        (fun _ _ _ _ _ => pg_name (i := 3) nn rfl (Or.inl rfl)) (fun _ _ _ _ _ => pts_nil) (fun _ _ _ _ _ _ _ px => pe_cx (ok_dice (P := P) (w := w) C) hr (by decide) rfl px (pa_cons (pv 3) pa_nil)))))), ?_⟩
    refine ⟨_, rfl, _, rfl, _, rfl, sa, _, rfl, hs, fun p hp => ?_⟩
    have ecut : cutV (ns.map V.int) none (some 1) = (ns.take 1).map V.int := by rw [List.map_take]; exact cutV_take _ 1
    rw [ecut]
    have L1 := (Le.refl hT).new (o := .lst ((ns.take 1).map V.int)) hp
    have hp1 : upd H p (.lst ((ns.take 1).map V.int)) p = some (.lst ((ns.take 1).map V.int)) := upd_same
    generalize upd H p (.lst ((ns.take 1).map V.int)) = H1 at L1 hp1
    refine ⟨fun σ' H' => ∃ (q : Addr) (n : Int), σ' = [some (.ref sa), some (.int 1), some (.ref q), none] ∧ Le (T K) H H' ∧ H' q = some (.lst [.int n]), ?_, ?_⟩
    · refine ⟨_, rfl, by show 0 ≤ sizeLine; decide, fun e he => ?_⟩
      have hpe : p ≠ e := ne_of_none hp1 he
      refine ⟨.list ((ns.take 1).map PyData.int), .list (([] : List Int).map PyData.int), .lst (SqL.of ((upd_ne hpe).trans hp1)) (DpAll.ints _), .lst (SqL.of upd_same) .nil, shaped_ints _, shaped_ints [], _, rfl, ?_⟩
      have ev : PyData.eqv (.list ((ns.take 1).map PyData.int)) (.list (([] : List Int).map PyData.int)) = decide (ns.take 1 = []) := eqv_ints _ []
      rw [ev]
      cases ns with
      | nil =>
        refine iteT ⟨by show 1 ≤ sizeLine; decide, fun q hqn => ⟨q, 0, rfl, (L1.new he).new hqn, upd_same⟩⟩
      | cons n r =>
        refine iteF ⟨p, n, rfl, L1.new he, (upd_ne hpe).trans hp1⟩
    · rintro σ' H2 ⟨q, n, rfl, L2, hq2⟩
      refine ⟨_, rfl, q, rfl, ⟨_, SqL.of hq2⟩, fun D hD => ?_⟩
      refine lc_list (K := K) (a := q) (xs := [V.int n]) (fun i H' => Le (T K) H2 H' ∧ (i = 0 → H' D = some (.lst [])) ∧ (i = 1 → ∃ d x y z, H' D = some (.lst [.ref d]) ∧ H' d = some (dV x y z) ∧ H2 d = none)) ⟨(Le.refl L2.tab).new hD, fun _ => upd_same, fun z => by cases z⟩ (fun i H' _ hP => SqL.of (hP.1.at hq2)) (fun i x H3 hx ⟨L3, h0, h1⟩ => ?_) (fun H3 ⟨L3, h0, h1⟩ => ?_)
      · cases i with
        | succ i => cases hx
        | zero =>
          have hx : V.int n = x := Option.some.inj hx
          subst hx
          have hD3 := h0 rfl
          refine ⟨rfl, ?_⟩
          refine yes_ ?_
          refine iteT ?_
          refine ⟨_, rfl, n, rfl, fun x y z d hd => ?_⟩
          have hDd : D ≠ d := ne_of_none hD3 hd
          have hD4 : upd H3 d (dV x y z) D = some (.lst []) := (upd_ne hDd).trans hD3
          exact ⟨_, hD4, by show 0 < sizeLine; decide, (L3.new hd).set hD hD4, (fun q => by cases q), fun _ => ⟨d, x, y, z, upd_same, (upd_ne (Ne.symm hDd)).trans upd_same, L3.no d hd⟩⟩
      · obtain ⟨d, x, y, z, g1, g2, g3⟩ := h1 rfl
        exact hq H3 D d x y z (L2.trans L3) g1 g2 (L2.no d g3)
end
end K6

-- text K6R
set_option maxRecDepth 100000
set_option maxHeartbeats 4000000
namespace K6
open PySem PySem.Spec PyProof.Rows L2 LamX GX
section
variable {P : Program} {w : World} {K : PySem.W.Frag} {mg : Str → Option Value} {base : Heap}
/-! ### the law's own relay -/
structure OA where
  fo : Addr
  me : Addr
  qs : Addr
  se : Addr
  ro : Addr
  fog : SD Int
  ms : SD (Addr × Msg)
  qu : SD (Addr × List Str)
  sd : SD (Addr × Str × Str × Int)
  rw : List (Addr × Row4)
  mi : Int
structure OS where
  fog : SD Int
  ms : SD Msg
  qu : SD (List Str)
  sd : SD (Str × Str × Int)
  rw : List Row4
  mi : Int
deriving DecidableEq
def OA.pu (y : OA) : OS := ⟨y.fog, drop1 y.ms, drop1 y.qu, drop1 y.sd, y.rw.map (·.2), y.mi⟩
def sdV (b : Str × Str × Int) : List V := [.str b.1, .str b.2.1, .int b.2.2]
/-- the law's statics: lists here -/
structure OStaOk (B : Hp) (Z : Sta) : Prop where
  tw : B Z.tw = some (.lst (Z.ts.map V.str))
  lk : B Z.lk = some (.lst (Z.ls.map rf))
  lt : ∀ x ∈ Z.ls, B x.1 = some (.tup [.str x.2.1, .str x.2.2])
  nd : Z.ts.Nodup
  ok : ∀ t ∈ Z.ts, (PyData.str t).canLay0 = true
  lok : ∀ x ∈ Z.ls, (PyData.str x.2.1).canLay0 = true ∧ (PyData.str x.2.2).canLay0 = true
  l60 : Z.ts.length ≤ 60
  ll : Z.ls.length ≤ 1000
theorem OStaOk.to {T : List (Addr × Str)} {B B' : Hp} {Z : Sta} (h : OStaOk B Z) (x : Le T B B') : OStaOk B' Z := ⟨x.at h.tw, x.at h.lk, fun y hy => x.at (h.lt y hy), h.nd, h.ok, h.lok, h.l60, h.ll⟩
def ownF (Z : Sta) (y : OA) : List (L2.Key × V) := [(.inr "towers", .ref Z.tw), (.inr "links", .ref Z.lk), (.inr "hold", .int Z.hold), (.inr "fog", .ref y.fo), (.inr "messages", .ref y.me), (.inr "queues", .ref y.qs), (.inr "sends", .ref y.se), (.inr "rows", .ref y.ro), (.inr "minute", .int y.mi)]
def oqL (q : SD (Addr × List Str)) : List (Addr × HO) := q.map fun p => (p.2.1, HO.lst (p.2.2.map V.str))
def omL (m : SD (Addr × Msg)) : List (Addr × HO) := m.map fun p => (p.2.1, HO.lst (msgV p.2.2))
def oc (ow : Addr) (Z : Sta) (y : OA) : List (Addr × HO) := [(ow, .dK (ownF Z y)), (y.fo, .dK (ents V.int y.fog)), (y.me, .dK (ents rf y.ms)), (y.qs, .dK (ents rf y.qu)), (y.se, .dK (ents rf y.sd)), (y.ro, .lst (y.rw.map rf))] ++ (omL y.ms ++ oqL y.qu)
structure OR (K : PySem.W.Frag) (B H : Hp) (ow : Addr) (Z : Sta) (y : OA) : Prop where
  o : Own1 K B H (oc ow Z y)
  sdt : ∀ p ∈ y.sd, H p.2.1 = some (.tup (sdV p.2.2))
  rwt : ∀ x ∈ y.rw, H x.1 = some (.tup (rowV x.2))
  sta : OStaOk B Z
theorem oc_plain {ow : Addr} {Z : Sta} {y : OA} : ∀ c ∈ oc ow Z y, PlainO c.2 ∧ ∀ xs, c.2 ≠ .tup xs := fun c hc => by
  unfold oc at hc
  rcases List.mem_append.mp hc with h | h
  · simp only [List.mem_cons, List.not_mem_nil, or_false] at h
    rcases h with rfl | rfl | rfl | rfl | rfl | rfl <;> exact ⟨trivial, fun _ z => by cases z⟩
  · rcases List.mem_append.mp h with h | h
    · obtain ⟨q, _, rfl⟩ := List.mem_map.mp h
      exact ⟨trivial, fun _ z => by cases z⟩
    · obtain ⟨q, _, rfl⟩ := List.mem_map.mp h
      exact ⟨trivial, fun _ z => by cases z⟩
theorem Own1.sub {B H : Hp} {cs cs' : List (Addr × HO)} (h : Own1 K B H cs) (s : cs'.Sublist cs) : Own1 K B H cs' := ⟨h.le, h.nd.sublist (s.map _), fun c hc => h.at_ c (s.subset hc), fun c hc => h.no c (s.subset hc)⟩
/-- a cell, named by its place, and the others -/
theorem Own1.setA {B H : Hp} {a b : List (Addr × HO)} {p : Addr} {u v : HO} (h : Own1 K B H (a ++ (p, u) :: b)) (hu : PlainO u) : Own1 K B (upd H p v) (a ++ (p, v) :: b) :=
  ((h.perm List.perm_middle).setF hu).perm List.perm_middle.symm
/-- a new cell in the place of another -/
theorem Own1.swapA {B H : Hp} {a b : List (Addr × HO)} {c : Addr × HO} {p : Addr} {o : HO} (h : Own1 K B H (a ++ c :: b)) (hp : H p = some o) (hB : B p = none) (hf : p ∉ (a ++ c :: b).map (·.1)) : Own1 K B H (a ++ (p, o) :: b) := by
  have h1 := (h.perm List.perm_middle).sub (List.sublist_cons_self c (a ++ b))
  have hf' : p ∉ (a ++ b).map (·.1) := fun z => hf (by
    rw [List.map_append] at z ⊢
    rw [List.map_cons]
    rcases List.mem_append.mp z with y | y
    · exact List.mem_append_left _ y
    · exact List.mem_append_right _ (List.mem_cons_of_mem _ y))
  refine Own1.perm (cs := (p, o) :: (a ++ b)) ⟨h.le, ?_, fun d hd => ?_, fun d hd => ?_⟩ List.perm_middle.symm
  · rw [List.map_cons]
    exact List.nodup_cons.mpr ⟨hf', h1.nd⟩
  · rcases List.mem_cons.mp hd with rfl | hd
    · exact hp
    · exact h1.at_ d hd
  · rcases List.mem_cons.mp hd with rfl | hd
    · exact hB
    · exact h1.no d hd
section
variable {B H H' : Hp} {ow : Addr} {Z : Sta} {y : OA} {p : Addr} {o : HO}
theorem OR.le (h : OR K B H ow Z y) : Le (T K) B H := h.o.le
theorem OR.tab (h : OR K B H ow Z y) : Tabs (T K) H := h.o.le.tab
theorem OR.to (h : OR K B H ow Z y) (l : Le (T K) H H') : OR K B H' ow Z y := ⟨⟨h.o.le.trans l, h.o.nd, fun c hc => l.ext _ _ (h.o.at_ c hc) (fun ps z => by have := (oc_plain c hc).1; rw [z] at this; exact this), h.o.no⟩, fun q hq => l.at (h.sdt q hq), fun x hx => l.at (h.rwt x hx), h.sta⟩
theorem OR.new (h : OR K B H ow Z y) (n : H p = none) : OR K B (upd H p o) ow Z y := h.to ((Le.refl h.tab).new n)
theorem OR.at_ (h : OR K B H ow Z y) {c : Addr × HO} (hc : c ∈ oc ow Z y) : H c.1 = some c.2 := h.o.at_ c hc
theorem OR.atO (h : OR K B H ow Z y) : H ow = some (.dK (ownF Z y)) := h.at_ (c := (ow, _)) (by unfold oc; exact List.mem_append_left _ (by simp))
theorem OR.atFo (h : OR K B H ow Z y) : H y.fo = some (.dK (ents V.int y.fog)) := h.at_ (c := (y.fo, _)) (by unfold oc; exact List.mem_append_left _ (by simp))
theorem OR.atMe (h : OR K B H ow Z y) : H y.me = some (.dK (ents rf y.ms)) := h.at_ (c := (y.me, _)) (by unfold oc; exact List.mem_append_left _ (by simp))
theorem OR.atQs (h : OR K B H ow Z y) : H y.qs = some (.dK (ents rf y.qu)) := h.at_ (c := (y.qs, _)) (by unfold oc; exact List.mem_append_left _ (by simp))
theorem OR.atSe (h : OR K B H ow Z y) : H y.se = some (.dK (ents rf y.sd)) := h.at_ (c := (y.se, _)) (by unfold oc; exact List.mem_append_left _ (by simp))
theorem OR.atRo (h : OR K B H ow Z y) : H y.ro = some (.lst (y.rw.map rf)) := h.at_ (c := (y.ro, _)) (by unfold oc; exact List.mem_append_left _ (by simp))
theorem OR.atMs (h : OR K B H ow Z y) {q : Str × Addr × Msg} (hq : q ∈ y.ms) : H q.2.1 = some (.lst (msgV q.2.2)) := h.at_ (c := (q.2.1, _)) (by unfold oc; exact List.mem_append_right _ (List.mem_append_left _ (List.mem_map.mpr ⟨q, hq, rfl⟩)))
theorem OR.atQu (h : OR K B H ow Z y) {q : Str × Addr × List Str} (hq : q ∈ y.qu) : H q.2.1 = some (.lst (q.2.2.map V.str)) := h.at_ (c := (q.2.1, _)) (by unfold oc; exact List.mem_append_right _ (List.mem_append_right _ (List.mem_map.mpr ⟨q, hq, rfl⟩)))
theorem OR.st (h : OR K B H ow Z y) : OStaOk H Z := h.sta.to h.le
theorem OR.fresh (h : OR K B H ow Z y) (hp : H p = none) : p ∉ (oc ow Z y).map (·.1) := fun hm => by
  obtain ⟨c, hc, rfl⟩ := List.mem_map.mp hm
  rw [h.at_ hc] at hp
  cases hp
/-- reading own["f"] -/
theorem OR.get (h : OR K B H ow Z y) (f : Str) (v : V) (e : valV (ownF Z y) (Sum.inr f) = some v) : DGet H ow (.str f) (some v) := by
  have := DGet.k (k := Sum.inr f) h.atO
  rwa [e] at this
/-- what tuples hold stays when a cell is written -/
theorem OR.keep (h : OR K B H ow Z y) {c : Addr × HO} (hc : c ∈ oc ow Z y) {q : Addr} {xs : List V} (hq : H q = some (.tup xs)) {v : HO} : upd H c.1 v q = some (.tup xs) := (upd_ne (fun z => by
  have := h.at_ hc
  rw [← z, hq] at this
  exact (oc_plain c hc).2 _ (Option.some.inj this).symm)).trans hq
/-- own["minute"] = m -/
theorem OR.minute (h : OR K B H ow Z y) (m : Int) : OR K B (upd H ow (.dK (ownF Z { y with mi := m }))) ow Z { y with mi := m } :=
  ⟨Own1.setA (a := []) h.o trivial, fun q hq => h.keep (c := (ow, .dK (ownF Z y))) (by unfold oc; simp) (h.sdt q hq), fun x hx => h.keep (c := (ow, .dK (ownF Z y))) (by unfold oc; simp) (h.rwt x hx), h.sta⟩
/-- own["fog"] = the dict at p -/
theorem OR.fogN (h : OR K B H ow Z y) {f : SD Int} (hp : H p = some (.dK (ents V.int f))) (hB : B p = none) (hf : p ∉ (oc ow Z y).map (·.1)) : OR K B (upd H ow (.dK (ownF Z { y with fo := p, fog := f }))) ow Z { y with fo := p, fog := f } :=
  ⟨Own1.setA (a := []) (Own1.swapA (a := [(ow, .dK (ownF Z y))]) h.o hp hB hf) trivial, fun q hq => h.keep (c := (ow, .dK (ownF Z y))) (by unfold oc; simp) (h.sdt q hq), fun x hx => h.keep (c := (ow, .dK (ownF Z y))) (by unfold oc; simp) (h.rwt x hx), h.sta⟩
/-- own["sends"] = the dict at p -/
theorem OR.sendN (h : OR K B H ow Z y) {f : SD (Addr × Str × Str × Int)} (hp : H p = some (.dK (ents rf f))) (hB : B p = none) (hf : p ∉ (oc ow Z y).map (·.1)) (ht : ∀ q ∈ f, q ∈ y.sd) : OR K B (upd H ow (.dK (ownF Z { y with se := p, sd := f }))) ow Z { y with se := p, sd := f } :=
  ⟨Own1.setA (a := []) (Own1.swapA (a := [(ow, .dK (ownF Z y)), (y.fo, .dK (ents V.int y.fog)), (y.me, .dK (ents rf y.ms)), (y.qs, .dK (ents rf y.qu))]) h.o hp hB hf) trivial, fun q hq => h.keep (c := (ow, .dK (ownF Z y))) (by unfold oc; simp) (h.sdt q (ht q hq)), fun x hx => h.keep (c := (ow, .dK (ownF Z y))) (by unfold oc; simp) (h.rwt x hx), h.sta⟩
/-- own["rows"] = the list at p -/
theorem OR.rowN (h : OR K B H ow Z y) {l : List (Addr × Row4)} (hp : H p = some (.lst (l.map rf))) (hB : B p = none) (hf : p ∉ (oc ow Z y).map (·.1)) (ht : ∀ x ∈ l, H x.1 = some (.tup (rowV x.2))) : OR K B (upd H ow (.dK (ownF Z { y with ro := p, rw := l }))) ow Z { y with ro := p, rw := l } :=
  ⟨Own1.setA (a := []) (Own1.swapA (a := [(ow, .dK (ownF Z y)), (y.fo, .dK (ents V.int y.fog)), (y.me, .dK (ents rf y.ms)), (y.qs, .dK (ents rf y.qu)), (y.se, .dK (ents rf y.sd))]) h.o hp hB hf) trivial, fun q hq => h.keep (c := (ow, .dK (ownF Z y))) (by unfold oc; simp) (h.sdt q hq), fun x hx => h.keep (c := (ow, .dK (ownF Z y))) (by unfold oc; simp) (ht x hx), h.sta⟩
/-- own["sends"][t] = the tuple at p -/
theorem OR.sendS (h : OR K B H ow Z y) {f : SD (Addr × Str × Str × Int)} (ht : ∀ q ∈ f, H q.2.1 = some (.tup (sdV q.2.2))) : OR K B (upd H y.se (.dK (ents rf f))) ow Z { y with sd := f } :=
  ⟨Own1.setA (a := [(ow, .dK (ownF Z y)), (y.fo, .dK (ents V.int y.fog)), (y.me, .dK (ents rf y.ms)), (y.qs, .dK (ents rf y.qu))]) h.o trivial, fun q hq => h.keep (c := (y.se, .dK (ents rf y.sd))) (by unfold oc; simp) (ht q hq), fun x hx => h.keep (c := (y.se, .dK (ents rf y.sd))) (by unfold oc; simp) (h.rwt x hx), h.sta⟩
/-- own["queues"][t] = the list at p -/
theorem OR.queN (h : OR K B H ow Z y) {a b : SD (Addr × List Str)} {t : Str} {c : Addr × List Str} {l : List Str} (e : y.qu = a ++ (t, c) :: b) (hp : H p = some (.lst (l.map V.str))) (hB : B p = none) (hf : p ∉ (oc ow Z y).map (·.1)) : OR K B (upd H y.qs (.dK (ents rf (a ++ (t, p, l) :: b)))) ow Z { y with qu := a ++ (t, p, l) :: b } := by
  have e1 : oc ow Z y = ([(ow, .dK (ownF Z y)), (y.fo, .dK (ents V.int y.fog)), (y.me, .dK (ents rf y.ms)), (y.qs, .dK (ents rf y.qu)), (y.se, .dK (ents rf y.sd)), (y.ro, .lst (y.rw.map rf))] ++ (omL y.ms ++ oqL a)) ++ (c.1, .lst (c.2.map V.str)) :: oqL b := by
    unfold oc
    rw [List.append_assoc, List.append_assoc]
    congr 2
    rw [e]
    unfold oqL
    rw [List.map_append]
    rfl
  have o1 := h.o
  rw [e1] at o1 hf
  have o2 := o1.swapA hp hB hf
  rw [List.append_assoc, List.append_assoc] at o2
  have o3 := Own1.setA (a := [(ow, .dK (ownF Z y)), (y.fo, .dK (ents V.int y.fog)), (y.me, .dK (ents rf y.ms))]) (p := y.qs) (u := .dK (ents rf y.qu)) (v := .dK (ents rf (a ++ (t, p, l) :: b))) o2 trivial
  refine ⟨?_, fun q hq => h.keep (c := (y.qs, .dK (ents rf y.qu))) (by unfold oc; simp) (h.sdt q hq), fun x hx => h.keep (c := (y.qs, .dK (ents rf y.qu))) (by unfold oc; simp) (h.rwt x hx), h.sta⟩
  have e2 : oc ow Z { y with qu := a ++ (t, p, l) :: b } = [(ow, .dK (ownF Z y)), (y.fo, .dK (ents V.int y.fog)), (y.me, .dK (ents rf y.ms))] ++ (y.qs, .dK (ents rf (a ++ (t, p, l) :: b))) :: ([(y.se, .dK (ents rf y.sd)), (y.ro, .lst (y.rw.map rf))] ++ (omL y.ms ++ (oqL a ++ (p, .lst (l.map V.str)) :: oqL b))) := by
    have : oqL (a ++ (t, p, l) :: b) = oqL a ++ (p, .lst (l.map V.str)) :: oqL b := by
      unfold oqL
      rw [List.map_append]
      rfl
    rw [← this]
    rfl
  rw [e2]
  exact o3
/-- own["messages"][n] = the list at p, in another's place -/
theorem OR.msgN (h : OR K B H ow Z y) {a b : SD (Addr × Msg)} {t : Str} {c : Addr × Msg} {l : Msg} (e : y.ms = a ++ (t, c) :: b) (hp : H p = some (.lst (msgV l))) (hB : B p = none) (hf : p ∉ (oc ow Z y).map (·.1)) : OR K B (upd H y.me (.dK (ents rf (a ++ (t, p, l) :: b)))) ow Z { y with ms := a ++ (t, p, l) :: b } := by
  have e1 : oc ow Z y = ([(ow, .dK (ownF Z y)), (y.fo, .dK (ents V.int y.fog)), (y.me, .dK (ents rf y.ms)), (y.qs, .dK (ents rf y.qu)), (y.se, .dK (ents rf y.sd)), (y.ro, .lst (y.rw.map rf))] ++ omL a) ++ (c.1, .lst (msgV c.2)) :: (omL b ++ oqL y.qu) := by
    unfold oc
    rw [List.append_assoc]
    congr 1
    rw [e]
    unfold omL
    rw [List.map_append, List.append_assoc]
    rfl
  have o1 := h.o
  rw [e1] at o1 hf
  have o2 := o1.swapA hp hB hf
  rw [List.append_assoc] at o2
  have o3 := Own1.setA (a := [(ow, .dK (ownF Z y)), (y.fo, .dK (ents V.int y.fog))]) (p := y.me) (u := .dK (ents rf y.ms)) (v := .dK (ents rf (a ++ (t, p, l) :: b))) o2 trivial
  refine ⟨?_, fun q hq => h.keep (c := (y.me, .dK (ents rf y.ms))) (by unfold oc; simp) (h.sdt q hq), fun x hx => h.keep (c := (y.me, .dK (ents rf y.ms))) (by unfold oc; simp) (h.rwt x hx), h.sta⟩
  have e2 : oc ow Z { y with ms := a ++ (t, p, l) :: b } = [(ow, .dK (ownF Z y)), (y.fo, .dK (ents V.int y.fog))] ++ (y.me, .dK (ents rf (a ++ (t, p, l) :: b))) :: ([(y.qs, .dK (ents rf y.qu)), (y.se, .dK (ents rf y.sd)), (y.ro, .lst (y.rw.map rf))] ++ (omL a ++ (p, .lst (msgV l)) :: (omL b ++ oqL y.qu))) := by
    have : omL (a ++ (t, p, l) :: b) ++ oqL y.qu = omL a ++ (p, .lst (msgV l)) :: (omL b ++ oqL y.qu) := by
      unfold omL
      rw [List.map_append, List.append_assoc]
      rfl
    rw [← this]
    rfl
  rw [e2]
  exact o3
/-- .. a new one -/
theorem OR.msgA (h : OR K B H ow Z y) {t : Str} {l : Msg} (hp : H p = some (.lst (msgV l))) (hB : B p = none) (hf : p ∉ (oc ow Z y).map (·.1)) : OR K B (upd H y.me (.dK (ents rf (y.ms ++ [(t, p, l)])))) ow Z { y with ms := y.ms ++ [(t, p, l)] } := by
  have o1 : Own1 K B H ((p, .lst (msgV l)) :: oc ow Z y) := ⟨h.o.le, by rw [List.map_cons]; exact List.nodup_cons.mpr ⟨hf, h.o.nd⟩, fun d hd => by
    rcases List.mem_cons.mp hd with rfl | hd
    · exact hp
    · exact h.o.at_ d hd, fun d hd => by
    rcases List.mem_cons.mp hd with rfl | hd
    · exact hB
    · exact h.o.no d hd⟩
  have o3 := Own1.setA (a := [(p, .lst (msgV l)), (ow, .dK (ownF Z y)), (y.fo, .dK (ents V.int y.fog))]) (p := y.me) (u := .dK (ents rf y.ms)) (v := .dK (ents rf (y.ms ++ [(t, p, l)]))) o1 trivial
  refine ⟨?_, fun q hq => h.keep (c := (y.me, .dK (ents rf y.ms))) (by unfold oc; simp) (h.sdt q hq), fun x hx => h.keep (c := (y.me, .dK (ents rf y.ms))) (by unfold oc; simp) (h.rwt x hx), h.sta⟩
  refine o3.perm ?_
  have e2 : oc ow Z { y with ms := y.ms ++ [(t, p, l)] } = ([(ow, .dK (ownF Z y)), (y.fo, .dK (ents V.int y.fog)), (y.me, .dK (ents rf (y.ms ++ [(t, p, l)]))), (y.qs, .dK (ents rf y.qu)), (y.se, .dK (ents rf y.sd)), (y.ro, .lst (y.rw.map rf))] ++ omL y.ms) ++ (p, .lst (msgV l)) :: oqL y.qu := by
    unfold oc omL
    rw [List.map_append, List.append_assoc, List.append_assoc]
    rfl
  rw [e2]
  refine List.Perm.trans ?_ List.perm_middle.symm
  refine List.Perm.cons _ ?_
  rw [List.append_assoc]
  exact List.Perm.refl _
end
end
end K6

-- text K6S
set_option maxRecDepth 100000
set_option maxHeartbeats 4000000
namespace K6
open PySem PySem.Spec PyProof.Rows L2 LamX GX
section
variable {P : Program} {w : World} {K : PySem.W.Frag} {mg : Str → Option Value} {base : Heap}
/-! ### the law's near and route -/
def spLNear (K : PySem.W.Frag) : Sp := fun vs H Q E => ∃ B ow Z y n, vs = [.ref ow, .str n] ∧ OR K B H ow Z y ∧ n ∈ Z.ts ∧ (∀ H' p, Le (T K) H H' → H' p = some (.lst ((nearF Z.ts Z.lp y.fog n).map V.str)) → Q (.ref p) H')
theorem ok_lnear (C : Ctx K mg base) : CalX P w K mg base 1 "_law_near" ["own", "name"] (spLNear K) := by
  obtain ⟨fd, F⟩ := C.d.d_l_near
  refine ⟨_, fd, ?_, F.funD.bindsN fun _ _ _ _ _ _ us hl => (match us, hl with | [_, _], _ => rfl), F.kp, C.t.m_l_near⟩
  refine F.ok sc_l_near (fun vs H Q E h => ?_) (fun A outer s H vs Q E hr h => ?_)
  · obtain ⟨B, ow, Z, y, n, rfl, _⟩ := h
    rfl
  · obtain ⟨B, ow, Z, y, n, rfl, R, hm, hq⟩ := h
    have nn := sc_l_near.nd
    have hu := hu65 hr
    refine ⟨_, pss_one (ps_ret (pe_lc (own := [("other", 2)]) (g := gName 2) rfl nn (pi_list (pe_dget (hu_of hr) (pv 0) pe_str (fun _ _ => rfl))) (blkOk_by (N := n_l_near) (sc := defScope s_l_near) (by decide +kernel))
      (fun _ _ _ _ _ => (pg_name (i := 2) nn rfl (by first | exact Or.inl rfl | exact Or.inr rfl))) (fun _ _ _ _ _ => pts_one (PW.pt (pw_and (pt_mid (PW.pt (pw_or (pt_cmpR (r := rInD K) (op_inD hu) (pe_tup (pa_cons (pv 1) (pa_cons (pv 2) pa_nil))) (pe_dget (hu_of hr) (pv 0) pe_str (fun _ _ => rfl)) rfl) (pw_or1 (pt_cmpR (r := rInD K) (op_inD hu) (pe_tup (pa_cons (pv 2) (pa_cons (pv 1) pa_nil))) (pe_dget (hu_of hr) (pv 0) pe_str (fun _ _ => rfl)) rfl)))))
        (pw_and (pt_cmp (pc_dnotin (hu_of hr) (pv 1) (pe_dget (hu_of hr) (pv 0) pe_str (fun _ _ => rfl)))) (pw_and1 (pt_cmp (pc_dnotin (hu_of hr) (pv 2) (pe_dget (hu_of hr) (pv 0) pe_str (fun _ _ => rfl)))))))))
      (fun _ _ _ _ _ => pv 2))), ?_⟩
    have Z0 := R.st
    refine ⟨_, rfl, ow, _, rfl, R.get "towers" _ rfl, Z.tw, rfl, ⟨_, SqL.of Z0.tw⟩, fun D hD => ?_⟩
    refine lc_pick (K := K) (T := T K) (xs := Z.ts) (f := V.str) (nearP Z.lp y.fog n) V.str (walksVL (SqL.of Z0.tw)) R.tab hD (Nat.le_trans Z0.l60 (by decide)) (fun o ho H3 Y N L3 hY hN => ⟨rfl, ?_⟩) (fun H3 L3 h3 => hq _ _ L3 h3)
    have R3 := R.to L3
    have okn := Z0.ok n hm
    have oko := Z0.ok o ho
    have shL : SeqAt.shaped (.list (Z.lp.map lkD)) = true := shaped_of (n := 2) (lay_list fun d hd => by
      obtain ⟨q, hq, rfl⟩ := List.mem_map.mp hd
      obtain ⟨y, hy, rfl⟩ := List.mem_map.mp hq
      exact lay_lk (Z0.lok y hy).1 (Z0.lok y hy).2) (by decide)
    have pe : nearP Z.lp y.fog n o = (linked Z.lp n o && (!inK y.fog n && !inK y.fog o)) := rfl
    have hN' : ∀ {H4 : Hp}, Le (T K) H3 H4 → nearP Z.lp y.fog n o = false → N H4 := fun L e => hN _ L e
    refine ⟨fun b H' => b = linked Z.lp n o ∧ Le (T K) H3 H', ?_, ?_⟩
    · refine ⟨_, rfl, _, rfl, by show 2 ≤ sizeLine; decide, fun q hqn => ?_⟩
      have L4 := (Le.refl L3.tab).new (o := .tup [.str n, .str o]) hqn
      have q4 : upd H3 q (.tup [.str n, .str o]) q = some (.tup [.str n, .str o]) := upd_same
      generalize upd H3 q (.tup [.str n, .str o]) = H4 at L4 q4 ⊢
      have R4 := R3.to L4
      refine ⟨_, rfl, ow, _, rfl, R4.get "links" _ rfl, lkD (n, o), Z.lp.map lkD, .tup (SqT.of q4) (.cons (.str _) (.cons (.str _) .nil)), .lst (SqL.of R4.st.lk) (dp_lk R4.st.lt), shaped_of (lay_lk okn oko) (by decide), shL, _, rfl, ?_⟩
      rw [any_lk]
      by_cases c1 : (n, o) ∈ Z.lp
      · rw [decide_eq_true c1]
        exact iteT ⟨by unfold linked; rw [decide_eq_true c1]; rfl, L4⟩
      · rw [decide_eq_false c1]
        refine iteF ⟨_, rfl, _, rfl, by show 2 ≤ sizeLine; decide, fun q' hqn' => ?_⟩
        have L5 := L4.new (o := .tup [.str o, .str n]) hqn'
        have q5 : upd H4 q' (.tup [.str o, .str n]) q' = some (.tup [.str o, .str n]) := upd_same
        generalize upd H4 q' (.tup [.str o, .str n]) = H5 at L5 q5 ⊢
        have R5 := R3.to L5
        refine ⟨_, rfl, ow, _, rfl, R5.get "links" _ rfl, lkD (o, n), Z.lp.map lkD, .tup (SqT.of q5) (.cons (.str _) (.cons (.str _) .nil)), .lst (SqL.of R5.st.lk) (dp_lk R5.st.lt), shaped_of (lay_lk oko okn) (by decide), shL, _, rfl, ?_⟩
        rw [any_lk]
        exact ⟨by unfold linked; rw [decide_eq_false c1, Bool.false_or], L5⟩
    · rintro b H4 ⟨rfl, L4⟩
      have R4 := R3.to L4
      cases hl : linked Z.lp n o with
      | false =>
        rw [hl] at pe
        exact iteF (iteF (hN' L4 pe))
      | true =>
        rw [hl, Bool.true_and] at pe
        refine iteT ⟨_, rfl, _, rfl, ow, _, rfl, R4.get "fog" _ rfl, y.fo, _, rfl, DGet.k (k := Sum.inr n) R4.atFo, _, rfl, ?_⟩
        rw [valV_ents, Option.isSome_map]
        show (if (!inK y.fog n) = true then _ else _)
        cases f1 : inK y.fog n with
        | true =>
          rw [f1] at pe
          exact iteF (iteF (hN' L4 pe))
        | false =>
          rw [f1] at pe
          refine iteT ⟨_, rfl, _, rfl, ow, _, rfl, R4.get "fog" _ rfl, y.fo, _, rfl, DGet.k (k := Sum.inr o) R4.atFo, _, rfl, ?_⟩
          rw [valV_ents, Option.isSome_map]
          show (if (!inK y.fog o) = true then _ else _)
          cases f2 : inK y.fog o with
          | true =>
            rw [f2] at pe
            exact iteF (hN' L4 pe)
          | false =>
            rw [f2] at pe
            exact iteT ⟨_, rfl, hY _ L4 pe⟩
def lAt (H : Hp) (ws : List WA) : Prop := ∀ y ∈ ws, H y.1 = some (.lst (y.2.map V.str))
theorem lAt.to {TT : List (Addr × Str)} {H H' : Hp} {ws : List WA} (h : lAt H ws) (l : Le TT H H') : lAt H' ws := fun y hy => l.at (h y hy)
def lstW (w : List Str) : PyData := .list (w.map PyData.str)
theorem dp_lways {H : Hp} : ∀ {ws : List WA}, lAt H ws → DpAll K H (ws.map rf) ((ws.map (·.2)).map lstW)
  | [], _ => .nil
  | x :: r, h => .cons (.lst (SqL.of (h x List.mem_cons_self)) (DpAll.strs _)) (dp_lways fun y hy => h y (List.mem_cons_of_mem _ hy))
theorem sh_lways {ws : List (List Str)} (h : ∀ w ∈ ws, ∀ n ∈ w, (PyData.str n).canLay0 = true) : SeqAt.shaped (.list (ws.map lstW)) = true := shaped_of (n := 2) (lay_list fun d hd => by
  obtain ⟨r, hr, rfl⟩ := List.mem_map.mp hd
  exact lay_list (names_lay (h r hr))) (by decide)
def spLRoute (K : PySem.W.Frag) : Sp := fun vs H Q E => ∃ B ow Z y s e, vs = [.ref ow, .str s, .str e] ∧ OR K B H ow Z y ∧ s ∈ Z.ts ∧
  (∀ H', Le (T K) H H' → (routeL Z.ts (nearF Z.ts Z.lp y.fog) s e = none → Q .non H') ∧ ∀ t w, routeL Z.ts (nearF Z.ts Z.lp y.fog) s e = some w → H' t = some (.lst (w.map V.str)) → Q (.ref t) H')
theorem ok_lroute (C : Ctx K mg base) : CalX P w K mg base 2 "_law_route" ["own", "start", "end"] (spLRoute K) := by
  obtain ⟨fd, F⟩ := C.d.d_l_route
  refine ⟨_, fd, ?_, F.funD.bindsN fun _ _ _ _ _ _ us hl => (match us, hl with | [_, _, _], _ => rfl), F.kp, C.t.m_l_route⟩
  refine F.ok sc_l_route (fun vs H Q E h => ?_) (fun A outer s H vs Q E hr h => ?_)
  · obtain ⟨B, ow, Z, y, s, e, rfl, _⟩ := h
    rfl
  · obtain ⟨B, ow, Z, y, st, en, rfl, R, hm, hq⟩ := h
    have nn := sc_l_route.nd
    refine ⟨_, pss_cons (ps_par (i := 3) (j := 4) (by rfl) nn rfl rfl (by decide) rfl rfl (pa_cons (pe_lst (pa_cons (pe_lst (pa_cons (pv 1) pa_nil)) pa_nil)) (pa_cons (pe_lst (pa_cons (pv 1) pa_nil)) pa_nil)) (by rfl))
      (pss_cons (ps_while ownsA (pt_cmpR (op_neD hr.units) (pv 3) (pe_lst pa_nil) (nomark _))
        (pss_cons (ps_setLc (i := 5) (own := [("way", 7)]) (g := gName 7) rfl nn rfl rfl (sw_true rfl rfl rfl (by decide +kernel)) (pi_list (pv 3)) (blkOk_by (N := n_l_route) (sc := defScope s_l_route) (by decide +kernel)) (fun _ _ _ _ _ => (pg_name (i := 7) nn rfl (by first | exact Or.inl rfl | exact Or.inr rfl)))
          (fun _ _ _ _ _ => pts_one (pt_cmpR op_eq (pe_ix (r := rIxL K) ix_list (pv 7) (pe_op op_sub (pe_callB (r := rLenO K) (call_lenK rfl) (by rfl) C.t.b_len PySem.boot_len (pa_cons (pv 7) pa_nil)) pe_int) (fun _ _ => rfl)) (pv 2) (nomark _))) (fun _ _ _ _ _ => pv 7))
        (pss_cons (ps_if (pt_cmpR (op_neD hr.units) (pv 5) (pe_lst pa_nil) (nomark _)) (pss_one (ps_ret (pe_ix ix_list (pv 5) pe_int (fun _ _ => rfl)))) pss_nil)
        (pss_cons (ps_set (i := 6) nn rfl (by first | exact Or.inl rfl | exact Or.inr rfl) (pe_lst pa_nil))
        (pss_cons (ps_for ownsA rfl (pi_list (pv 3)) (pg_name (i := 7) nn rfl (by first | exact Or.inl rfl | exact Or.inr rfl))
          (pss_one (ps_for ownsA rfl (pi_list (pe_cx (ok_lnear (P := P) (w := w) C) hr (by decide) rfl passA (pa_cons (pv 0) (pa_cons (pe_ix ix_list (pv 7) (pe_op op_sub (pe_callB call_len_seq (by rfl) C.t.b_len PySem.boot_len (pa_cons (pv 7) pa_nil)) pe_int) (fun _ _ => rfl)) pa_nil)))) (pg_name (i := 8) nn rfl (by first | exact Or.inl rfl | exact Or.inr rfl))
            (pss_one (ps_if (pt_cmpR op_notIn_seq (pv 8) (pv 4) rfl)
              (pss_one (ps_par (i := 4) (j := 6) (by rfl) nn rfl rfl (by decide) rfl rfl (pa_cons (pe_op op_cat (pv 4) (pe_lst (pa_cons (pv 8) pa_nil))) (pa_cons (pe_op op_cat (pv 6) (pe_lst (pa_cons (pe_op op_cat (pv 7) (pe_lst (pa_cons (pv 8) pa_nil))) pa_nil))) pa_nil)) (by rfl))) pss_nil)))))
        (pss_one (ps_set (i := 3) nn rfl (by first | exact Or.inl rfl | exact Or.inr rfl) (pv 6))))))))
      (pss_one (ps_ret pe_non))), ?_⟩
    have Z0 := R.st
    have okn : ∀ {w : List Str} {b : Nat}, Way Z.ts st b w → ∀ n ∈ w, (PyData.str n).canLay0 = true := fun hw n hn' => Z0.ok n (hw.all hm n hn')
    have nfs : ∀ n, ∀ o ∈ nearF Z.ts Z.lp y.fog n, o ∈ Z.ts := nearF_sub
    generalize hnf : nearF Z.ts Z.lp y.fog = nf at hq nfs
    have atl : ∀ {w : List Str} {b : Nat}, Way Z.ts st b w → atI (w.map V.str) ((((w.map V.str).length : Nat) : Int) - 1) = some (V.str (lastS w)) := fun {w b} hw => by
      obtain ⟨p, e⟩ := hw.last
      rw [List.length_map]
      have hl : w.length = p.length + 1 := by
        have := congrArg List.length e
        rw [List.length_append] at this
        exact this
      rw [hl, show ((p.length + 1 : Nat) : Int) - 1 = (p.length : Nat) by omega]
      refine atI_nat ?_
      rw [List.getElem?_map]
      have : w[p.length]? = some (lastS w) := by
        conv => lhs; rw [e]
        rw [List.getElem?_append_right (Nat.le_refl _), Nat.sub_self]
        rfl
      rw [this]
      rfl
    refine ⟨_, rfl, by show 1 ≤ sizeLine; decide, fun p hp => ⟨by show 1 ≤ sizeLine; decide, fun wl hwl => ⟨_, rfl, by show 1 ≤ sizeLine; decide, fun sl hsl => ⟨_, _, rfl, ?_⟩⟩⟩⟩
    generalize hRR : routeL Z.ts nf st en = RR at hq
    have L0 := (((Le.refl R.tab).new (o := .lst [.str st]) hp).new (o := .lst [.ref p]) hwl).new (o := .lst [.str st]) hsl
    have hp1 : upd H p (.lst [.str st]) p = some (.lst ([st].map V.str)) := upd_same
    have hp2 := (upd_ne (o := .lst [.ref p]) (ne_of_none hp1 hwl)).trans hp1
    have hp3 := (upd_ne (o := .lst [.str st]) (ne_of_none hp2 hsl)).trans hp2
    have hw2 : upd (upd H p (.lst [.str st])) wl (.lst [.ref p]) wl = some (.lst ([(p, [st])].map rf)) := upd_same
    have hw3 := (upd_ne (o := .lst [.str st]) (ne_of_none hw2 hsl)).trans hw2
    have hs3 : upd (upd (upd H p (.lst [.str st])) wl (.lst [.ref p])) sl (.lst [.str st]) sl = some (.lst ([st].map V.str)) := upd_same
    generalize upd (upd (upd H p (.lst [.str st])) wl (.lst [.ref p])) sl (.lst [.str st]) = H0 at L0 hp3 hw3 hs3 ⊢
    clear hp1 hp2 hw2 hp hwl hsl
    refine ⟨fun n σ H' => ∃ (wl sl : Addr) (ws : List WA) (seen : List Str) (a5 a6 a7 a8 : Option V), σ = [some (.ref ow), some (.str st), some (.str en), some (.ref wl), some (.ref sl), a5, a6, a7, a8] ∧ Le (T K) H H' ∧ H' wl = some (.lst (ws.map rf)) ∧ lAt H' ws ∧ H' sl = some (.lst (seen.map V.str)) ∧
      RtI Z.ts st (ws.map (·.2)) seen ∧ (ws.map (·.2) = [] ∨ Z.ts.length + 1 ≤ seen.length + n) ∧ routeF nf en n (ws.map (·.2)) seen = RR, ⟨Z.ts.length + 1, wl, sl, [(p, [st])], [st], none, none, none, none, rfl, L0, hw3, (fun y hy => by rw [List.mem_singleton.mp hy]; exact hp3), hs3, RtI.one hm, .inr (by simp), hRR⟩, ?_⟩
    clear L0 hp3 hw3 hs3 H0 hRR wl sl p
    rintro n σ H1 ⟨wl, sl, ws, seen, a5, a6, a7, a8, rfl, L1, hw1, hl1, hs1, I, hk, hR⟩
    refine ⟨_, rfl, by show 0 ≤ sizeLine; decide, fun e he => ⟨.list ((ws.map (·.2)).map lstW), .list [], .lst (SqL.of ((upd_ne (ne_of_none hw1 he)).trans hw1)) (dp_lways fun y hy => (upd_ne (ne_of_none (hl1 y hy) he)).trans (hl1 y hy)), .lst (SqL.of upd_same) .nil, sh_lways (fun w hw => okn (I.way w hw)), rfl, _, rfl, ?_⟩⟩
    rw [eqv_nilL]
    have L2 := (Le.refl L1.tab).new (o := .lst []) he
    have L1 := L1.trans L2
    have hw2 := L2.at hw1
    have hl2 := hl1.to L2
    have hs2 := L2.at hs1
    clear hw1 hl1 hs1
    generalize upd H1 e (.lst []) = H2 at L1 hw2 hl2 hs2 ⊢
    clear L2 he
    by_cases hws : ws = []
    · subst hws
      refine iteF ?_
      have hR : routeF nf en n [] seen = RR := hR
      rw [routeF_nil] at hR
      exact (hq _ L1).1 hR.symm
    refine iteDN (by simpa using hws) ?_
    obtain ⟨n, rfl⟩ := fuel_go I (by simpa using hws) hk
    have hk : Z.ts.length + 1 ≤ seen.length + (n + 1) := by
      rcases hk with z | z
      · exact absurd z (by simpa using hws)
      · exact z
    refine ⟨fun σ' H' => ∃ m, m < n + 1 ∧ ∃ (wl sl : Addr) (ws : List WA) (seen : List Str) (a5 a6 a7 a8 : Option V), σ' = [some (.ref ow), some (.str st), some (.str en), some (.ref wl), some (.ref sl), a5, a6, a7, a8] ∧ Le (T K) H H' ∧ H' wl = some (.lst (ws.map rf)) ∧ lAt H' ws ∧ H' sl = some (.lst (seen.map V.str)) ∧
      RtI Z.ts st (ws.map (·.2)) seen ∧ (ws.map (·.2) = [] ∨ Z.ts.length + 1 ≤ seen.length + m) ∧ routeF nf en m (ws.map (·.2)) seen = RR, fun _ _ h => h, ?_⟩
    have wl60 : ws.length ≤ 60 := by
      have h1 := I.len
      have h2 := I.le
      rw [List.length_map] at h1
      have := Z0.l60
      omega
    refine ⟨_, rfl, wl, rfl, ⟨_, SqL.of hw2⟩, fun dl hdl => ?_⟩
    refine lc_pick (K := K) (T := T K) (xs := ws) (f := rf) (fun y => decide (lastS y.2 = en)) rf (walksVL (SqL.of hw2)) L1.tab hdl (Nat.le_trans wl60 (by decide)) (fun y hy H3 Y N L3 hY hN => ⟨rfl, ?_⟩) (fun H3 L3 h3 => ?_)
    · have Wy := I.way y.2 (List.mem_map.mpr ⟨y, hy, rfl⟩)
      have hy3 := L3.at (hl2 y hy)
      refine ⟨_, rfl, _, rfl, y.1, _, rfl, .inl (SqL.of hy3), _, _, rfl, rfl, y.1, _, _, _, rfl, rfl, SqL.of hy3, atl Wy, _, rfl, rfl, _, rfl, ?_⟩
      by_cases c : lastS y.2 = en
      · exact iteDT (congrArg V.str c) ⟨_, rfl, hY _ (Le.refl L3.tab) (decide_eq_true c)⟩
      · exact iteDF (fun z => c (V.str.inj z)) (hN _ (Le.refl L3.tab) (decide_eq_false c))
    have hfind : (ws.map (·.2)).find? (fun w => decide (lastS w = en)) = ((ws.filter fun y => decide (lastS y.2 = en)).head?).map (·.2) := by
      rw [List.head?_filter, List.find?_map]
      rfl
    have L13 := L1.trans L3
    have hw3 := L3.at hw2
    have hl3 := hl2.to L3
    have hs3 := L3.at hs2
    have hlF : lAt H3 (ws.filter fun y => decide (lastS y.2 = en)) := fun y hy => hl3 y (List.mem_filter.mp hy).1
    have waF : ∀ w ∈ (ws.filter fun y => decide (lastS y.2 = en)).map (·.2), Way Z.ts st seen.length w := fun w hw => by
      obtain ⟨y, hy, rfl⟩ := List.mem_map.mp hw
      exact I.way _ (List.mem_map.mpr ⟨y, (List.mem_filter.mp hy).1, rfl⟩)
    generalize hdn : (ws.filter fun y => decide (lastS y.2 = en)) = dn at hfind hlF waF h3
    clear L3 hw2 hl2 hs2 hdl
    refine ⟨_, rfl, by show 0 ≤ sizeLine; decide, fun e he => ⟨.list ((dn.map (·.2)).map lstW), .list [], .lst (SqL.of ((upd_ne (ne_of_none h3 he)).trans h3)) (dp_lways fun y hy => (upd_ne (ne_of_none (hlF y hy) he)).trans (hlF y hy)), .lst (SqL.of upd_same) .nil, sh_lways (fun w hw => okn (waF w hw)), rfl, _, rfl, ?_⟩⟩
    rw [eqv_nilL]
    have L4 := (Le.refl L13.tab).new (o := .lst []) he
    have L14 := L13.trans L4
    have hw4 := L4.at hw3
    have hl4 := hl3.to L4
    have hs4 := L4.at hs3
    have h4 := L4.at h3
    have hlF4 := hlF.to L4
    generalize upd H3 e (.lst []) = H4 at L14 hw4 hl4 hs4 h4 hlF4 ⊢
    clear L4 he hw3 hl3 hs3 h3 hlF L13
    match dn, hdn, hfind, waF, h4, hlF4 with
    | y0 :: rest, hdn, hfind, waF, h4, hlF4 =>
      refine iteDN (by simp) ⟨_, rfl, dl, _, _, _, rfl, rfl, SqL.of h4, atI_nat (j := 0) rfl, ?_⟩
      have hfind : (ws.map (·.2)).find? (fun w => decide (lastS w = en)) = some y0.2 := hfind
      refine (hq _ L14).2 y0.1 y0.2 ?_ (hlF4 y0 List.mem_cons_self)
      unfold routeF at hR
      rw [hfind] at hR
      exact hR.symm
    | [], hdn, hfind, waF, h4, hlF4 =>
      refine iteF ?_
      have hfind : (ws.map (·.2)).find? (fun w => decide (lastS w = en)) = none := hfind
      clear hlF4 waF hdn
      refine ⟨by show 0 ≤ sizeLine; decide, fun fl hfl => ?_⟩
      have L5 := (Le.refl L14.tab).new (o := .lst []) hfl
      have L15 := L14.trans L5
      have hw5 := L5.at hw4
      have hl5 := hl4.to L5
      have hs5 := L5.at hs4
      have hf5 : upd H4 fl (.lst []) fl = some (.lst (([] : List WA).map rf)) := upd_same
      generalize upd H4 fl (.lst []) = H5 at L15 hw5 hl5 hs5 hf5 ⊢
      clear L5 hw4 hl4 hs4 h4 hfl L14
      have J0 := I.to
      refine ⟨_, rfl, wl, rfl, ⟨_, SqL.of hw5⟩, ?_⟩
      refine for_list (xs := ws.map rf) (fun i σ H' => ∃ sl' seen' fl' fs a7 a8, σ = [some (.ref ow), some (.str st), some (.str en), some (.ref wl), some (.ref sl'), some (.ref dl), some (.ref fl'), a7, a8] ∧ Le (T K) H5 H' ∧ H' sl' = some (.lst (seen'.map V.str)) ∧ H' fl' = some (.lst (fs.map rf)) ∧ lAt H' fs ∧ ((ws.map (·.2)).take i).foldl (expW nf) (seen, []) = (seen', fs.map (·.2)))
        ⟨sl, seen, fl, [], a7, a8, rfl, Le.refl L15.tab, hs5, hf5, (fun y hy => by cases hy), rfl⟩ (fun i σ H' _ ⟨_, _, _, _, _, _, _, L, _⟩ => SqL.of (L.at hw5)) (fun i v σ H6 hv ⟨sl', seen', fl', fs, a7, a8, hσ, L6, hs6, hf6, hfs6, ef⟩ => ?_) (fun σ H6 ⟨sl', seen', fl', fs, a7, a8, hσ, L6, hs6, hf6, hfs6, ef⟩ => ?_)
      · subst hσ
        obtain ⟨y, hy, rfl⟩ := GX.get_map hv
        have hyw := List.mem_of_getElem? hy
        have Wy := I.way y.2 (List.mem_map.mpr ⟨y, hyw, rfl⟩)
        have hy2 : (ws.map (·.2))[i]? = some y.2 := by rw [List.getElem?_map, hy]; rfl
        have J6 : RtJ Z.ts st seen.length (seen', fs.map (·.2)) := by
          rw [← ef]
          exact RtJ.waysF nfs _ _ J0 fun w hw => I.way w (List.mem_of_mem_take hw)
        have esn : ((ws.map (·.2)).take (i + 1)).foldl (expW nf) (seen, []) = expW nf (seen', fs.map (·.2)) y.2 := by
          rw [GX.take_snoc hy2, List.foldl_append, ef]
          rfl
        have hy6 := L6.at (hl5 y hyw)
        have hlt : lastS y.2 ∈ Z.ts := Wy.lastIn hm
        refine ⟨_, rfl, _, rfl, _, rfl, y.1, _, rfl, .inl (SqL.of hy6), _, _, rfl, rfl, y.1, _, _, _, rfl, rfl, SqL.of hy6, atl Wy, B, ow, Z, _, lastS y.2, rfl, R.to (L15.trans L6), hlt, fun H7 nl L7 h7 => ?_⟩
        rw [hnf] at h7
        refine ⟨nl, rfl, ⟨_, SqL.of h7⟩, ?_⟩
        refine for_list (xs := (nf (lastS y.2)).map V.str) (fun j σ H' => ∃ sl2 seen2 fl2 fs2 a8, σ = [some (.ref ow), some (.str st), some (.str en), some (.ref wl), some (.ref sl2), some (.ref dl), some (.ref fl2), some (rf y), a8] ∧ Le (T K) H7 H' ∧ H' sl2 = some (.lst (seen2.map V.str)) ∧ H' fl2 = some (.lst (fs2.map rf)) ∧ lAt H' fs2 ∧ ((nf (lastS y.2)).take j).foldl (exp1 y.2) (seen', fs.map (·.2)) = (seen2, fs2.map (·.2)))
          ⟨sl', seen', fl', fs, a8, rfl, Le.refl L7.tab, L7.at hs6, L7.at hf6, hfs6.to L7, rfl⟩ (fun j σ H' _ ⟨_, _, _, _, _, _, L, _⟩ => SqL.of (L.at h7)) (fun j v σ H8 hv ⟨sl2, seen2, fl2, fs2, a8, hσ, L8, hs8, hf8, hfs8, ej⟩ => ?_) (fun σ H8 ⟨sl2, seen2, fl2, fs2, a8, hσ, L8, hs8, hf8, hfs8, ej⟩ => ?_)
        · subst hσ
          obtain ⟨o, ho, rfl⟩ := GX.get_map hv
          have J8 : RtJ Z.ts st seen.length (seen2, fs2.map (·.2)) := by
            rw [← ej]
            exact RtJ.steps Wy _ _ J6 fun z hz => nfs _ _ (List.mem_of_mem_take hz)
          have esj : ((nf (lastS y.2)).take (j + 1)).foldl (exp1 y.2) (seen', fs.map (·.2)) = exp1 y.2 (seen2, fs2.map (·.2)) o := by
            rw [GX.take_snoc ho, List.foldl_append, ej]
            rfl
          have s60 : seen2.length ≤ 60 := Nat.le_trans (nodup_sub J8.nd J8.sub) Z0.l60
          have f60 : fs2.length ≤ 60 := by
            have h1 := J8.len
            rw [List.length_map] at h1
            have h1 : seen2.length = seen.length + fs2.length := h1
            omega
          have y60 : y.2.length ≤ 60 := by
            obtain ⟨tl, _, _, _, z⟩ := Wy
            have := I.le
            have := Z0.l60
            omega
          have hy8 := L8.at (L7.at hy6)
          refine ⟨_, rfl, _, rfl, sl2, _, rfl, .inl (SqL.of hs8), rfl, flat_strs' _, _, rfl, ?_⟩
          show (if (!inV (.str o) (seen2.map V.str)) = true then _ else _)
          rw [inV_strs]
          by_cases ci : o ∈ seen2
          · rw [decide_eq_true ci]
            exact iteF ⟨sl2, seen2, fl2, fs2, _, rfl, L8, hs8, hf8, hfs8, by rw [esj]; unfold exp1; rw [if_pos ci]⟩
          · refine iteDN ci ?_
            have eso : seen2.map V.str ++ [V.str o] = (seen2 ++ [o]).map V.str := by rw [List.map_append]; rfl
            have eyo : y.2.map V.str ++ [V.str o] = (y.2 ++ [o]).map V.str := by rw [List.map_append]; rfl
            refine ⟨_, rfl, _, rfl, by show 1 ≤ sizeLine; decide, fun p1 hp1 => ?_⟩
            have M1 := (Le.refl L8.tab).new (o := .lst [.str o]) hp1
            refine ⟨sl2, p1, _, _, rfl, rfl, M1.at hs8, upd_same, by rw [List.length_map]; exact Nat.le_trans (Nat.add_le_add_right s60 _) (show 61 ≤ sizeLine by decide), fun p2 hp2 => ?_⟩
            rw [eso]
            have M2 := M1.new (o := .lst ((seen2 ++ [o]).map V.str)) hp2
            have k2 : upd (upd H8 p1 (.lst [.str o])) p2 (.lst ((seen2 ++ [o]).map V.str)) p2 = some (.lst ((seen2 ++ [o]).map V.str)) := upd_same
            generalize upd (upd H8 p1 (.lst [.str o])) p2 (.lst ((seen2 ++ [o]).map V.str)) = H9 at M2 k2 ⊢
            clear M1 hp1 hp2
            refine ⟨_, rfl, _, rfl, _, rfl, by show 1 ≤ sizeLine; decide, fun p3 hp3 => ?_⟩
            have M3 := (Le.refl M2.tab).new (o := .lst [.str o]) hp3
            refine ⟨y.1, p3, _, _, rfl, rfl, (M2.trans M3).at hy8, upd_same, by rw [List.length_map]; exact Nat.le_trans (Nat.add_le_add_right y60 _) (show 61 ≤ sizeLine by decide), fun p4 hp4 => ?_⟩
            rw [eyo]
            have M4 := M3.new (o := .lst ((y.2 ++ [o]).map V.str)) hp4
            have k4 : upd (upd H9 p3 (.lst [.str o])) p4 (.lst ((y.2 ++ [o]).map V.str)) p4 = some (.lst ((y.2 ++ [o]).map V.str)) := upd_same
            generalize upd (upd H9 p3 (.lst [.str o])) p4 (.lst ((y.2 ++ [o]).map V.str)) = H10 at M4 k4 ⊢
            clear M3 hp3 hp4
            refine ⟨by show 1 ≤ sizeLine; decide, fun p5 hp5 => ?_⟩
            have M5 := M4.new (o := .lst [.ref p4]) hp5
            have k4' := (upd_ne (o := .lst [.ref p4]) (ne_of_none k4 hp5)).trans k4
            refine ⟨fl2, p5, _, _, rfl, rfl, (M2.trans M5).at hf8, upd_same, by rw [List.length_map]; exact Nat.le_trans (Nat.add_le_add_right f60 _) (show 61 ≤ sizeLine by decide), fun p6 hp6 => ?_⟩
            have efo : fs2.map rf ++ [V.ref p4] = (fs2 ++ [(p4, y.2 ++ [o])]).map rf := by rw [List.map_append]; rfl
            rw [efo]
            have M6 := M5.new (o := .lst ((fs2 ++ [(p4, y.2 ++ [o])]).map rf)) hp6
            have k4'' := (upd_ne (o := .lst ((fs2 ++ [(p4, y.2 ++ [o])]).map rf)) (ne_of_none k4' hp6)).trans k4'
            have MM := M2.trans M6
            refine ⟨_, _, rfl, p2, seen2 ++ [o], p6, fs2 ++ [(p4, y.2 ++ [o])], _, rfl, L8.trans MM, M6.at k2, upd_same, fun z hz => ?_, ?_⟩
            · rcases List.mem_append.mp hz with hz | hz
              · exact MM.at (hfs8 z hz)
              · rw [List.mem_singleton.mp hz]; exact k4''
            · rw [esj]
              unfold exp1
              rw [if_neg ci, List.map_append]
              rfl
        · subst hσ
          rw [List.length_map, List.take_of_length_le (Nat.le_refl _)] at ej
          exact ⟨sl2, seen2, fl2, fs2, _, _, rfl, L6.trans (L7.trans L8), hs8, hf8, hfs8, esn.trans ej⟩
      · subst hσ
        rw [List.length_map, List.take_of_length_le (by rw [List.length_map]; exact Nat.le_refl _)] at ef
        have J6 : RtJ Z.ts st seen.length (seen', fs.map (·.2)) := by
          rw [← ef]
          exact RtJ.waysF nfs _ _ J0 I.way
        refine ⟨_, rfl, n, Nat.lt_succ_self n, fl', sl', fs, seen', _, _, _, _, rfl, L15.trans L6, hf6, hfs6, hs6, J6.to I.pos, fuel_next I J6 hk, ?_⟩
        rw [← hR]
        show _ = match (ws.map (·.2)).find? fun w => decide (lastS w = en) with | some w => some w | none => _
        rw [hfind, ef]
end
end K6

-- text K6T
set_option maxRecDepth 100000
set_option maxHeartbeats 4000000
namespace K6
open PySem PySem.Spec PyProof.Rows L2 LamX GX
section
variable {P : Program} {w : World} {K : PySem.W.Frag} {mg : Str → Option Value} {base : Heap}
/-! ### the law's wait -/
theorem placeF_snoc (ms : SD Msg) (q : List Str) (x : Str) : placeF ms (q ++ [x]) = if uOf ms x = true then q.length + 1 else placeF ms q := by
  unfold placeF
  rw [List.reverse_append, List.reverse_singleton, List.singleton_append, List.dropWhile_cons]
  cases uOf ms x
  · rfl
  · show (x :: q.reverse).length = _
    rw [List.length_cons, List.length_reverse]
    rfl
theorem placeF_rev (ms : SD Msg) : ∀ r : List Str, (∀ (k : Nat) (x : Str), r.reverse[k]? = some x → uOf ms x = true → k + 1 ≤ placeF ms r.reverse) ∧ (placeF ms r.reverse = 0 ∨ ∃ (k : Nat) (x : Str), r.reverse[k]? = some x ∧ uOf ms x = true ∧ placeF ms r.reverse = k + 1)
  | [] => ⟨fun k x h => (by cases h), .inl rfl⟩
  | x :: r => by
    obtain ⟨i1, i2⟩ := placeF_rev ms r
    rw [List.reverse_cons, placeF_snoc]
    have hx : (r.reverse ++ [x])[r.reverse.length]? = some x := by
      rw [List.getElem?_append_right (Nat.le_refl _), Nat.sub_self]
      rfl
    by_cases c : uOf ms x = true
    · rw [if_pos c]
      refine ⟨fun k z hk hz => ?_, .inr ⟨r.reverse.length, x, hx, c, rfl⟩⟩
      have := (List.getElem?_eq_some_iff.mp hk).1
      rw [List.length_append] at this
      exact this
    · rw [if_neg c]
      refine ⟨fun k z hk hz => ?_, ?_⟩
      · by_cases hl : k < r.reverse.length
        · rw [List.getElem?_append_left hl] at hk
          exact i1 k z hk hz
        · have h1 := (List.getElem?_eq_some_iff.mp hk).1
          rw [List.length_append] at h1
          have h1 : k < r.reverse.length + 1 := h1
          obtain rfl : k = r.reverse.length := by omega
          rw [hx] at hk
          cases hk
          exact absurd hz c
      · rcases i2 with e | ⟨k, z, h1, h2, h3⟩
        · exact .inl e
        · refine .inr ⟨k, z, ?_, h2, h3⟩
          rw [List.getElem?_append_left (List.getElem?_eq_some_iff.mp h1).1]
          exact h1
theorem placeF_spec (ms : SD Msg) (q : List Str) : (∀ (k : Nat) (x : Str), q[k]? = some x → uOf ms x = true → k + 1 ≤ placeF ms q) ∧ (placeF ms q = 0 ∨ ∃ (k : Nat) (x : Str), q[k]? = some x ∧ uOf ms x = true ∧ placeF ms q = k + 1) := by
  have := placeF_rev ms q.reverse
  rwa [List.reverse_reverse] at this
def posI (ms : SD Msg) (q : List Str) (i : Nat) : List Int := ((List.range i).filter fun k => uOf ms (q[k]?.getD "")).map fun k => ((k : Nat) : Int) + 1
theorem pos_max {ms : SD Msg} {q : List Str} {M : Int} (h1 : M ∈ posI ms q q.length ++ [0]) (h2 : ∀ y ∈ posI ms q q.length ++ [0], y ≤ M) : M = ((placeF ms q : Nat) : Int) := by
  obtain ⟨s1, s2⟩ := placeF_spec ms q
  have h0 : (0 : Int) ≤ M := h2 0 (by simp)
  have le1 : ((placeF ms q : Nat) : Int) ≤ M := by
    rcases s2 with e | ⟨k, x, k1, k2, k3⟩
    · rw [e]; exact h0
    · rw [k3]
      refine h2 _ (List.mem_append_left _ (List.mem_map.mpr ⟨k, List.mem_filter.mpr ⟨List.mem_range.mpr (List.getElem?_eq_some_iff.mp k1).1, ?_⟩, by omega⟩))
      rw [k1]
      exact k2
  have le2 : M ≤ ((placeF ms q : Nat) : Int) := by
    rcases List.mem_append.mp h1 with h | h
    · obtain ⟨k, hk, e⟩ := List.mem_map.mp h
      obtain ⟨a1, a2⟩ := List.mem_filter.mp hk
      have hl := List.mem_range.mp a1
      have e1 : q[k]? = some q[k] := List.getElem?_eq_getElem hl
      rw [e1] at a2
      have := s1 k _ e1 a2
      omega
    · rw [List.mem_singleton.mp h]
      omega
  omega
theorem placeF_le (ms : SD Msg) (q : List Str) : placeF ms q ≤ q.length := by
  rcases (placeF_spec ms q).2 with e | ⟨k, x, k1, _, k3⟩
  · omega
  · have := (List.getElem?_eq_some_iff.mp k1).1
    omega
def spLWait (K : PySem.W.Frag) : Sp := fun vs H Q E => ∃ B ow Z y n t c, vs = [.ref ow, .str n, .str t] ∧ OR K B H ow Z y ∧ (y.qu.map (·.1)).Nodup ∧ y.qu.length ≤ 200 ∧ look y.qu t = some c ∧ c.2.length ≤ 200 ∧ (∀ m ∈ n :: c.2, (look y.ms m).isSome = true) ∧
  (∀ y' H', OR K B H' ow Z y' → y'.pu = { y.pu with qu := setS y.pu.qu t (waitQ y.pu.ms c.2 n) } → Q .non H')
theorem ok_lwait (C : Ctx K mg base) : CalX P w K mg base 1 "_law_wait" ["own", "name", "tower"] (spLWait K) := by
  obtain ⟨fd, F⟩ := C.d.d_l_wait
  refine ⟨_, fd, ?_, F.funD.bindsN fun _ _ _ _ _ _ us hl => (match us, hl with | [_, _, _], _ => rfl), F.kp, C.t.m_l_wait⟩
  refine F.ok sc_l_wait (fun vs H Q E h => ?_) (fun A outer s H vs Q E hr h => ?_)
  · obtain ⟨B, ow, Z, y, n, t, c, rfl, _⟩ := h
    rfl
  · obtain ⟨B, ow, Z, y, n, t, ⟨ca, q⟩, rfl, R, nd, lqu, hqt, lq, hms, hq⟩ := h
    have lq : q.length ≤ 200 := lq
    have nn := sc_l_wait.nd
    refine ⟨_, pss_cons (ps_set (i := 3) nn rfl (by first | exact Or.inl rfl | exact Or.inr rfl) (pe_dget (hu_of hr) (pe_dget (hu_of hr) (pv 0) pe_str (fun _ _ => rfl)) (pv 2) (fun _ _ => rfl)))
      (pss_cons (ps_set (i := 4) nn rfl (by first | exact Or.inl rfl | exact Or.inr rfl) (pe_callB call_len_seq (by rfl) C.t.b_len PySem.boot_len (pa_cons (pv 3) pa_nil)))
      (C8.pss_cut (ps_if (pt_val (pe_ix ix_list (pe_dget (hu_of hr) (pe_dget (hu_of hr) (pv 0) pe_str (fun _ _ => rfl)) (pv 1) (fun _ _ => rfl)) pe_int (fun _ _ => rfl)))
        (pss_cons (ps_setLc (i := 5) (own := [("k", 6), ("other", 7)]) (g := gTup K 2 (gCons (gName 6) (gCons (gName 7) gNil))) rfl nn rfl rfl (sw_true rfl rfl rfl (by decide +kernel)) (pi_enum (by rfl) C.t.b_enumerate (pa_cons (pv 3) pa_nil)) (blkOk_by (N := n_l_wait) (sc := defScope s_l_wait) (by decide +kernel))
          (fun _ _ _ _ _ => by exact pg_tup rfl (pgs_cons (pg_name (i := 6) nn rfl (by first | exact Or.inl rfl | exact Or.inr rfl)) (pgs_cons (pg_name (i := 7) nn rfl (by first | exact Or.inl rfl | exact Or.inr rfl)) pgs_nil))) (fun _ _ _ _ _ => pts_one (pt_val (pe_ix (r := rIxL K) ix_list (pe_dget (hu_of hr) (pe_dget (hu_of hr) (pv 0) pe_str (fun _ _ => rfl)) (pv 7) (fun _ _ => rfl)) pe_int (fun _ _ => rfl)))) (fun _ _ _ _ _ => pe_op op_add (pv 6) pe_int))
        (pss_one (ps_set (i := 4) nn rfl (by first | exact Or.inl rfl | exact Or.inr rfl) (pe_callB (cr_max rfl) (by rfl) C.t.b_max (by decide +kernel) (pa_cons (pe_op op_cat (pv 5) (pe_lst (pa_cons pe_int pa_nil))) pa_nil))))) pss_nil)
      (pss_one (ps_dput (hu_of hr) (pe_dget (hu_of hr) (pv 0) pe_str (fun _ _ => rfl)) (pv 2) (pe_op op_cat (pe_op op_cat (pe_slice sl_list (pv 3) po_none (po_some (pv 4))) (pe_lst (pa_cons (pv 1) pa_nil))) (pe_slice sl_list (pv 3) (po_some (pv 4)) po_none)) (by rfl))))), ?_⟩
    have dq : DGet H y.qs (.str t) (some (.ref ca)) := by
      have := DGet.k (k := Sum.inr t) R.atQs
      rwa [valV_ents, hqt] at this
    have aq : H ca = some (.lst (q.map V.str)) := R.atQu (look_in hqt)
    have dm : ∀ {H' : Hp}, Le (T K) H H' → ∀ m ∈ n :: q, ∃ b g, DGet H' y.me (.str m) (some (.ref b)) ∧ H' b = some (.lst (msgV g)) ∧ uOf y.pu.ms m = g.u := fun {H'} L m hm => by
      have h1 := hms m hm
      rcases look_or y.ms m with h2 | ⟨⟨b, g⟩, h2⟩
      · rw [h2] at h1; cases h1
      · refine ⟨b, g, ?_, (R.to L).atMs (look_in h2), ?_⟩
        · have := DGet.k (k := Sum.inr m) (R.to L).atMe
          rwa [valV_ents, h2] at this
        · unfold uOf
          rw [show look y.pu.ms m = (look y.ms m).map (·.2) from drop1_look _ _, h2]
          rfl
    refine ⟨_, rfl, ow, _, rfl, R.get "queues" _ rfl, _, rfl, y.qs, _, rfl, dq, ?_⟩
    refine ⟨_, rfl, ca, _, rfl, .inl (SqL.of aq), ?_⟩
    rw [List.length_map]
    refine ⟨fun σ' H' => ∃ (k : Nat) (a5 : Option V), σ' = [some (.ref ow), some (.str n), some (.str t), some (.ref ca), some (.int (k : Nat)), a5, none, none] ∧ Le (T K) H H' ∧ k ≤ q.length ∧ insQ q k n = waitQ y.pu.ms q n, ?_, ?_⟩
    · obtain ⟨b, g, dg, hb, ug⟩ := dm (Le.refl R.tab) n List.mem_cons_self
      refine ⟨_, rfl, ow, _, rfl, R.get "messages" _ rfl, _, rfl, y.me, _, rfl, dg, b, _, _, _, rfl, rfl, SqL.of hb, atI_nat (j := 3) rfl, _, rfl, ?_⟩
      cases hu : g.u with
      | false =>
        rw [hu] at ug
        exact iteF ⟨q.length, none, rfl, Le.refl R.tab, Nat.le_refl _, by unfold waitQ; rw [ug]; rfl⟩
      | true =>
        rw [hu] at ug
        refine iteT ?_
        refine ⟨_, rfl, ca, _, rfl, SqL.of aq, fun D hD => ?_⟩
        refine lc_n q.length (fun i H' => Le (T K) H H' ∧ H' D = some (.lst ((posI y.pu.ms q i).map V.int))) ⟨(Le.refl R.tab).new hD, upd_same⟩ (fun i H3 hi ⟨L3, h3⟩ => ⟨⟨_, V.str q[i], SqL.of (L3.at aq), by rw [List.getElem?_map, List.getElem?_eq_getElem hi]; rfl⟩, fun v H4 hv => ?_⟩) (fun H3 ⟨L3, h3⟩ => ⟨⟨_, SqL.of (L3.at aq), by rw [List.length_map]; exact Nat.le_refl _⟩, ?_⟩)
        · obtain ⟨Tp, x, rfl, hT, rfl, hx⟩ := hv
          have hx := hx _ (SqL.of (L3.at aq))
          rw [List.getElem?_map, List.getElem?_eq_getElem hi] at hx
          obtain rfl : V.str q[i] = x := Option.some.inj hx
          have L4 := L3.new (o := .tup [.int (i : Nat), .str q[i]]) hT
          have h4 := (upd_ne (o := .tup [.int (i : Nat), .str q[i]]) (ne_of_none h3 hT)).trans h3
          have hT4 : upd H3 Tp (.tup [.int (i : Nat), .str q[i]]) Tp = some (.tup [.int (i : Nat), .str q[i]]) := upd_same
          generalize upd H3 Tp (.tup [.int (i : Nat), .str q[i]]) = H4 at L4 h4 hT4 ⊢
          obtain ⟨b', g', dg', hb', ug'⟩ := dm L4 q[i] (List.mem_cons_of_mem _ (List.getElem_mem hi))
          have ep : posI y.pu.ms q (i + 1) = posI y.pu.ms q i ++ (if g'.u = true then [((i : Nat) : Int) + 1] else []) := by
            unfold posI
            rw [List.range_succ, List.filter_append, List.map_append]
            congr 1
            have e1 : uOf y.pu.ms (q[i]?.getD "") = g'.u := by
              rw [List.getElem?_eq_getElem hi]
              exact ug'
            cases hu' : g'.u with
            | true => rw [hu'] at e1; rw [List.filter_cons_of_pos (p := fun k => uOf y.pu.ms (q[k]?.getD "")) e1]; rfl
            | false => rw [hu'] at e1; rw [List.filter_cons_of_neg (p := fun k => uOf y.pu.ms (q[k]?.getD "")) (by rw [e1]; decide)]; rfl
          refine ⟨Tp, _, rfl, SqT.of hT4, rfl, _, _, rfl, _, _, rfl, rfl, rfl, ?_⟩
          refine ⟨_, rfl, ow, _, rfl, (R.to L4).get "messages" _ rfl, _, rfl, y.me, _, rfl, dg', b', _, _, _, rfl, rfl, SqL.of hb', atI_nat (j := 3) rfl, _, rfl, ?_⟩
          cases hu' : g'.u with
          | false =>
            rw [hu', if_neg (by decide), List.append_nil] at ep
            exact iteF ⟨L4, by rw [ep]; exact h4⟩
          | true =>
            rw [hu', if_pos rfl] at ep
            refine iteT ⟨_, rfl, _, _, rfl, rfl, _, h4, ?_, L4.set hD h4, ?_⟩
            · rw [List.length_map]
              unfold posI
              rw [List.length_map]
              exact Nat.lt_of_le_of_lt (Nat.le_trans (List.length_filter_le _ _) (by rw [List.length_range]; exact Nat.le_trans (Nat.le_of_lt hi) lq)) (by decide)
            · rw [upd_same, ep, List.map_append]
              rfl
        · refine ⟨_, rfl, by show 1 ≤ sizeLine; decide, fun p hp => ?_⟩
          have L4 := L3.new (o := .lst [.int 0]) hp
          have lp : (posI y.pu.ms q q.length).length ≤ 200 := by
            unfold posI
            rw [List.length_map]
            exact Nat.le_trans (List.length_filter_le _ _) (by rw [List.length_range]; exact lq)
          refine ⟨D, p, _, _, rfl, rfl, (upd_ne (ne_of_none h3 hp)).trans h3, upd_same, by rw [List.length_map]; exact Nat.le_trans (Nat.add_le_add_right lp _) (show 201 ≤ sizeLine by decide), fun p2 hp2 => ?_⟩
          have L5 := L4.new (o := .lst ((posI y.pu.ms q q.length).map V.int ++ [.int 0])) hp2
          have ea : (posI y.pu.ms q q.length).map V.int ++ [V.int 0] = (posI y.pu.ms q q.length ++ [0]).map V.int := by rw [List.map_append]; rfl
          refine ⟨p2, posI y.pu.ms q q.length ++ [0], rfl, SqL.of (by rw [← ea]; exact upd_same), by simp, fun M m1 m2 => ?_⟩
          have em := pos_max m1 m2
          subst em
          exact ⟨placeF y.pu.ms q, _, rfl, L5, placeF_le _ _, by unfold waitQ; rw [ug]; rfl⟩
    · rintro σ' H1 ⟨k, a5, rfl, L1, hk, ek⟩
      have aq1 := L1.at aq
      have R1 := R.to L1
      refine ⟨_, rfl, _, rfl, _, rfl, ca, _, rfl, SqL.of aq1, fun p1 hp1 => ?_⟩
      rw [cutV_take]
      have k1 : upd H1 p1 (.lst ((q.map V.str).take k)) p1 = some (.lst ((q.map V.str).take k)) := upd_same
      have N1 := (Le.refl L1.tab).new (o := .lst ((q.map V.str).take k)) hp1
      generalize upd H1 p1 (.lst ((q.map V.str).take k)) = H2 at N1 k1 ⊢
      have lt : ((q.map V.str).take k).length ≤ 200 := by rw [List.length_take, List.length_map]; omega
      refine ⟨_, rfl, by show 1 ≤ sizeLine; decide, fun p2 hp2 => ?_⟩
      have N2 := N1.new (o := .lst [.str n]) hp2
      have k2 := (upd_ne (o := .lst [.str n]) (ne_of_none k1 hp2)).trans k1
      refine ⟨p1, p2, _, _, rfl, rfl, k2, upd_same, Nat.le_trans (Nat.add_le_add_right lt _) (show 201 ≤ sizeLine by decide), fun p3 hp3 => ?_⟩
      have N3 := N2.new (o := .lst ((q.map V.str).take k ++ [.str n])) hp3
      have k3 : upd (upd H2 p2 (.lst [.str n])) p3 (.lst ((q.map V.str).take k ++ [.str n])) p3 = some (.lst ((q.map V.str).take k ++ [.str n])) := upd_same
      generalize upd (upd H2 p2 (.lst [.str n])) p3 (.lst ((q.map V.str).take k ++ [.str n])) = H3 at N3 k3 ⊢
      clear N1 N2 k1 k2 hp1 hp2 hp3
      refine ⟨_, rfl, _, rfl, _, rfl, ca, _, rfl, SqL.of (N3.at aq1), fun p4 hp4 => ?_⟩
      rw [cutV_drop]
      have N4 := N3.new (o := .lst ((q.map V.str).drop k)) hp4
      have k4 := (upd_ne (o := .lst ((q.map V.str).drop k)) (ne_of_none k3 hp4)).trans k3
      refine ⟨p3, p4, _, _, rfl, rfl, k4, upd_same, ?_, fun p5 hp5 => ?_⟩
      · rw [List.length_append, List.length_drop, List.length_map]
        exact Nat.le_trans (Nat.add_le_add (Nat.add_le_add_right lt _) (show q.length - k ≤ 200 by omega)) (show 401 ≤ sizeLine by decide)
      have ei : (q.map V.str).take k ++ [V.str n] ++ (q.map V.str).drop k = (insQ q k n).map V.str := by
        unfold insQ
        rw [List.map_append, List.map_append, List.map_take, List.map_drop]
        rfl
      rw [ei, ek]
      have N5 := N4.new (o := .lst ((waitQ y.pu.ms q n).map V.str)) hp5
      have k5 : upd (upd H3 p4 (.lst ((q.map V.str).drop k))) p5 (.lst ((waitQ y.pu.ms q n).map V.str)) p5 = some (.lst ((waitQ y.pu.ms q n).map V.str)) := upd_same
      have h5n : H1 p5 = none := N4.no _ hp5
      generalize upd (upd H3 p4 (.lst ((q.map V.str).drop k))) p5 (.lst ((waitQ y.pu.ms q n).map V.str)) = H5 at N5 k5 ⊢
      have R5 := R1.to N5
      have hf := R1.fresh h5n
      have hB := R1.le.no _ h5n
      obtain ⟨a, b, e, ka, kb⟩ := look_split nd hqt
      have R6 := R5.queN e k5 hB hf
      have lqu := Nat.lt_of_le_of_lt lqu (show 200 < sizeLine by decide)
      refine ⟨_, rfl, ow, _, rfl, R5.get "queues" _ rfl, _, rfl, y.qs, _, rfl, DPut.k (k := Sum.inr t) R5.atQs (by rw [ents_len]; exact lqu), ?_⟩
      have ep : putK (ents rf y.qu) (Sum.inr t) (V.ref p5) = ents rf (a ++ (t, p5, waitQ y.pu.ms q n) :: b) := by
        rw [← setS_mid (v := (ca, q)) ka kb, ← e]
        exact put_setS (f := rf) y.qu t (p5, waitQ y.pu.ms q n)
      rw [ep]
      refine hq _ _ R6 ?_
      show OS.mk _ _ _ _ _ _ = OS.mk _ _ _ _ _ _
      have : drop1 (a ++ (t, p5, waitQ y.pu.ms q n) :: b) = setS (drop1 y.qu) t (waitQ y.pu.ms q n) := by
        rw [← setS_mid (v := (ca, q)) ka kb, ← e, drop1_set]
      rw [this]
      rfl
end
end K6

-- text K6U
set_option maxRecDepth 100000
set_option maxHeartbeats 4000000
namespace K6
open PySem PySem.Spec PyProof.Rows L2 LamX GX
section
variable {P : Program} {w : World} {K : PySem.W.Frag} {mg : Str → Option Value} {base : Heap}
/-! ### the law's relay beside the program's -/
abbrev Sd := SD (Str × Str × Int)
def sdOf (bz : SD Bz) : Sd := bz.filterMap fun p => p.2.2.1.map fun o => (p.1, p.2.1, o, p.2.2.2)
def ownOf (x : RS) : OS := ⟨x.fog, x.ms, x.qu, sdOf x.bz, x.rw, x.mi⟩
def busyOf (sd : Sd) : List Str := sd.map (·.1) ++ sd.map (·.2.2.1)
theorem sdOf_app (a b : SD Bz) : sdOf (a ++ b) = sdOf a ++ sdOf b := List.filterMap_append ..
theorem sdOf_sends : ∀ bz : SD Bz, sdOf (sends bz) = sdOf bz
  | [] => rfl
  | p :: r => by
    have ih := sdOf_sends r
    unfold sends at ih ⊢
    obtain ⟨t, n, o, l⟩ := p
    cases o with
    | none => exact ih
    | some o =>
      show (t, n, o, l) :: sdOf (r.filter _) = (t, n, o, l) :: sdOf r
      rw [ih]
theorem sdOf_keys : ∀ bz : SD Bz, (sdOf bz).map (·.1) = (sends bz).map (·.1)
  | [] => rfl
  | p :: r => by
    have ih := sdOf_keys r
    unfold sends at ih ⊢
    obtain ⟨t, n, o, l⟩ := p
    cases o with
    | none => exact ih
    | some o =>
      show t :: (sdOf r).map (·.1) = t :: (r.filter _).map (·.1)
      rw [ih]
theorem sdOf_rcv : ∀ bz : SD Bz, (sdOf bz).map (·.2.2.1) = rcv bz
  | [] => rfl
  | p :: r => by
    have ih := sdOf_rcv r
    unfold rcv at ih ⊢
    obtain ⟨t, n, o, l⟩ := p
    cases o with
    | none => exact ih
    | some o =>
      show o :: (sdOf r).map (·.2.2.1) = o :: (r.filterMap _)
      rw [ih]
theorem busy_perm {bz : SD Bz} (h : BzOk bz) : (bz.map (·.1)).Perm (busyOf (sdOf bz)) := by
  unfold busyOf
  rw [sdOf_keys, sdOf_rcv]
  exact h.pm
def sdB : Option Bz → Option (Str × Str × Int)
  | some (n, some o, l) => some (n, o, l)
  | _ => none
theorem look_sdOf {t : Str} : ∀ {bz : SD Bz}, (bz.map (·.1)).Nodup → look (sdOf bz) t = sdB (look bz t)
  | [], _ => rfl
  | p :: r, nd => by
    rw [List.map_cons] at nd
    obtain ⟨n1, n2⟩ := List.nodup_cons.mp nd
    have ih := look_sdOf (t := t) n2
    obtain ⟨k, n, o, l⟩ := p
    rw [look_cons]
    cases o with
    | none =>
      show look (sdOf r) t = sdB (if k = t then some (n, none, l) else look r t)
      rw [ih]
      by_cases c : k = t
      · subst c
        rw [if_pos rfl, look_none n1]
        rfl
      · rw [if_neg c]
    | some o =>
      show look ((k, n, o, l) :: sdOf r) t = sdB (if k = t then some (n, some o, l) else look r t)
      rw [look_cons]
      by_cases c : k = t
      · rw [if_pos c, if_pos c]
        rfl
      · rw [if_neg c, if_neg c, ih]
section
variable {bz : SD Bz} {t o n : Str} {l : Int}
theorem sd_split (h : BzOk bz) {a b : SD Bz} (e : sends bz = a ++ (t, n, some o, l) :: b) : sdOf bz = sdOf a ++ (t, n, o, l) :: sdOf b ∧ t ∉ (sdOf a).map (·.1) ∧ t ∉ (sdOf b).map (·.1) := by
  have e1 : sdOf bz = sdOf a ++ (t, n, o, l) :: sdOf b := by
    rw [← sdOf_sends, e, sdOf_app]
    rfl
  have nd : ((sdOf bz).map (·.1)).Nodup := by
    rw [sdOf_keys]
    exact (List.nodup_append.mp h.sn).1
  rw [e1, List.map_append, List.map_cons] at nd
  refine ⟨e1, fun z => (List.nodup_append.mp nd).2.2 t z t List.mem_cons_self rfl, fun z => (List.nodup_cons.mp (List.nodup_append.mp nd).2.1).1 z⟩
theorem sd_free (h : BzOk bz) (hl : look bz t = some (n, some o, l)) : sdOf (delS (delS bz t) o) = delS (sdOf bz) t := by
  obtain ⟨a, b, e1, e2, _, _⟩ := h.free hl
  obtain ⟨e3, ka, kb⟩ := sd_split h e1
  rw [e3, delS_mid ka kb, ← sdOf_sends, e2, sdOf_app]
theorem sd_less (h : BzOk bz) (hl : look bz t = some (n, some o, l)) (k : Int) : sdOf (setS bz t (n, some o, k)) = setS (sdOf bz) t (n, o, k) := by
  obtain ⟨a, b, e1, e2, _, _⟩ := h.less hl k
  obtain ⟨e3, ka, kb⟩ := sd_split h e1
  rw [e3, setS_mid ka kb, ← sdOf_sends, e2, sdOf_app]
  rfl
theorem sd_more (h : BzOk bz) (ht : t ∉ bz.map (·.1)) (ho : o ∉ bz.map (·.1)) (hne : o ≠ t) (k : Int) : sdOf (setS (setS bz t (n, some o, k)) o (n, none, 0)) = setS (sdOf bz) t (n, o, k) := by
  obtain ⟨e1, e2, _⟩ := h.more (n := n) ht ho hne k
  have kt : t ∉ (sdOf bz).map (·.1) := fun z => ht (by
    rw [sdOf_keys] at z
    exact h.pm.mem_iff.mpr (List.mem_append_left _ z))
  rw [e1, setS_new kt, sdOf_app]
  rfl
end
/-- what is left of the fog -/
def fogG (l : List Str) (p : Str × Int) : Option (Str × Int) := if p.1 ∈ l then (if 1 < p.2 then some (p.1, p.2 - 1) else none) else some p
theorem fm_congr {α β : Type} {f g : α → Option β} : ∀ {l : List α}, (∀ x ∈ l, f x = g x) → l.filterMap f = l.filterMap g
  | [], _ => rfl
  | x :: r, h => by
    rw [List.filterMap_cons, List.filterMap_cons, h x List.mem_cons_self, fm_congr fun y hy => h y (List.mem_cons_of_mem _ hy)]
theorem fogG_fst {l : List Str} {p q : Str × Int} (h : fogG l p = some q) : q.1 = p.1 := by
  unfold fogG at h
  split at h
  · split at h
    · cases h; rfl
    · cases h
  · cases h; rfl
theorem fogG_keys {l : List Str} {f : SD Int} {t : Str} (h : t ∉ f.map (·.1)) : t ∉ (f.filterMap (fogG l)).map (·.1) := fun z => by
  obtain ⟨q, hq, rfl⟩ := List.mem_map.mp z
  obtain ⟨p, hp, e⟩ := List.mem_filterMap.mp hq
  exact h (List.mem_map.mpr ⟨p, hp, (fogG_fst e).symm⟩)
theorem fogG_other {l : List Str} {f : SD Int} {t : Str} (h : t ∉ f.map (·.1)) : f.filterMap (fogG (l ++ [t])) = f.filterMap (fogG l) := fm_congr fun p hp => by
  unfold fogG
  have : p.1 ≠ t := fun z => h (List.mem_map.mpr ⟨p, hp, z⟩)
  by_cases c : p.1 ∈ l
  · rw [if_pos c, if_pos (List.mem_append_left _ c)]
  · rw [if_neg c, if_neg (fun z => by
      rcases List.mem_append.mp z with z | z
      · exact c z
      · exact this (List.mem_singleton.mp z))]
theorem fogG_step {f : SD Int} (nd : (f.map (·.1)).Nodup) (hv : ∀ p ∈ f, 1 ≤ p.2) {l : List Str} {t : Str} (ht : t ∉ l) : fogStep (f.filterMap (fogG l)) t = f.filterMap (fogG (l ++ [t])) := by
  rcases look_or f t with e | ⟨v, e⟩
  · have hn : t ∉ f.map (·.1) := fun z => by
      obtain ⟨v, hv, _⟩ := look_mem z
      rw [e] at hv
      cases hv
    rw [fogG_other hn]
    unfold fogStep
    rw [look_none (fogG_keys hn)]
  · obtain ⟨a, b, rfl, ka, kb⟩ := look_split nd e
    have h1 : 1 ≤ v := hv (t, v) (by simp)
    have e1 : (a ++ (t, v) :: b).filterMap (fogG l) = a.filterMap (fogG l) ++ (t, v) :: b.filterMap (fogG l) := by
      rw [List.filterMap_append, List.filterMap_cons]
      have : fogG l (t, v) = some (t, v) := by unfold fogG; rw [if_neg ht]
      rw [this]
    have e2 : (a ++ (t, v) :: b).filterMap (fogG (l ++ [t])) = a.filterMap (fogG l) ++ (if 1 < v then (t, v - 1) :: b.filterMap (fogG l) else b.filterMap (fogG l)) := by
      rw [List.filterMap_append, List.filterMap_cons, fogG_other ka, fogG_other kb]
      have : fogG (l ++ [t]) (t, v) = if 1 < v then some (t, v - 1) else none := by unfold fogG; rw [if_pos (by simp)]
      rw [this]
      by_cases c : 1 < v
      · rw [if_pos c, if_pos c]
      · rw [if_neg c, if_neg c]
    have hl : look (a.filterMap (fogG l) ++ (t, v) :: b.filterMap (fogG l)) t = some v := by
      rw [look_app, look_none (fogG_keys ka), look_cons, if_pos rfl]
      rfl
    rw [e1, e2]
    unfold fogStep
    rw [hl]
    show (if v - 1 = 0 then _ else _) = _
    by_cases c : 1 < v
    · rw [if_neg (by omega), if_pos c, setS_mid (fogG_keys ka) (fogG_keys kb)]
    · rw [if_pos (by omega), if_neg c, delS_mid (fogG_keys ka) (fogG_keys kb)]
theorem fogG_all {f : SD Int} (nd : (f.map (·.1)).Nodup) (hv : ∀ p ∈ f, 1 ≤ p.2) : ∀ (r l : List Str), (l ++ r).Nodup → r.foldl fogStep (f.filterMap (fogG l)) = f.filterMap (fogG (l ++ r))
  | [], l, _ => by rw [List.append_nil]; rfl
  | t :: r, l, h => by
    have ht : t ∉ l := fun z => (List.nodup_append.mp h).2.2 t z t List.mem_cons_self rfl
    show r.foldl fogStep (fogStep _ t) = _
    rw [fogG_step nd hv ht, fogG_all nd hv r (l ++ [t]) (by rw [List.append_assoc]; exact h), List.append_assoc]
    rfl
theorem fog_fold {ts : List Str} {f : SD Int} (h : FogOk ts f) (ndt : ts.Nodup) : ts.foldl fogStep f = (f.filter fun p => decide (1 < p.2)).map fun p => (p.1, p.2 - 1) := by
  have e0 : f.filterMap (fogG []) = f := by
    conv => rhs; rw [← List.filterMap_some (l := f)]
    exact fm_congr fun p _ => by unfold fogG; rw [if_neg List.not_mem_nil]
  have := fogG_all h.nd h.v ts [] ndt
  rw [e0, List.nil_append] at this
  rw [this]
  have e1 : ∀ l : SD Int, (∀ p ∈ l, p.1 ∈ ts) → l.filterMap (fogG ts) = (l.filter fun p => decide (1 < p.2)).map fun p => (p.1, p.2 - 1) := by
    intro l
    induction l with
    | nil => intro _; rfl
    | cons p r ih =>
      intro hm
      have hp := hm p List.mem_cons_self
      rw [List.filterMap_cons]
      have : fogG ts p = if 1 < p.2 then some (p.1, p.2 - 1) else none := by unfold fogG; rw [if_pos hp]
      rw [this, ih fun q hq => hm q (List.mem_cons_of_mem _ hq)]
      by_cases c : 1 < p.2
      · rw [if_pos c, List.filter_cons_of_pos (by simpa using c)]
        rfl
      · rw [if_neg c, List.filter_cons_of_neg (by simpa using c)]
  exact e1 f fun p hp => h.k _ (List.mem_map.mpr ⟨p, hp, rfl⟩)
end
end K6

-- text K6Va
set_option maxRecDepth 100000
set_option maxHeartbeats 4000000
namespace K6
open PySem PySem.Spec PyProof.Rows L2 LamX GX
section
variable {P : Program} {w : World} {K : PySem.W.Frag} {mg : Str → Option Value} {base : Heap}
/-! ### what the law's minute does to its own table -/
section
variable {B H : Hp} {ow : Addr} {Z : Sta} {y : OA} {p p2 p3 : Addr}
/-- own["rows"] = own["rows"] + [row] -/
theorem OR.rowF (R : OR K B H ow Z y) (r : Row4) (hp : H p = none) (hp2 : upd H p (.tup (rowV r)) p2 = none) (hp3 : upd (upd H p (.tup (rowV r))) p2 (.lst [.ref p]) p3 = none) :
    OR K B (upd (upd (upd (upd H p (.tup (rowV r))) p2 (.lst [.ref p])) p3 (.lst (y.rw.map rf ++ [.ref p]))) ow (.dK (putK (ownF Z y) (Sum.inr "rows") (.ref p3)))) ow Z { y with ro := p3, rw := y.rw ++ [(p, r)] } := by
  have R1 := R.new (o := .tup (rowV r)) hp
  have k1 : upd H p (.tup (rowV r)) p = some (.tup (rowV r)) := upd_same
  have R2 := R1.new (o := .lst [.ref p]) hp2
  have k2 := (upd_ne (o := .lst [.ref p]) (ne_of_none k1 hp2)).trans k1
  have hf := R2.fresh hp3
  have hB := R2.le.no _ hp3
  have R3 := R2.new (o := .lst (y.rw.map rf ++ [.ref p])) hp3
  have k3 := (upd_ne (o := .lst (y.rw.map rf ++ [.ref p])) (ne_of_none k2 hp3)).trans k2
  have e : y.rw.map rf ++ [V.ref p] = (y.rw ++ [(p, r)]).map rf := by rw [List.map_append]; rfl
  have := R3.rowN (p := p3) (l := y.rw ++ [(p, r)]) (by rw [← e]; exact upd_same) hB hf fun x hx => by
    rcases List.mem_append.mp hx with hx | hx
    · exact R3.rwt x hx
    · rw [List.mem_singleton.mp hx]; exact k3
  exact this
theorem opu_row {y : OA} (p p3 : Addr) (r : Row4) : ({ y with ro := p3, rw := y.rw ++ [(p, r)] } : OA).pu = { y.pu with rw := y.pu.rw ++ [r] } := by
  show OS.mk _ _ _ _ _ _ = OS.mk _ _ _ _ _ _
  rw [List.map_append]
  rfl
theorem opu_rwl (y : OA) : y.rw.length = y.pu.rw.length := by
  show _ = (y.rw.map (·.2)).length
  rw [List.length_map]
/-- own["queues"][t] = a list that stands at p -/
theorem OR.queP (R : OR K B H ow Z y) (nd : (y.qu.map (·.1)).Nodup) {t : Str} {c : Addr × List Str} (e : look y.qu t = some c) {l : List Str} (hp : H p = some (.lst (l.map V.str))) (hB : B p = none) (hf : p ∉ (oc ow Z y).map (·.1)) :
    OR K B (upd H y.qs (.dK (putK (ents rf y.qu) (Sum.inr t) (.ref p)))) ow Z { y with qu := setS y.qu t (p, l) } := by
  obtain ⟨a, b, e2, ka, kb⟩ := look_split nd e
  have R1 := R.queN e2 hp hB hf
  have e3 : setS y.qu t (p, l) = a ++ (t, p, l) :: b := by rw [e2, setS_mid ka kb]
  have ep : putK (ents rf y.qu) (Sum.inr t) (V.ref p) = ents rf (setS y.qu t (p, l)) := put_setS (f := rf) y.qu t (p, l)
  rw [ep, e3]
  exact R1
theorem OR.msgP (R : OR K B H ow Z y) (nd : (y.ms.map (·.1)).Nodup) {t : Str} {c : Addr × Msg} (e : look y.ms t = some c) {l : Msg} (hp : H p = some (.lst (msgV l))) (hB : B p = none) (hf : p ∉ (oc ow Z y).map (·.1)) :
    OR K B (upd H y.me (.dK (putK (ents rf y.ms) (Sum.inr t) (.ref p)))) ow Z { y with ms := setS y.ms t (p, l) } := by
  obtain ⟨a, b, e2, ka, kb⟩ := look_split nd e
  have R1 := R.msgN e2 hp hB hf
  have e3 : setS y.ms t (p, l) = a ++ (t, p, l) :: b := by rw [e2, setS_mid ka kb]
  have ep : putK (ents rf y.ms) (Sum.inr t) (V.ref p) = ents rf (setS y.ms t (p, l)) := put_setS (f := rf) y.ms t (p, l)
  rw [ep, e3]
  exact R1
/-- own["sends"][t] = a tuple that stands at p -/
theorem OR.sendP (R : OR K B H ow Z y) {t : Str} {b : Str × Str × Int} (hp : H p = some (.tup (sdV b))) : OR K B (upd H y.se (.dK (putK (ents rf y.sd) (Sum.inr t) (.ref p)))) ow Z { y with sd := setS y.sd t (p, b) } := by
  have ep : putK (ents rf y.sd) (Sum.inr t) (V.ref p) = ents rf (setS y.sd t (p, b)) := put_setS (f := rf) y.sd t (p, b)
  rw [ep]
  exact R.sendS fun q hq => by
    rcases mem_setS hq with e | e
    · exact R.sdt q e
    · rw [e]; exact hp
theorem opu_qu {y : OA} (t : Str) (p : Addr) (l : List Str) : ({ y with qu := setS y.qu t (p, l) } : OA).pu = { y.pu with qu := setS y.pu.qu t l } := by
  show OS.mk _ _ _ _ _ _ = OS.mk _ _ _ _ _ _
  rw [drop1_set]
  rfl
theorem opu_ms {y : OA} (t : Str) (p : Addr) (l : Msg) : ({ y with ms := setS y.ms t (p, l) } : OA).pu = { y.pu with ms := setS y.pu.ms t l } := by
  show OS.mk _ _ _ _ _ _ = OS.mk _ _ _ _ _ _
  rw [drop1_set]
  rfl
theorem opu_sd {y : OA} (t : Str) (p : Addr) (l : Str × Str × Int) : ({ y with sd := setS y.sd t (p, l) } : OA).pu = { y.pu with sd := setS y.pu.sd t l } := by
  show OS.mk _ _ _ _ _ _ = OS.mk _ _ _ _ _ _
  rw [drop1_set]
  rfl
theorem ol_ms {y : OA} (n : Str) : look y.pu.ms n = (look y.ms n).map (·.2) := drop1_look _ _
theorem ol_qu {y : OA} (n : Str) : look y.pu.qu n = (look y.qu n).map (·.2) := drop1_look _ _
theorem ol_sd {y : OA} (n : Str) : look y.pu.sd n = (look y.sd n).map (·.2) := drop1_look _ _
end
end
end K6

-- text K6Vb
set_option maxRecDepth 100000
set_option maxHeartbeats 4000000
namespace K6
open PySem PySem.Spec PyProof.Rows L2 LamX GX
section
variable {P : Program} {w : World} {K : PySem.W.Frag} {mg : Str → Option Value} {base : Heap}
/-! ### [(.., ..) for x in xs if p]: new tuples of those picked -/
theorem lc_pairs {α : Type} {TT : List (Addr × Str)} {J : It} {g : TG} {tt : L2.TT} {te : TE} {vs : List Nat} {σ : L2.St} {H1 : Hp} {D : Addr} {Qd : Hp → Prop} {xs : List α} {f : α → V} (p : α → Bool) (e : α → List V) (hw : WalksV K TT H1 (xs.map f) J) (hT : Tabs TT H1) (hD : H1 D = none) (hl : xs.length ≤ 100000)
    (hs : ∀ x ∈ xs, ∀ (H' : Hp) (Y : V → Hp → Prop) (N : Hp → Prop), Le TT H1 H' → (∀ H4 q, Le TT H' H4 → H4 q = none → p x = true → Y (.ref q) (upd H4 q (.tup (e x)))) → (∀ H4, Le TT H' H4 → p x = false → N H4) →
      g (f x) (wipe σ vs) H' fun σ2 H2 => wipe σ2 vs = wipe σ vs ∧ tt σ2 H2 fun b H3 => if b = true then te σ2 H3 Y else N H3)
    (hq : ∀ H' (P : List (Addr × α)), Le TT H1 H' → H' D = some (.lst (P.map rf)) → (∀ q ∈ P, H' q.1 = some (.tup (e q.2))) → P.map (·.2) = xs.filter p → Qd H') :
    ∃ W : Nat → Nat → Hp → Prop, (∃ m, W 0 m (upd H1 D (.lst []))) ∧ ∀ i m H, W i m H →
      (J.stop i H ∧ Qd H) ∨ (J.go i H ∧ ∃ Nx : Hp → Prop, (∀ H', Nx H' → ∃ m', m' < m ∧ W (i + 1) m' H') ∧ ∀ x H', J.yld i H x H' → g x (wipe σ vs) H' fun σ2 H2 => wipe σ2 vs = wipe σ vs ∧ tt σ2 H2 fun b H3 =>
        if b = true then te σ2 H3 fun y H4 => ∃ acc, H4 D = some (.lst acc) ∧ acc.length < sizeLine ∧ Nx (upd H4 D (.lst (acc ++ [y]))) else Nx H3) := by
  have ll : (xs.map f).length = xs.length := List.length_map _
  refine lc_n xs.length (fun m H' => Le TT H1 H' ∧ ∃ P : List (Addr × α), H' D = some (.lst (P.map rf)) ∧ (∀ q ∈ P, H' q.1 = some (.tup (e q.2))) ∧ P.map (·.2) = (xs.take m).filter p) ⟨(Le.refl hT).new hD, [], upd_same, (fun q z => by cases z), rfl⟩ (fun m H' hm ⟨L1, P, h1, h2, h3⟩ => ⟨hw.go m H' L1 (by omega), ?_⟩) (fun H' ⟨L1, P, h1, h2, h3⟩ => ⟨ll ▸ hw.stop H' L1, ?_⟩)
  · intro x H2 hy
    obtain ⟨rfl, hx⟩ := hw.yld m H' x H2 L1 hy
    obtain ⟨z, hz, rfl⟩ := GX.get_map hx
    have htk : xs.take (m + 1) = xs.take m ++ [z] := GX.take_snoc hz
    refine hs z (List.mem_of_getElem? hz) _ _ _ L1 (fun H4 q L4 hqn hp => ?_) (fun H4 L4 hp => ⟨L1.trans L4, P, L4.at h1, fun q hq => L4.at (h2 q hq), ?_⟩)
    · have L5 := L4.new (o := .tup (e z)) hqn
      have k5 : upd H4 q (.tup (e z)) q = some (.tup (e z)) := upd_same
      have lP : P.length ≤ 100000 := by
        have := congrArg List.length h3
        rw [List.length_map] at this
        have h5 := List.length_filter_le p (xs.take m)
        rw [List.length_take] at h5
        omega
      have ne : ∀ {b : Addr} {ws : List V}, upd H4 q (.tup (e z)) b = some (.tup ws) → b ≠ D := fun hb z => by
        rw [z, L5.at h1] at hb
        cases hb
      refine ⟨_, L5.at h1, by rw [List.length_map]; exact Nat.lt_of_le_of_lt lP (by decide), (L1.trans L5).set hD (L5.at h1), P ++ [(q, z)], ?_, fun y hy => ?_, ?_⟩
      · rw [upd_same, List.map_append]
        rfl
      · rcases List.mem_append.mp hy with hy | hy
        · exact (upd_ne (ne (L5.at (h2 y hy)))).trans (L5.at (h2 y hy))
        · rw [List.mem_singleton.mp hy]
          exact (upd_ne (ne k5)).trans k5
      · rw [List.map_append, h3, htk, List.filter_append, List.filter_cons_of_pos hp]
        rfl
    · rw [h3, htk, List.filter_append, List.filter_cons_of_neg (by rw [hp]; exact Bool.false_ne_true)]
      exact (List.append_nil _).symm
  · rw [List.take_of_length_le (Nat.le_refl _)] at h3
    exact hq H' P L1 h1 h2 h3
/-- the pairs as a dict's entries -/
theorem paired_ents {α β : Type} {H : Hp} {f : β → V} {c : α → Str × β} : ∀ {P : List (Addr × α)}, (∀ q ∈ P, H q.1 = some (.tup [.str (c q.2).1, f (c q.2).2])) → Paired (fun (p : Addr) (kv : L2.Key × V) => SqT K H p [kV kv.1, kv.2]) (P.map (·.1)) (ents f (P.map fun q => c q.2))
  | [], _ => .nil
  | q :: r, h => .cons (SqT.of (h q List.mem_cons_self)) (paired_ents fun y hy => h y (List.mem_cons_of_mem _ hy))
theorem OR.ow_ne {B H : Hp} {ow : Addr} {Z : Sta} {y : OA} (R : OR K B H ow Z y) : ow ≠ y.fo ∧ ow ≠ y.se := by
  have nd : (ow :: y.fo :: y.me :: y.qs :: y.se :: y.ro :: (omL y.ms ++ oqL y.qu).map (·.1)).Nodup := R.o.nd
  have h := (List.nodup_cons.mp nd).1
  exact ⟨fun z => h (by rw [z]; exact List.mem_cons_self), fun z => h (by rw [z]; simp)⟩
theorem walksVD {α : Type} {TT : List (Addr × Str)} {H1 : Hp} {cs : SD α} {f : α → V} {d : Addr} {o : Obj} (h : H1 d = some (.frz o (.dK (ents f cs)))) : WalksV K TT H1 (cs.map fun p => f p.2) (Itd d o (ents f cs)) where
  go i H' l hi := ⟨l.at h, by rw [ents_len]; rwa [List.length_map] at hi⟩
  stop H' l := ⟨l.at h, by rw [ents_len, List.length_map]; exact Nat.le_refl _⟩
  yld i H' x H'' l y := by
    obtain ⟨e, k, hk⟩ := y
    refine ⟨e, ?_⟩
    unfold ents at hk
    rw [List.getElem?_map] at hk ⊢
    obtain ⟨p, hp, e2⟩ := Option.map_eq_some_iff.mp hk
    cases e2
    rw [hp]
    rfl
end
end K6

-- text K6V
set_option maxRecDepth 100000
set_option maxHeartbeats 4000000
namespace K6
open PySem PySem.Spec PyProof.Rows L2 LamX GX
section
variable {P : Program} {w : World} {K : PySem.W.Frag} {mg : Str → Option Value} {base : Heap}
/-! ### the law's minute -/
def spLMin (K : PySem.W.Frag) : Sp := fun vs H Q E => ∃ B ow Z y x, vs = [.ref ow] ∧ OR K B H ow Z y ∧ y.pu = ownOf x ∧ RInv Z.ts x ∧ x.rw.length ≤ 900000 ∧ 1 ≤ Z.hold ∧ Z.hold ≤ 20 ∧
  (∀ y' H', OR K B H' ow Z y' → y'.pu = ownOf (x.goMin Z.ts Z.lp Z.hold) → Q .non H')
theorem ok_lmin (C : Ctx K mg base) : CalX P w K mg base 3 "_law_minute" ["own"] (spLMin K) := by
  obtain ⟨fd, F⟩ := C.d.d_l_minute
  refine ⟨_, fd, ?_, F.funD.bindsN fun _ _ _ _ _ _ us hl => (match us, hl with | [_], _ => rfl), F.kp, C.t.m_l_minute⟩
  refine F.ok sc_l_minute (fun vs H Q E h => ?_) (fun A outer s H vs Q E hr h => ?_)
  · obtain ⟨B, ow, Z, y, x, rfl, _⟩ := h
    rfl
  · obtain ⟨B, ow, Z, y, x, rfl, R, ey, I, lrw, h1, h20, hq⟩ := h
    have nn := sc_l_minute.nd
    have hu := hu_of hr
    refine ⟨_, (pss_cons (ps_dput hu (pv 0) pe_str (pe_op op_add (pe_dget hu (pv 0) pe_str (fun _ _ => rfl)) pe_int) (by rfl))
 (C8.pss_cut (ps_for ownsA rfl (pi_list (pe_dget hu (pv 0) pe_str (fun _ _ => rfl))) (pg_name (i := 1) nn rfl (by first | exact Or.inl rfl | exact Or.inr rfl)) (pss_one (ps_if (pt_cmp (pc_din hu (pv 1) (pe_dget hu (pv 0) pe_str (fun _ _ => rfl)))) (pss_cons (ps_asg (pe_dget hu (pe_dget hu (pv 0) pe_str (fun _ _ => rfl)) (pv 1) (fun _ _ => rfl)) (pg_tup rfl (pgs_cons (pg_name (i := 2) nn rfl (by first | exact Or.inl rfl | exact Or.inr rfl)) (pgs_cons (pg_name (i := 3) nn rfl (by first | exact Or.inl rfl | exact Or.inr rfl)) (pgs_cons (pg_name (i := 4) nn rfl (by first | exact Or.inl rfl | exact Or.inr rfl)) pgs_nil)))))
 (C8.pss_cut (ps_if (pt_mid (PW.pt (pw_or (pt_cmp (pc_din hu (pv 1) (pe_dget hu (pv 0) pe_str (fun _ _ => rfl)))) (pw_or (pt_cmp (pc_din hu (pv 3) (pe_dget hu (pv 0) pe_str (fun _ _ => rfl)))) (pw_or1 (pt_cmpR op_eq (pv 4) pe_int (nomark _))))))) (pss_one (ps_dput hu (pv 0) pe_str (pe_callTy (call_dictP rfl) (by rfl) C.t.b_dict (by decide +kernel) (pa_cons (pe_lock (pe_lc (own := [("one", 7)]) (g := gName 7) rfl nn (pi_keys (pe_dget hu (pv 0) pe_str (fun _ _ => rfl))) (blkOk_by (N := n_l_minute) (sc := defScope s_l_minute) (by decide +kernel)) (fun _ _ _ _ _ => (pg_name (i := 7) nn rfl (by first | exact Or.inl rfl | exact Or.inr rfl))) (fun _ _ _ _ _ => pts_one (pt_cmpR op_ne (pv 7) (pv 1) (nomark _))) (fun _ _ _ _ _ => (pe_tup (pa_cons (pv 7) (pa_cons (pe_dget hu (pe_dget hu (pv 0) pe_str (fun _ _ => rfl)) (pv 7) (fun _ _ => rfl)) pa_nil)))))) pa_nil)) (by rfl))) (pss_one (ps_dput hu (pe_dget hu (pv 0) pe_str (fun _ _ => rfl)) (pv 1) (pe_tup (pa_cons (pv 2) (pa_cons (pv 3) (pa_cons (pe_op op_sub (pv 4) pe_int) pa_nil)))) (by rfl))))
 (pss_one (ps_if (pt_mid (PW.pt (pw_or (pt_cmp (pc_din hu (pv 1) (pe_dget hu (pv 0) pe_str (fun _ _ => rfl)))) (pw_or1 (pt_cmp (pc_din hu (pv 3) (pe_dget hu (pv 0) pe_str (fun _ _ => rfl)))))))) (pss_cons (ps_dput hu (pe_dget hu (pv 0) pe_str (fun _ _ => rfl)) (pv 1) (pe_op op_cat (pe_lst (pa_cons (pv 2) pa_nil)) (pe_dget hu (pe_dget hu (pv 0) pe_str (fun _ _ => rfl)) (pv 1) (fun _ _ => rfl))) (by rfl))
 (pss_one (ps_dput hu (pv 0) pe_str (pe_op op_cat (pe_dget hu (pv 0) pe_str (fun _ _ => rfl)) (pe_lst (pa_cons (pe_tup (pa_cons (pe_dget hu (pv 0) pe_str (fun _ _ => rfl)) (pa_cons pe_str (pa_cons (pv 1) (pa_cons (pv 2) pa_nil))))) pa_nil))) (by rfl)))) (pss_one (ps_if (PW.pt (pw_and (pt_cmpR op_eq (pv 4) pe_int (nomark _)) (pw_and1 (pt_cmpR op_eq (pv 3) (pe_ix ix_list (pe_dget hu (pe_dget hu (pv 0) pe_str (fun _ _ => rfl)) (pv 2) (fun _ _ => rfl)) pe_int (fun _ _ => rfl)) (nomark _))))) (pss_cons (ps_dput hu (pe_dget hu (pv 0) pe_str (fun _ _ => rfl)) (pv 2) (pe_op op_cat (pe_slice sl_list (pe_dget hu (pe_dget hu (pv 0) pe_str (fun _ _ => rfl)) (pv 2) (fun _ _ => rfl)) po_none (po_some pe_int)) (pe_lst (pa_cons pe_str pa_nil))) (by rfl))
 (pss_one (ps_dput hu (pv 0) pe_str (pe_op op_cat (pe_dget hu (pv 0) pe_str (fun _ _ => rfl)) (pe_lst (pa_cons (pe_tup (pa_cons (pe_dget hu (pv 0) pe_str (fun _ _ => rfl)) (pa_cons pe_str (pa_cons (pv 3) (pa_cons (pv 2) pa_nil))))) pa_nil))) (by rfl)))) (pss_one (ps_if (pt_cmpR op_eq (pv 4) pe_int (nomark _)) (pss_cons (ps_expr (pe_cx (ok_lwait (P := P) (w := w) C) hr (by decide) rfl passA (pa_cons (pv 0) (pa_cons (pv 2) (pa_cons (pv 3) pa_nil)))))
 (pss_one (ps_dput hu (pv 0) pe_str (pe_op op_cat (pe_dget hu (pv 0) pe_str (fun _ _ => rfl)) (pe_lst (pa_cons (pe_tup (pa_cons (pe_dget hu (pv 0) pe_str (fun _ _ => rfl)) (pa_cons pe_str (pa_cons (pv 3) (pa_cons (pv 2) pa_nil))))) pa_nil))) (by rfl)))) pss_nil)))))))) pss_nil)))
 (C8.pss_cut (ps_for ownsA rfl (pi_list (pe_dget hu (pv 0) pe_str (fun _ _ => rfl))) (pg_name (i := 1) nn rfl (by first | exact Or.inl rfl | exact Or.inr rfl)) (pss_one (ps_for ownsA rfl (pi_list (pe_dget hu (pe_dget hu (pv 0) pe_str (fun _ _ => rfl)) (pv 1) (fun _ _ => rfl))) (pg_name (i := 2) nn rfl (by first | exact Or.inl rfl | exact Or.inr rfl)) (pss_cons (ps_set (i := 5) nn rfl (by first | exact Or.inl rfl | exact Or.inr rfl) (pe_op op_cat (pe_callTy (call_listD rfl) (by rfl) C.t.b_list (by decide +kernel) (pa_cons (pe_dget hu (pv 0) pe_str (fun _ _ => rfl)) pa_nil)) (pe_lock (pe_lc (own := [("row", 8)]) (g := gName 8) rfl nn (pi_values (pe_dget hu (pv 0) pe_str (fun _ _ => rfl))) (blkOk_by (N := n_l_minute) (sc := defScope s_l_minute) (by decide +kernel)) (fun _ _ _ _ _ => (pg_name (i := 8) nn rfl (by first | exact Or.inl rfl | exact Or.inr rfl))) (fun _ _ _ _ _ => pts_nil) (fun _ _ _ _ _ => (pe_ix (r := rIxT K) ix_tup (pv 8) pe_int (fun _ _ => rfl)))))))
 (pss_cons (ps_set (i := 6) nn rfl (by first | exact Or.inl rfl | exact Or.inr rfl) (pe_cx (ok_lroute (P := P) (w := w) C) hr (by decide) rfl passA (pa_cons (pv 0) (pa_cons (pv 1) (pa_cons (pe_ix ix_list (pe_dget hu (pe_dget hu (pv 0) pe_str (fun _ _ => rfl)) (pv 2) (fun _ _ => rfl)) pe_int (fun _ _ => rfl)) pa_nil)))))
 (pss_one (ps_if (PW.pt (pw_and (pt_cmpR op_notIn_seq (pv 1) (pv 5) rfl) (pw_and (pt_cmp (pc_notN (pv 6))) (pw_and1 (pt_cmpR op_notIn_seq (pe_ix ix_list (pv 6) pe_int (fun _ _ => rfl)) (pv 5) rfl))))) (pss_cons (ps_dput hu (pe_dget hu (pv 0) pe_str (fun _ _ => rfl)) (pv 1) (pe_lc (own := [("one", 7)]) (g := gName 7) rfl nn (pi_list (pe_dget hu (pe_dget hu (pv 0) pe_str (fun _ _ => rfl)) (pv 1) (fun _ _ => rfl))) (blkOk_by (N := n_l_minute) (sc := defScope s_l_minute) (by decide +kernel)) (fun _ _ _ _ _ => (pg_name (i := 7) nn rfl (by first | exact Or.inl rfl | exact Or.inr rfl))) (fun _ _ _ _ _ => pts_one (pt_cmpR op_ne (pv 7) (pv 2) (nomark _))) (fun _ _ _ _ _ => (pv 7))) (by rfl))
 (pss_cons (ps_dput hu (pe_dget hu (pv 0) pe_str (fun _ _ => rfl)) (pv 1) (pe_tup (pa_cons (pv 2) (pa_cons (pe_ix ix_list (pv 6) pe_int (fun _ _ => rfl)) (pa_cons (pe_op op_mul (pe_dget hu (pv 0) pe_str (fun _ _ => rfl)) (pe_ix ix_list (pe_dget hu (pe_dget hu (pv 0) pe_str (fun _ _ => rfl)) (pv 2) (fun _ _ => rfl)) pe_int (fun _ _ => rfl))) pa_nil)))) (by rfl))
 (pss_cons (ps_dput hu (pv 0) pe_str (pe_op op_cat (pe_dget hu (pv 0) pe_str (fun _ _ => rfl)) (pe_lst (pa_cons (pe_tup (pa_cons (pe_dget hu (pv 0) pe_str (fun _ _ => rfl)) (pa_cons pe_str (pa_cons (pv 1) (pa_cons (pv 2) pa_nil))))) pa_nil))) (by rfl))
 (pss_one ps_break)))) pss_nil)))))))
 (pss_one (ps_dput hu (pv 0) pe_str (pe_callTy (call_dictP rfl) (by rfl) C.t.b_dict (by decide +kernel) (pa_cons (pe_lock (pe_lc (own := [("tower", 1)]) (g := gName 1) rfl nn (pi_keys (pe_dget hu (pv 0) pe_str (fun _ _ => rfl))) (blkOk_by (N := n_l_minute) (sc := defScope s_l_minute) (by decide +kernel)) (fun _ _ _ _ _ => (pg_name (i := 1) nn rfl (by first | exact Or.inl rfl | exact Or.inr rfl))) (fun _ _ _ _ _ => pts_one (pt_cmpR op_gt (pe_dget hu (pe_dget hu (pv 0) pe_str (fun _ _ => rfl)) (pv 1) (fun _ _ => rfl)) pe_int (nomark _))) (fun _ _ _ _ _ => (pe_tup (pa_cons (pv 1) (pa_cons (pe_op op_sub (pe_dget hu (pe_dget hu (pv 0) pe_str (fun _ _ => rfl)) (pv 1) (fun _ _ => rfl)) pe_int) pa_nil)))))) pa_nil)) (by rfl)))))), ?_⟩
    have ndt := R.st.nd
    have l60 := R.st.l60
    refine ⟨_, rfl, ow, _, rfl, R.get "minute" _ rfl, _, _, rfl, rfl, _, rfl, ow, _, rfl, DPut.k (k := Sum.inr "minute") R.atO (by show 9 < sizeLine; decide), ?_⟩
    have F1 : putK (ownF Z y) (Sum.inr "minute") (V.int (y.mi + 1)) = ownF Z { y with mi := y.mi + 1 } := rfl
    rw [F1]
    have R1 := R.minute (y.mi + 1)
    generalize upd H ow (.dK (ownF Z { y with mi := y.mi + 1 })) = H1 at R1 ⊢
    have I1 : RInv Z.ts { x with mi := x.mi + 1 } := I.minute _
    have lr1 : ({ x with mi := x.mi + 1 } : RS).rw.length ≤ 900000 := lrw
    have e1 : ({ y with mi := y.mi + 1 } : OA).pu = ownOf { x with mi := x.mi + 1 } := by
      have : y.mi = x.mi := congrArg OS.mi ey
      show ({ y.pu with mi := y.mi + 1 } : OS) = _
      rw [ey, this]
      rfl
    unfold RS.goMin at hq
    generalize hx0 : ({ x with mi := x.mi + 1 } : RS) = x0 at hq I1 lr1 e1
    generalize ({ y with mi := y.mi + 1 } : OA) = ya at R1 e1
    clear F1 R hx0 I lrw ey
    refine ⟨fun σ' H' => (∃ a1 a2 a3 a4, σ' = [some (.ref ow), a1, a2, a3, a4, none, none, none, none]) ∧ ∃ y', OR K B H' ow Z y' ∧ y'.pu = ownOf (Z.ts.foldl RS.goOn x0), ?_, ?_⟩
    · refine ⟨_, rfl, ow, _, rfl, R1.get "towers" _ rfl, Z.tw, rfl, ⟨_, SqL.of R1.st.tw⟩, ?_⟩
      refine for_list (xs := Z.ts.map V.str) (fun i σ H' => (∃ a1 a2 a3 a4, σ = [some (.ref ow), a1, a2, a3, a4, none, none, none, none]) ∧ ∃ y' : OA, OR K B H' ow Z y' ∧ y'.pu = ownOf ((Z.ts.take i).foldl RS.goOn x0))
        ⟨⟨_, _, _, _, rfl⟩, ya, R1, e1⟩ (fun i σ H' _ ⟨_, y', Ry, _⟩ => SqL.of Ry.st.tw) (fun i v σ H2 hv ⟨⟨a1, a2, a3, a4, hσ⟩, y, Ry, ey⟩ => ?_) (fun σ H2 ⟨⟨a1, a2, a3, a4, hσ⟩, y, Ry, ey⟩ => ?_)
      · subst hσ
        obtain ⟨t, ht, rfl⟩ := GX.get_map hv
        have htm := List.mem_of_getElem? ht
        have es : (Z.ts.take (i + 1)).foldl RS.goOn x0 = ((Z.ts.take i).foldl RS.goOn x0).goOn t := by
          rw [GX.take_snoc ht, List.foldl_append]
          rfl
        have Ix : RInv Z.ts ((Z.ts.take i).foldl RS.goOn x0) := fold_inv _ _ (fun t ht x hx => hx.goOn ndt t) I1
        have lrx : ((Z.ts.take i).foldl RS.goOn x0).rw.length ≤ 1000000 := by
          have := fold_rw goOn_rw (Z.ts.take i) x0
          rw [List.length_take] at this
          omega
        rw [es]
        generalize (Z.ts.take i).foldl RS.goOn x0 = x1 at ey Ix lrx
        clear es e1 I1 lr1 R1 hq
        have esd : y.pu.sd = sdOf x1.bz := congrArg OS.sd ey
        have efog : y.fog = x1.fog := congrArg OS.fog ey
        have hsl : (look y.sd t).map (·.2) = sdB (look x1.bz t) := by rw [← ol_sd, esd, look_sdOf Ix.bz.nd]
        refine ⟨_, rfl, _, rfl, ow, _, rfl, Ry.get "sends" _ rfl, y.se, _, rfl, DGet.k (k := Sum.inr t) Ry.atSe, _, rfl, ?_⟩
        rw [valV_ents, Option.isSome_map]
        rcases look_or y.sd t with hs | ⟨⟨sa, n, o, l⟩, hs⟩
        · rw [hs]
          refine iteF ⟨⟨_, _, _, _, rfl⟩, y, Ry, ?_⟩
          rw [ey]
          congr 1
          rw [hs] at hsl
          unfold RS.goOn
          rcases look_or x1.bz t with hb | ⟨⟨n, oo, l⟩, hb⟩
          · rw [hb]
          · rw [hb] at hsl ⊢
            cases oo with
            | none => rfl
            | some o => cases hsl
        rw [hs]
        have hb : look x1.bz t = some (n, some o, l) := by
          rw [hs] at hsl
          rcases look_or x1.bz t with hb | ⟨⟨n', oo, l'⟩, hb⟩
          · rw [hb] at hsl; cases hsl
          · rw [hb] at hsl ⊢
            cases oo with
            | none => cases hsl
            | some o' => cases hsl; rfl
        have dst : DGet H2 y.se (.str t) (some (.ref sa)) := by
          have := DGet.k (k := Sum.inr t) Ry.atSe
          rwa [valV_ents, hs] at this
        have hsa := Ry.sdt _ (look_in hs)
        refine iteT ⟨_, rfl, ow, _, rfl, Ry.get "sends" _ rfl, _, rfl, y.se, _, rfl, dst, sa, _, rfl, SqT.of hsa, rfl, _, _, rfl, _, _, rfl, _, _, rfl, rfl, ?_⟩
        have ndS : (y.sd.map (·.1)).Nodup := by
          rw [← drop1_keys]
          show (y.pu.sd.map (·.1)).Nodup
          rw [esd, sdOf_keys]
          exact (List.nodup_append.mp Ix.bz.sn).1
        have lsd : y.sd.length ≤ 200 := by
          have h1 := nodup_sub ndS (m := Z.ts) fun k hk => by
            rw [← drop1_keys] at hk
            have hk : k ∈ y.pu.sd.map (·.1) := hk
            rw [esd, sdOf_keys] at hk
            exact Ix.bt k (Ix.bz.pm.mem_iff.mpr (List.mem_append_left _ hk))
          rw [List.length_map] at h1
          omega
        refine ⟨fun σ' H' => σ' = [some (.ref ow), some (.str t), some (.str n), some (.str o), some (.int l), none, none, none, none] ∧ ∃ y2 : OA, OR K B H' ow Z y2 ∧ y2.pu = { ownOf x1 with sd := if (inK x1.fog t || (inK x1.fog o || decide (l = 1))) = true then delS (sdOf x1.bz) t else setS (sdOf x1.bz) t (n, o, l - 1) }, ?_, ?_⟩
        · refine ⟨fun b H' => b = (inK x1.fog t || (inK x1.fog o || decide (l = 1))) ∧ H' = H2, ?_, ?_⟩
          · refine ⟨_, rfl, _, rfl, ow, _, rfl, Ry.get "fog" _ rfl, y.fo, _, rfl, DGet.k (k := Sum.inr t) Ry.atFo, _, rfl, ?_⟩
            rw [valV_ents, Option.isSome_map, efog]
            show (if inK x1.fog t = true then _ else _)
            cases f1 : inK x1.fog t with
            | true => exact iteT ⟨rfl, rfl⟩
            | false =>
              refine iteF ⟨_, rfl, _, rfl, ow, _, rfl, Ry.get "fog" _ rfl, y.fo, _, rfl, DGet.k (k := Sum.inr o) Ry.atFo, _, rfl, ?_⟩
              rw [valV_ents, Option.isSome_map, efog]
              show (if inK x1.fog o = true then _ else _)
              cases f2 : inK x1.fog o with
              | true => exact iteT ⟨rfl, rfl⟩
              | false =>
                refine iteF ⟨_, rfl, rfl, _, rfl, ?_, rfl⟩
                show decide (V.int l = V.int 1) = decide (l = 1)
                exact decide_eq_decide.mpr ⟨fun z => V.int.inj z, fun z => by rw [z]⟩
          · rintro b H' ⟨rfl, rfl⟩
            cases hc : (inK x1.fog t || (inK x1.fog o || decide (l = 1))) with
            | false =>
              refine iteF ⟨_, rfl, _, rfl, _, rfl, _, _, rfl, rfl, by show 3 ≤ sizeLine; decide, fun p hp => ?_⟩
              have R2 := Ry.new (o := .tup (sdV (n, o, l - 1))) hp
              have R3 := R2.sendP (t := t) (b := (n, o, l - 1)) upd_same
              refine ⟨_, rfl, ow, _, rfl, R2.get "sends" _ rfl, _, rfl, y.se, _, rfl, DPut.k (k := Sum.inr t) R2.atSe (by rw [ents_len]; exact Nat.lt_of_le_of_lt lsd (by decide)), rfl, _, R3, ?_⟩
              rw [opu_sd, ey, if_neg (by decide)]
              rfl
            | true =>
              refine iteT ?_
              refine ⟨y.se, _, Ry.atSe, trivial, fun od => ?_⟩
              have TL := tabs_lock (o := od) Ry.tab Ry.atSe trivial
              have hO1 := at_lock (o := od) (u := .dK (ents rf y.sd)) Ry.atO Ry.ow_ne.2
              have gO : ∀ {H4 : Hp}, Le (T K) (upd H' y.se (.frz od (.dK (ents rf y.sd)))) H4 → DGet H4 ow (.str "sends") (some (.ref y.se)) := fun L => DGet.k (k := Sum.inr "sends") (L.at hO1)
              refine ⟨_, rfl, ow, _, rfl, gO (Le.refl TL), y.se, od, rfl, .inl ⟨_, upd_same, fun D hD => ?_⟩⟩
              refine lc_pairs (K := K) (TT := T K) (xs := y.sd) (f := fun p => V.str p.1) (fun p => decide (p.1 ≠ t)) (fun p => [.str p.1, .ref p.2.1]) (walksVK upd_same) TL hD (by omega) (fun p hp H3 Y N L3 hY hN => ⟨rfl, ?_⟩) (fun H3 P L3 h3 hP eP => ?_)
              · refine ⟨_, rfl, _, rfl, rfl, _, rfl, ?_⟩
                by_cases c : p.1 = t
                · rw [decide_eq_true (congrArg V.str c)]
                  exact iteF (hN _ (Le.refl L3.tab) (by simp [c]))
                · exact iteNT (fun z => c (V.str.inj z)) ⟨_, rfl, _, rfl, ow, _, rfl, gO L3, _, rfl, y.se, _, rfl, dget_rd (f := rf) (.inr ⟨od, L3.at upd_same⟩) (look_of ndS hp), by show 2 ≤ sizeLine; decide, fun q hq => hY _ q (Le.refl L3.tab) hq (by simpa using c)⟩
              · have L4 : Le (T K) H' (upd H3 y.se (.dK (ents rf y.sd))) := Le.unlock Ry.atSe trivial L3
                have hD4 : upd H3 y.se (.dK (ents rf y.sd)) D = some (.lst (P.map rf)) := (upd_ne (fun z : D = y.se => by rw [z, upd_same] at hD; cases hD)).trans h3
                have hP4 : ∀ q ∈ P, upd H3 y.se (.dK (ents rf y.sd)) q.1 = some (.tup [.str q.2.1, .ref q.2.2.1]) := fun q hq => (upd_ne (fun z => by
                  have := hP q hq
                  rw [z, L3.at upd_same] at this
                  cases this)).trans (hP q hq)
                refine ⟨L3.at upd_same, ?_⟩
                generalize upd H3 y.se (.dK (ents rf y.sd)) = H4 at L4 hD4 hP4 ⊢
                have eP : P.map (·.2) = delS y.sd t := eP
                have pe := paired_ents (K := K) (H := H4) (f := rf) (c := fun x : Str × Addr × Str × Str × Int => x) hP4
                rw [show (P.map fun q => q.2) = delS y.sd t from eP] at pe
                refine ⟨D, P.map (fun q : Addr × Str × Addr × Str × Str × Int => q.1), ents rf (delS y.sd t), rfl, SqL.of (by rw [List.map_map]; exact hD4), pe, fun p hp => ?_⟩
                rw [merge0 (nodup_delS ndS)]
                have R4 := Ry.to L4
                have hf := R4.fresh hp
                have hB := R4.le.no _ hp
                have R5 := R4.new (o := .dK (ents rf (delS y.sd t))) hp
                have R6 := R5.sendN (p := p) (f := delS y.sd t) upd_same hB hf (fun q hq => (List.mem_filter.mp hq).1)
                refine ⟨_, rfl, ow, _, rfl, DPut.k (k := Sum.inr "sends") R5.atO (by show 9 < sizeLine; decide), rfl, _, R6, ?_⟩
                rw [if_pos rfl]
                show OS.mk _ _ _ _ _ _ = OS.mk _ _ _ _ _ _
                rw [drop1_del]
                have := ey
                unfold OA.pu ownOf at this
                injection this with z1 z2 z3 z4 z5 z6
                rw [z1, z2, z3, z4, z5, z6]
                rfl
        · rintro σ' H3 ⟨rfl, y2, R2, e2⟩
          have z1 : y2.fog = x1.fog := congrArg OS.fog e2
          have z2 : y2.pu.ms = x1.ms := congrArg OS.ms e2
          have z3 : y2.pu.qu = x1.qu := congrArg OS.qu e2
          have z5 : y2.pu.rw = x1.rw := congrArg OS.rw e2
          have z6 : y2.mi = x1.mi := congrArg OS.mi e2
          have ndq : (y2.qu.map (·.1)).Nodup := by
            rw [← drop1_keys]
            show (y2.pu.qu.map (·.1)).Nodup
            rw [z3]
            exact Ix.ndQ ndt
          have lqu : y2.qu.length ≤ 200 := by
            have h1 : y2.pu.qu.length = y2.qu.length := drop1_len _
            have h2 := congrArg List.length Ix.qk
            rw [List.length_map] at h2
            rw [z3] at h1
            omega
          have lrw2 : y2.rw.length ≤ 1000000 := by rw [opu_rwl, z5]; exact lrx
          obtain ⟨o1, o2, o3⟩ := Ix.bz.other hb
          have oin : o ∈ Z.ts := Ix.bt o o2
          have hnp : n ∈ places x1 := List.mem_append_right _ (List.mem_map.mpr ⟨_, look_sends hb, rfl⟩)
          obtain ⟨m, hm, _⟩ := Ix.pm n hnp
          obtain ⟨ma, hma⟩ := look_un (cs := y2.ms) (n := n) (v := m) (by rw [← ol_ms, z2]; exact hm)
          have esd' := sd_free Ix.bz hb
          have esl := sd_less Ix.bz hb (l - 1)
          have eqq : ∀ {k : Str} {q : List Str}, look x1.qu k = some q → qOf x1.qu k = q := fun h => by unfold qOf; rw [h]; rfl
          have hgo : x1.goOn t = if (inK x1.fog t || inK x1.fog o) = true then ({ x1.free t o with qu := setS x1.qu t (n :: qOf x1.qu t) } : RS).row "broken" t n
              else if 1 < l then { x1 with bz := setS x1.bz t (n, some o, l - 1) }
              else if o = m.e then ({ x1.free t o with ms := setS x1.ms n { m with th := true } } : RS).row "there" o n
              else ((x1.free t o).wait n o).row "passed" o n := by
            unfold RS.goOn
            rw [hb]
            show (if _ then _ else if _ then _ else if o = eOf x1.ms n then ({ x1.free t o with ms := thMsg x1.ms n } : RS).row "there" o n else _) = _
            unfold eOf thMsg
            rw [hm]
          have hl1 : 1 ≤ l := (Ix.bl _ (look_sends hb)).1
          refine ⟨fun b H' => b = (inK x1.fog t || inK x1.fog o) ∧ H' = H3, ?_, ?_⟩
          · refine ⟨_, rfl, _, rfl, ow, _, rfl, R2.get "fog" _ rfl, y2.fo, _, rfl, DGet.k (k := Sum.inr t) R2.atFo, _, rfl, ?_⟩
            rw [valV_ents, Option.isSome_map, z1]
            show (if inK x1.fog t = true then _ else _)
            cases f1 : inK x1.fog t with
            | true => exact iteT ⟨rfl, rfl⟩
            | false =>
              refine iteF ⟨_, rfl, _, rfl, ow, _, rfl, R2.get "fog" _ rfl, y2.fo, _, rfl, DGet.k (k := Sum.inr o) R2.atFo, _, rfl, ?_⟩
              rw [valV_ents, Option.isSome_map, z1]
              exact ⟨rfl, rfl⟩
          rintro b H' ⟨rfl, rfl⟩
          cases hfb : (inK x1.fog t || inK x1.fog o) with
          | true =>
            rw [← Bool.or_assoc, hfb, Bool.true_or, if_pos rfl] at e2
            rw [hfb, if_pos rfl] at hgo
            rw [hgo]
            obtain ⟨q, hqx⟩ := Ix.q htm
            obtain ⟨ca, hqt⟩ := look_un (cs := y2.qu) (n := t) (v := q) (by rw [← ol_qu, z3]; exact hqx)
            obtain ⟨_, lq, _⟩ := Ix.ql hqx
            have dq : ∀ {H4 : Hp}, OR K B H4 ow Z y2 → DGet H4 y2.qs (.str t) (some (.ref ca)) := fun R => by
              have := DGet.k (k := Sum.inr t) R.atQs
              rwa [valV_ents, hqt] at this
            refine iteT ⟨_, rfl, by show 1 ≤ sizeLine; decide, fun p hp => ?_⟩
            have R3 := R2.new (o := .lst [.str n]) hp
            refine ⟨_, rfl, ow, _, rfl, R3.get "queues" _ rfl, _, rfl, y2.qs, _, rfl, dq R3, p, ca, _, _, rfl, rfl, upd_same, R3.atQu (look_in hqt), by rw [List.length_map]; exact Nat.le_trans (Nat.add_le_add_left lq _) (show 61 ≤ sizeLine by decide), fun p2 hp2 => ?_⟩
            have hf := R3.fresh hp2
            have hB := R3.le.no _ hp2
            have R4 := R3.new (o := .lst ((n :: q).map V.str)) hp2
            have R5 := R4.queP ndq hqt (l := n :: q) upd_same hB hf
            have eh : [V.str n] ++ q.map V.str = (n :: q).map V.str := rfl
            rw [eh]
            refine ⟨_, rfl, ow, _, rfl, R4.get "queues" _ rfl, _, rfl, y2.qs, _, rfl, DPut.k (k := Sum.inr t) R4.atQs (by rw [ents_len]; exact Nat.lt_of_le_of_lt lqu (by decide)), ?_⟩
            generalize upd (upd (upd H' p (.lst [.str n])) p2 (.lst ((n :: q).map V.str))) y2.qs _ = H5 at R5 ⊢
            have e5 := opu_qu (y := y2) t p2 (n :: q)
            have lr5 : ({ y2 with qu := setS y2.qu t (p2, n :: q) } : OA).rw.length ≤ 1000000 := lrw2
            have m5 : ({ y2 with qu := setS y2.qu t (p2, n :: q) } : OA).mi = x1.mi := z6
            generalize ({ y2 with qu := setS y2.qu t (p2, n :: q) } : OA) = y5 at R5 e5 lr5 m5
            clear hp hp2
            refine ⟨_, rfl, ow, _, rfl, R5.get "rows" _ rfl, _, rfl, ow, _, rfl, R5.get "minute" _ rfl, _, rfl, _, rfl, by show 4 ≤ sizeLine; decide, fun p hp => ⟨by show 1 ≤ sizeLine; decide, fun p2 hp2 => ⟨y5.ro, p2, _, _, rfl, rfl, ((R5.new hp).new hp2).atRo, upd_same, ?_, fun p3 hp3 => ⟨_, rfl, ow, _, rfl, DPut.k (k := Sum.inr "rows") (((R5.new hp).new hp2).new hp3).atO (by show 9 < sizeLine; decide), ⟨_, _, _, _, rfl⟩, _, R5.rowF (y5.mi, "broken", t, n) hp hp2 hp3, ?_⟩⟩⟩⟩
            · rw [List.length_map]
              exact Nat.le_trans (Nat.add_le_add_right lr5 _) (show 1000001 ≤ sizeLine by decide)
            · rw [opu_row, e5, e2, m5, eqq hqx]
              show OS.mk _ _ _ _ _ _ = OS.mk _ _ _ _ _ _
              rw [← esd']
              rfl
          | false =>
            rw [← Bool.or_assoc, hfb, Bool.false_or] at e2
            rw [hfb, if_neg (by decide)] at hgo
            refine iteF ?_
            have ndm : (y2.ms.map (·.1)).Nodup := by
              rw [← drop1_keys]
              show (y2.pu.ms.map (·.1)).Nodup
              rw [z2]
              exact Ix.mnd
            have lms : y2.ms.length ≤ 200 := by
              have h1 : y2.pu.ms.length = y2.ms.length := drop1_len _
              have := Ix.ml
              rw [z2] at h1
              omega
            have dm : DGet H' y2.me (.str n) (some (.ref ma)) := by
              have := DGet.k (k := Sum.inr n) R2.atMe
              rwa [valV_ents, hma] at this
            have am := R2.atMs (look_in hma)
            refine ⟨_, rfl, rfl, _, rfl, ?_⟩
            by_cases c1 : l = 1
            rotate_left
            · refine iteDF (fun z => c1 (V.int.inj z)) (iteF ⟨_, rfl, rfl, _, rfl, iteDF (fun z => c1 (V.int.inj z)) ⟨⟨_, _, _, _, rfl⟩, y2, R2, ?_⟩⟩)
              rw [e2, hgo, if_pos (show 1 < l by omega), decide_eq_false c1, if_neg (by decide)]
              show OS.mk _ _ _ _ _ _ = OS.mk _ _ _ _ _ _
              rw [← esl]
              rfl
            rw [decide_eq_true c1, if_pos rfl] at e2
            rw [if_neg (show ¬ 1 < l by omega)] at hgo
            refine iteDT (congrArg V.int c1) ?_
            refine ⟨_, rfl, _, rfl, ow, _, rfl, R2.get "messages" _ rfl, _, rfl, y2.me, _, rfl, dm, ma, _, _, _, rfl, rfl, SqL.of am, atI_nat (j := 1) rfl, rfl, _, rfl, ?_⟩
            by_cases c2 : o = m.e
            · refine iteDT (congrArg V.str c2) ?_
              rw [if_pos c2] at hgo
              rw [hgo]
              refine ⟨_, rfl, ow, _, rfl, R2.get "messages" _ rfl, _, rfl, y2.me, _, rfl, dm, _, rfl, ma, _, rfl, SqL.of am, fun p hp => ?_⟩
              have ecut : cutV (msgV m) none (some 4) = [.str m.s, .str m.e, .int m.n, .bl m.u] := rfl
              rw [ecut]
              have R3 := R2.new (o := .lst [.str m.s, .str m.e, .int m.n, .bl m.u]) hp
              have k3 : upd H' p (.lst [.str m.s, .str m.e, .int m.n, .bl m.u]) p = some (.lst [.str m.s, .str m.e, .int m.n, .bl m.u]) := upd_same
              generalize upd H' p (.lst [.str m.s, .str m.e, .int m.n, .bl m.u]) = H4 at R3 k3 ⊢
              refine ⟨by show 1 ≤ sizeLine; decide, fun p2 hp2 => ?_⟩
              have R4 := R3.new (o := .lst [.str "there"]) hp2
              refine ⟨p, p2, _, _, rfl, rfl, (upd_ne (ne_of_none k3 hp2)).trans k3, upd_same, by show 5 ≤ sizeLine; decide, fun p3 hp3 => ?_⟩
              have eh : HO.lst ([V.str m.s, .str m.e, .int m.n, .bl m.u] ++ [.str "there"]) = HO.lst (msgV { m with th := true }) := rfl
              rw [eh]
              have hf := R4.fresh hp3
              have hB := R4.le.no _ hp3
              have R5 := R4.new (o := .lst (msgV { m with th := true })) hp3
              have R6 := R5.msgP ndm hma (l := { m with th := true }) upd_same hB hf
              refine ⟨_, rfl, ow, _, rfl, R5.get "messages" _ rfl, _, rfl, y2.me, _, rfl, DPut.k (k := Sum.inr n) R5.atMe (by rw [ents_len]; exact Nat.lt_of_le_of_lt lms (by decide)), ?_⟩
              generalize upd (upd (upd H4 p2 (.lst [.str "there"])) p3 (.lst (msgV { m with th := true }))) y2.me _ = H6 at R6 ⊢
              have e6 := opu_ms (y := y2) n p3 { m with th := true }
              have lr6 : ({ y2 with ms := setS y2.ms n (p3, { m with th := true }) } : OA).rw.length ≤ 1000000 := lrw2
              have m6 : ({ y2 with ms := setS y2.ms n (p3, { m with th := true }) } : OA).mi = x1.mi := z6
              generalize ({ y2 with ms := setS y2.ms n (p3, { m with th := true }) } : OA) = y6 at R6 e6 lr6 m6
              clear hp hp2 hp3
              refine ⟨_, rfl, ow, _, rfl, R6.get "rows" _ rfl, _, rfl, ow, _, rfl, R6.get "minute" _ rfl, _, rfl, _, rfl, by show 4 ≤ sizeLine; decide, fun p hp => ⟨by show 1 ≤ sizeLine; decide, fun p2 hp2 => ⟨y6.ro, p2, _, _, rfl, rfl, ((R6.new hp).new hp2).atRo, upd_same, ?_, fun p3 hp3 => ⟨_, rfl, ow, _, rfl, DPut.k (k := Sum.inr "rows") (((R6.new hp).new hp2).new hp3).atO (by show 9 < sizeLine; decide), ⟨_, _, _, _, rfl⟩, _, R6.rowF (y6.mi, "there", o, n) hp hp2 hp3, ?_⟩⟩⟩⟩
              · rw [List.length_map]
                exact Nat.le_trans (Nat.add_le_add_right lr6 _) (show 1000001 ≤ sizeLine by decide)
              · rw [opu_row, e6, e2, m6]
                show OS.mk _ _ _ _ _ _ = OS.mk _ _ _ _ _ _
                rw [← esd']
                rfl
            · refine iteDF (fun z => c2 (V.str.inj z)) ?_
              rw [if_neg c2] at hgo
              rw [hgo]
              refine ⟨_, rfl, rfl, _, rfl, iteDT (congrArg V.int c1) ?_⟩
              obtain ⟨q, hqx⟩ := Ix.q oin
              obtain ⟨ca, hqt⟩ := look_un (cs := y2.qu) (n := o) (v := q) (by rw [← ol_qu, z3]; exact hqx)
              obtain ⟨_, lq, kq⟩ := Ix.ql hqx
              refine ⟨_, rfl, _, rfl, _, rfl, B, ow, Z, y2, n, o, (ca, q), rfl, R2, ndq, lqu, hqt, (by show q.length ≤ 200; omega), fun k hk => ?_, fun y6 H6 R6 e6 => ?_⟩
              · rcases List.mem_cons.mp hk with z | z
                · rw [z, hma]; rfl
                · obtain ⟨m', hm', _⟩ := kq k z
                  obtain ⟨a', ha'⟩ := look_un (cs := y2.ms) (n := k) (v := m') (by rw [← ol_ms, z2]; exact hm')
                  rw [ha']
                  rfl
              · have lr6 : y6.rw.length ≤ 1000000 := by
                  rw [opu_rwl, e6]
                  show y2.pu.rw.length ≤ _
                  rw [z5]
                  exact lrx
                have m6 : y6.mi = x1.mi := (congrArg OS.mi e6).trans z6
                refine ⟨_, rfl, ow, _, rfl, R6.get "rows" _ rfl, _, rfl, ow, _, rfl, R6.get "minute" _ rfl, _, rfl, _, rfl, by show 4 ≤ sizeLine; decide, fun p hp => ⟨by show 1 ≤ sizeLine; decide, fun p2 hp2 => ⟨y6.ro, p2, _, _, rfl, rfl, ((R6.new hp).new hp2).atRo, upd_same, ?_, fun p3 hp3 => ⟨_, rfl, ow, _, rfl, DPut.k (k := Sum.inr "rows") (((R6.new hp).new hp2).new hp3).atO (by show 9 < sizeLine; decide), ⟨_, _, _, _, rfl⟩, _, R6.rowF (y6.mi, "passed", o, n) hp hp2 hp3, ?_⟩⟩⟩⟩
                · rw [List.length_map]
                  exact Nat.le_trans (Nat.add_le_add_right lr6 _) (show 1000001 ≤ sizeLine by decide)
                · rw [opu_row, e6, m6, e2]
                  show OS.mk _ _ _ _ _ _ = OS.mk _ _ _ _ _ _
                  have eq2 : qOf (x1.free t o).qu o = q := eqq hqx
                  show _ = ownOf (((x1.free t o).wait n o).row "passed" o n)
                  unfold RS.wait
                  rw [eq2, ← esd']
                  rfl
      · subst hσ
        rw [List.length_map, List.take_length] at ey
        exact ⟨⟨_, _, _, _, rfl⟩, y, Ry, ey⟩
    rintro σ' H2 ⟨⟨a1, a2, a3, a4, rfl⟩, y, Ry, ey⟩
    have I2 : RInv Z.ts (Z.ts.foldl RS.goOn x0) := fold_inv _ _ (fun t ht x hx => hx.goOn ndt t) I1
    have lr2 : (Z.ts.foldl RS.goOn x0).rw.length ≤ 900060 := by
      have := fold_rw goOn_rw Z.ts x0
      omega
    generalize Z.ts.foldl RS.goOn x0 = x1 at hq ey I2 lr2
    clear I1 lr1 e1 R1
    refine ⟨fun σ' H' => (∃ a1 a2 a3 a4 a5 a6, σ' = [some (.ref ow), a1, a2, a3, a4, a5, a6, none, none]) ∧ ∃ y', OR K B H' ow Z y' ∧ y'.pu = ownOf (Z.ts.foldl (RS.begin' Z.ts Z.lp Z.hold) x1), ?_, ?_⟩
    · refine ⟨_, rfl, ow, _, rfl, Ry.get "towers" _ rfl, Z.tw, rfl, ⟨_, SqL.of Ry.st.tw⟩, ?_⟩
      refine for_list (xs := Z.ts.map V.str) (fun i σ H' => (∃ a1 a2 a3 a4 a5 a6, σ = [some (.ref ow), a1, a2, a3, a4, a5, a6, none, none]) ∧ ∃ y' : OA, OR K B H' ow Z y' ∧ y'.pu = ownOf ((Z.ts.take i).foldl (RS.begin' Z.ts Z.lp Z.hold) x1))
        ⟨⟨_, _, _, _, _, _, rfl⟩, y, Ry, ey⟩ (fun i σ H' _ ⟨_, y', Ry, _⟩ => SqL.of Ry.st.tw) (fun i v σ H3 hv ⟨⟨a1, a2, a3, a4, a5, a6, hσ⟩, y, Ry, ey⟩ => ?_) (fun σ H3 ⟨⟨a1, a2, a3, a4, a5, a6, hσ⟩, y, Ry, ey⟩ => ?_)
      · subst hσ
        obtain ⟨t, ht, rfl⟩ := GX.get_map hv
        have htm := List.mem_of_getElem? ht
        have es : (Z.ts.take (i + 1)).foldl (RS.begin' Z.ts Z.lp Z.hold) x1 = ((Z.ts.take i).foldl (RS.begin' Z.ts Z.lp Z.hold) x1).begin' Z.ts Z.lp Z.hold t := by
          rw [GX.take_snoc ht, List.foldl_append]
          rfl
        have Ix : RInv Z.ts ((Z.ts.take i).foldl (RS.begin' Z.ts Z.lp Z.hold) x1) := fold_inv _ _ (fun t ht x hx => hx.begin' ndt h1 (List.mem_of_mem_take ht)) I2
        have lrx : ((Z.ts.take i).foldl (RS.begin' Z.ts Z.lp Z.hold) x1).rw.length ≤ 1000000 := by
          have := fold_rw (f := RS.begin' Z.ts Z.lp Z.hold) (fun x t => begin_rw x t) (Z.ts.take i) x1
          rw [List.length_take] at this
          omega
        rw [es]
        generalize (Z.ts.take i).foldl (RS.begin' Z.ts Z.lp Z.hold) x1 = x2 at ey Ix lrx
        clear es I2 lr2 hq
        have esd : y.pu.sd = sdOf x2.bz := congrArg OS.sd ey
        have efog : y.fog = x2.fog := congrArg OS.fog ey
        have z2 : y.pu.ms = x2.ms := congrArg OS.ms ey
        have z3 : y.pu.qu = x2.qu := congrArg OS.qu ey
        have z5 : y.pu.rw = x2.rw := congrArg OS.rw ey
        have z6 : y.mi = x2.mi := congrArg OS.mi ey
        obtain ⟨q, hqx⟩ := Ix.q htm
        obtain ⟨ca, hqt⟩ := look_un (cs := y.qu) (n := t) (v := q) (by rw [← ol_qu, z3]; exact hqx)
        obtain ⟨_, lq, kq⟩ := Ix.ql hqx
        have dq : ∀ {H4 : Hp}, OR K B H4 ow Z y → DGet H4 y.qs (.str t) (some (.ref ca)) := fun R => by
          have := DGet.k (k := Sum.inr t) R.atQs
          rwa [valV_ents, hqt] at this
        have aq : ∀ {H4 : Hp}, OR K B H4 ow Z y → H4 ca = some (.lst (q.map V.str)) := fun R => R.atQu (look_in hqt)
        have eqx : qOf x2.qu t = q := by unfold qOf; rw [hqx]; rfl
        refine ⟨_, rfl, ow, _, rfl, Ry.get "queues" _ rfl, _, rfl, y.qs, _, rfl, dq Ry, ca, rfl, ⟨_, SqL.of (aq Ry)⟩, ?_⟩
        refine for_list (xs := q.map V.str) (fun j σ H' => (∃ a2 a5 a6, σ = [some (.ref ow), some (.str t), a2, a3, a4, a5, a6, none, none]) ∧ Le (T K) H3 H' ∧ (inK x2.bz t = true ∨ ∀ n ∈ q.take j, (canGo Z.ts Z.lp x2 t n).isSome = false))
          ⟨⟨_, _, _, rfl⟩, Le.refl Ry.tab, .inr fun n hn => absurd hn List.not_mem_nil⟩ (fun j σ H' _ hP => SqL.of (aq (Ry.to hP.2.1))) (fun j v σ H4 hv ⟨⟨a2, a5, a6, hσ⟩, L4, hno⟩ => ?_) (fun σ H4 ⟨⟨a2, a5, a6, hσ⟩, L4, hno⟩ => ?_)
        · subst hσ
          obtain ⟨n, hn, rfl⟩ := GX.get_map hv
          have R4 := Ry.to L4
          have hnq := List.mem_of_getElem? hn
          obtain ⟨m, hm, _⟩ := kq n hnq
          obtain ⟨ma, hma⟩ := look_un (cs := y.ms) (n := n) (v := m) (by rw [← ol_ms, z2]; exact hm)
          have lsd : y.sd.length ≤ 200 := by
            have e1 : y.pu.sd.length = y.sd.length := drop1_len _
            have e2 := congrArg List.length (sdOf_keys x2.bz)
            rw [List.length_map, List.length_map] at e2
            have e3 := Ix.bzl
            have e4 : (sends x2.bz).length ≤ x2.bz.length := List.length_filter_le _ _
            rw [esd] at e1
            omega
          refine ⟨_, rfl, ow, _, rfl, R4.get "sends" _ rfl, y.se, _, rfl, .inl R4.atSe, fun pk hpk => ?_⟩
          have ek : (ents rf y.sd).map (fun kv => kV kv.1) = (y.sd.map (·.1)).map V.str := by unfold ents; rw [List.map_map, List.map_map]; rfl
          rw [ek]
          have L5 := L4.new (o := .lst ((y.sd.map (·.1)).map V.str)) hpk
          have k5 : upd H4 pk (.lst ((y.sd.map (·.1)).map V.str)) pk = some (.lst ((y.sd.map (·.1)).map V.str)) := upd_same
          generalize upd H4 pk (.lst ((y.sd.map (·.1)).map V.str)) = H5 at L5 k5 ⊢
          have R5 := Ry.to L5
          clear R4 hpk L4
          refine ⟨y.se, _, R5.atSe, trivial, fun od => ?_⟩
          have TL := tabs_lock (o := od) R5.tab R5.atSe trivial
          have hO1 := at_lock (o := od) (u := .dK (ents rf y.sd)) R5.atO R5.ow_ne.2
          have gO : ∀ {H4 : Hp}, Le (T K) (upd H5 y.se (.frz od (.dK (ents rf y.sd)))) H4 → DGet H4 ow (.str "sends") (some (.ref y.se)) := fun L => DGet.k (k := Sum.inr "sends") (L.at hO1)
          refine ⟨_, rfl, ow, _, rfl, gO (Le.refl TL), y.se, od, _, rfl, upd_same, fun D hD => ?_⟩
          refine lc_pick (K := K) (T := T K) (xs := y.sd) (f := fun p => rf p.2) (fun _ => true) (fun p => V.str p.2.2.2.1) (walksVD upd_same) TL hD (by omega) (fun p hp H6 Y N L6 hY hN => ⟨rfl, yes_ (iteT ?_)⟩) (fun H6 L6 h6 => ?_)
          · have tp := L6.at (at_lock (o := od) (u := .dK (ents rf y.sd)) (R5.sdt p hp) fun z => by
              have := R5.sdt p hp
              rw [z, R5.atSe] at this
              cases this)
            exact ⟨_, rfl, p.2.1, _, _, _, rfl, rfl, SqT.of tp, atI_nat (j := 1) rfl, hY _ (Le.refl L6.tab) rfl⟩
          have L7 : Le (T K) H5 (upd H6 y.se (.dK (ents rf y.sd))) := Le.unlock R5.atSe trivial L6
          have hD7 := (upd_ne (o := .dK (ents rf y.sd)) (fun z : D = y.se => by rw [z, upd_same] at hD; cases hD)).trans h6
          refine ⟨L6.at upd_same, ?_⟩
          generalize upd H6 y.se (.dK (ents rf y.sd)) = H7 at L7 hD7 ⊢
          have k7 := L7.at k5
          have eb : (y.sd.map (·.1)).map V.str ++ (y.sd.filter fun _ => true).map (fun p => V.str p.2.2.2.1) = (busyOf (sdOf x2.bz)).map V.str := by
            rw [← esd, List.filter_eq_self.mpr fun _ _ => rfl]
            unfold busyOf
            show _ = (((y.sd.map fun p => (p.1, p.2.2)).map (·.1)) ++ ((y.sd.map fun p => (p.1, p.2.2)).map (·.2.2.1))).map V.str
            rw [List.map_append, List.map_map, List.map_map, List.map_map, List.map_map, List.map_map]
            rfl
          refine ⟨pk, D, _, _, rfl, rfl, k7, hD7, ?_, fun pb hpb => ?_⟩
          · rw [List.length_map, List.length_map, List.length_map]
            exact Nat.le_trans (Nat.add_le_add lsd (Nat.le_trans (List.length_filter_le _ _) lsd)) (by decide)
          rw [eb]
          have L8 := (L5.trans L7).new (o := .lst ((busyOf (sdOf x2.bz)).map V.str)) hpb
          have k8 : upd H7 pb (.lst ((busyOf (sdOf x2.bz)).map V.str)) pb = some (.lst ((busyOf (sdOf x2.bz)).map V.str)) := upd_same
          generalize upd H7 pb (.lst ((busyOf (sdOf x2.bz)).map V.str)) = H8 at L8 k8 ⊢
          clear k7 hD7 L7 eb hpb h6 L6 hD gO hO1 TL R5 k5 L5 ek
          have R8 := Ry.to L8
          have dm : ∀ {H9 : Hp} {y' : OA}, y'.ms = y.ms → OR K B H9 ow Z y' → DGet H9 y'.me (.str n) (some (.ref ma)) := fun e R => by
            have := DGet.k (k := Sum.inr n) R.atMe
            rwa [valV_ents, e, hma] at this
          have am : ∀ {H9 : Hp} {y' : OA}, y'.ms = y.ms → OR K B H9 ow Z y' → H9 ma = some (.lst (msgV m)) := fun e R => R.atMs (look_in (by rw [e]; exact hma))
          have een : eOf x2.ms n = m.e := by unfold eOf; rw [hm]
          have enn : nOf x2.ms n = m.n := by unfold nOf; rw [hm]
          obtain ⟨_, hme, n1, n50⟩ := Ix.me n m hm
          have hmt : m.e ≠ t := by
            have := Ix.qe _ (look_in hqx) n hnq
            rwa [een] at this
          have bin : ∀ k : Str, decide (k ∈ busyOf (sdOf x2.bz)) = inK x2.bz k := fun k => by
            rw [Bool.eq_iff_iff, decide_eq_true_iff, inK_iff]
            exact ((busy_perm Ix.bz).mem_iff).symm
          have stp : inK x2.bz t = true ∨ (canGo Z.ts Z.lp x2 t n).isSome = false → inK x2.bz t = true ∨ ∀ k ∈ q.take (j + 1), (canGo Z.ts Z.lp x2 t k).isSome = false := fun hc => by
            rcases hno with z | z
            · exact .inl z
            rcases hc with c | c
            · exact .inl c
            refine .inr fun k hk => ?_
            rw [GX.take_snoc hn] at hk
            rcases List.mem_append.mp hk with hk | hk
            · exact z k hk
            · rw [List.mem_singleton.mp hk]; exact c
          have ecg : canGo Z.ts Z.lp x2 t n = match routeL Z.ts (nearF Z.ts Z.lp y.fog) t m.e with | some w => if inK x2.bz (way1 w) = true then none else some (way1 w) | none => none := by
            unfold canGo RS.rt
            rw [een, efog]
            try rfl
          refine ⟨_, rfl, _, rfl, _, rfl, ow, _, rfl, R8.get "messages" _ rfl, _, rfl, y.me, _, rfl, dm rfl R8, ma, _, _, _, rfl, rfl, SqL.of (am rfl R8), atI_nat (j := 1) rfl, B, ow, Z, y, t, m.e, rfl, R8, htm, fun H9 L9 => ⟨fun hw => ?_, fun u w hw hu => ?_⟩⟩
          · rw [hw] at ecg
            have k9 := L9.at k8
            refine ⟨_, rfl, _, rfl, pb, _, rfl, .inl (SqL.of k9), rfl, flat_strs' _, _, rfl, ?_⟩
            show (if (!inV (.str t) ((busyOf (sdOf x2.bz)).map V.str)) = true then _ else _)
            rw [inV_strs, bin]
            cases hbt : inK x2.bz t with
            | true => exact iteF (iteF ⟨⟨_, _, _, rfl⟩, L8.trans L9, .inl rfl⟩)
            | false => exact iteT ⟨_, rfl, _, rfl, iteF (iteF ⟨⟨_, _, _, rfl⟩, L8.trans L9, by
                have := stp (.inr (by rw [ecg]; rfl))
                rwa [hbt] at this⟩)⟩
          · rw [hw] at ecg
            have k9 := L9.at k8
            have L10 := L8.trans L9
            have R9 := R8.to L9
            obtain ⟨Wy, hla⟩ := routeL_ok nearF_sub htm hw
            obtain ⟨o, tl, ew, ho, hot, ew1⟩ := way_two Wy hla hmt
            have at1 : atI (w.map V.str) (1 : Nat) = some (.str o) := atI_nat (by rw [ew]; rfl)
            have ecg : canGo Z.ts Z.lp x2 t n = if inK x2.bz (way1 w) = true then none else some (way1 w) := ecg
            rw [ew1] at ecg
            refine ⟨_, rfl, _, rfl, pb, _, rfl, .inl (SqL.of k9), rfl, flat_strs' _, _, rfl, ?_⟩
            show (if (!inV (.str t) ((busyOf (sdOf x2.bz)).map V.str)) = true then _ else _)
            rw [inV_strs, bin]
            cases hbt : inK x2.bz t with
            | true => exact iteF (iteF ⟨⟨_, _, _, rfl⟩, L10, .inl rfl⟩)
            | false =>
            refine iteT ⟨_, rfl, _, rfl, iteT ⟨_, rfl, u, _, _, _, rfl, rfl, SqL.of hu, at1, _, rfl, pb, _, rfl, .inl (SqL.of k9), rfl, flat_strs' _, _, rfl, ?_⟩⟩
            show (if (!inV (.str o) ((busyOf (sdOf x2.bz)).map V.str)) = true then _ else _)
            rw [inV_strs, bin]
            cases hbo : inK x2.bz o with
            | true =>
              rw [hbo, if_pos rfl] at ecg
              exact iteF ⟨⟨_, _, _, rfl⟩, L10, by
                have := stp (.inr (by rw [ecg]; rfl))
                rwa [hbt] at this⟩
            | false =>
              rw [hbo, if_neg (by decide)] at ecg
              refine iteT ?_
              have ndq : (y.qu.map (·.1)).Nodup := by
                rw [← drop1_keys]
                show (y.pu.qu.map (·.1)).Nodup
                rw [z3]
                exact Ix.ndQ ndt
              have lqu : y.qu.length ≤ 200 := by
                have h1 : y.pu.qu.length = y.qu.length := drop1_len _
                have h2 := congrArg List.length Ix.qk
                rw [List.length_map] at h2
                rw [z3] at h1
                omega
              have lrw2 : y.rw.length ≤ 1000000 := by rw [opu_rwl, z5]; exact lrx
              have hno : ∀ k ∈ q.take j, (canGo Z.ts Z.lp x2 t k).isSome = false := by
                rcases hno with z | z
                · rw [hbt] at z; cases z
                · exact z
              have hbg : x2.begin' Z.ts Z.lp Z.hold t = ({ x2 with qu := setS x2.qu t (q.filter fun k => decide (k ≠ n)), bz := setS (setS x2.bz t (n, some o, Z.hold * m.n)) o (n, none, 0) } : RS).row "sends" t n := by
                unfold RS.begin'
                rw [if_neg (by rw [hbt]; decide)]
                unfold RS.begin
                rw [eqx, find_at hn hno (by rw [ecg]; rfl)]
                show RS.row _ "sends" t n = _
                rw [enn, ecg]
                rfl
              rw [hbg]
              have emo := sd_more Ix.bz (t := t) (o := o) (n := n) (fun z => by rw [inK_iff.mpr z] at hbt; cases hbt) (fun z => by rw [inK_iff.mpr z] at hbo; cases hbo) hot (Z.hold * m.n)
              clear hbg stp ecg bin k9 k8
              refine ⟨_, rfl, ow, _, rfl, R9.get "queues" _ rfl, _, rfl, y.qs, _, rfl, dq R9, ca, rfl, ⟨_, SqL.of (aq R9)⟩, fun D hD => ?_⟩
              refine lc_pick (K := K) (T := T K) (xs := q) (f := V.str) (fun k => decide (k ≠ n)) V.str (walksVL (SqL.of (aq R9))) R9.tab hD (by omega) (fun k hk H11 Y N L11 hY hN => ⟨rfl, ?_⟩) (fun H11 L11 h11 => ?_)
              · refine ⟨_, rfl, _, rfl, rfl, _, rfl, ?_⟩
                by_cases c : k = n
                · subst c
                  rw [decide_eq_true rfl]
                  exact iteF (hN _ (Le.refl L11.tab) (by simp))
                · exact iteNT (fun z => c (V.str.inj z)) ⟨_, rfl, hY _ (Le.refl L11.tab) (by simpa using c)⟩
              have hf := R9.fresh hD
              have hB := R9.le.no _ hD
              have R11 := R9.to L11
              have hu11 := L11.at hu
              have R12 := R11.queP ndq hqt h11 hB hf
              refine ⟨_, rfl, ow, _, rfl, R11.get "queues" _ rfl, _, rfl, y.qs, _, rfl, DPut.k (k := Sum.inr t) R11.atQs (by rw [ents_len]; exact Nat.lt_of_le_of_lt lqu (by decide)), ?_⟩
              have hu12 := (upd_ne (o := .dK (putK (ents rf y.qu) (Sum.inr t) (.ref D))) (fun z : u = y.qs => by rw [z, R11.atQs] at hu11; cases hu11)).trans hu11
              generalize upd H11 y.qs (.dK (putK (ents rf y.qu) (Sum.inr t) (.ref D))) = H12 at R12 hu12 ⊢
              have e12 := opu_qu (y := y) t D (q.filter fun k => decide (k ≠ n))
              generalize hy12 : ({ y with qu := setS y.qu t (D, q.filter fun k => decide (k ≠ n)) } : OA) = y12 at R12 e12
              have m12 : y12.mi = x2.mi := by rw [← hy12]; exact z6
              have ms12 : y12.ms = y.ms := by rw [← hy12]
              have l12 : y12.rw.length ≤ 1000000 := by rw [← hy12]; exact lrw2
              have s12 : y12.sd.length ≤ 200 := by rw [← hy12]; exact lsd
              clear hy12 R11 h11 hu11 L11 hf hB hD
              refine ⟨_, rfl, _, rfl, u, _, _, _, rfl, rfl, SqL.of hu12, at1, _, rfl, ow, _, rfl, R12.get "hold" _ rfl, _, rfl, ow, _, rfl, R12.get "messages" _ rfl, _, rfl, y12.me, _, rfl, dm ms12 R12, ma, _, _, _, rfl, rfl, SqL.of (am ms12 R12), atI_nat (j := 2) rfl, _, _, rfl, rfl, .inl ⟨by omega, by omega⟩, by show 3 ≤ sizeLine; decide, fun p hp => ?_⟩
              have R13 := R12.new (o := .tup (sdV (n, o, Z.hold * m.n))) hp
              have R14 := R13.sendP (t := t) (b := (n, o, Z.hold * m.n)) upd_same
              refine ⟨_, rfl, ow, _, rfl, R13.get "sends" _ rfl, _, rfl, y12.se, _, rfl, DPut.k (k := Sum.inr t) R13.atSe (by rw [ents_len]; exact Nat.lt_of_le_of_lt s12 (by decide)), ?_⟩
              change OR K B (upd (upd H12 p (.tup [.str n, .str o, .int (Z.hold * m.n)])) y12.se _) ow Z _ at R14
              generalize upd (upd H12 p (.tup [.str n, .str o, .int (Z.hold * m.n)])) y12.se _ = H14 at R14 ⊢
              have e14 := opu_sd (y := y12) t p (n, o, Z.hold * m.n)
              have m14 : ({ y12 with sd := setS y12.sd t (p, n, o, Z.hold * m.n) } : OA).mi = x2.mi := m12
              have l14 : ({ y12 with sd := setS y12.sd t (p, n, o, Z.hold * m.n) } : OA).rw.length ≤ 1000000 := l12
              generalize ({ y12 with sd := setS y12.sd t (p, n, o, Z.hold * m.n) } : OA) = y14 at R14 e14 m14 l14
              clear hp R13
              refine ⟨_, rfl, ow, _, rfl, R14.get "rows" _ rfl, _, rfl, ow, _, rfl, R14.get "minute" _ rfl, _, rfl, _, rfl, by show 4 ≤ sizeLine; decide, fun p hp => ⟨by show 1 ≤ sizeLine; decide, fun p2 hp2 => ⟨y14.ro, p2, _, _, rfl, rfl, ((R14.new hp).new hp2).atRo, upd_same, ?_, fun p3 hp3 => ⟨_, rfl, ow, _, rfl, DPut.k (k := Sum.inr "rows") (((R14.new hp).new hp2).new hp3).atO (by show 9 < sizeLine; decide), ⟨_, _, _, _, _, _, rfl⟩, _, R14.rowF (y14.mi, "sends", t, n) hp hp2 hp3, ?_⟩⟩⟩⟩
              · rw [List.length_map]
                exact Nat.le_trans (Nat.add_le_add_right l14 _) (show 1000001 ≤ sizeLine by decide)
              · rw [opu_row, e14, e12, m14, ey]
                show OS.mk _ _ _ _ _ _ = OS.mk _ _ _ _ _ _
                show OS.mk _ _ _ (setS (sdOf x2.bz) t (n, o, Z.hold * m.n)) _ _ = OS.mk _ _ _ (sdOf _) _ _
                rw [← emo]
                rfl
        · subst hσ
          rw [List.length_map, List.take_length] at hno
          refine ⟨⟨_, _, _, _, _, _, rfl⟩, y, Ry.to L4, ?_⟩
          rw [ey]
          congr 1
          unfold RS.begin'
          rcases hno with z | z
          · rw [if_pos z]
          · split
            · rfl
            · unfold RS.begin
              rw [eqx, List.find?_eq_none.mpr fun n hn => by rw [z n hn]; decide]
      · subst hσ
        rw [List.length_map, List.take_length] at ey
        exact ⟨⟨_, _, _, _, _, _, rfl⟩, y, Ry, ey⟩
    rintro σ' H2 ⟨⟨a1, a2, a3, a4, a5, a6, rfl⟩, y, Ry, ey⟩
    have I3 : RInv Z.ts (Z.ts.foldl (RS.begin' Z.ts Z.lp Z.hold) x1) := fold_inv _ _ (fun t ht x hx => hx.begin' ndt h1 ht) I2
    have hq : ∀ y' H', OR K B H' ow Z y' → y'.pu = ownOf { Z.ts.foldl (RS.begin' Z.ts Z.lp Z.hold) x1 with fog := Z.ts.foldl fogStep (Z.ts.foldl (RS.begin' Z.ts Z.lp Z.hold) x1).fog } → Q .non H' := hq
    generalize Z.ts.foldl (RS.begin' Z.ts Z.lp Z.hold) x1 = x2 at hq ey I3
    have efog : y.fog = x2.fog := congrArg OS.fog ey
    have F3 := I3.fog
    have eff := fog_fold F3 ndt
    have ndf : (((y.fog.filter fun p => decide (1 < p.2)).map fun p => (p.1, p.2 - 1)).map (·.1)).Nodup := by
      rw [efog, ← eff]
      exact (FogOk.steps Z.ts _ F3).nd
    have lf : y.fog.length ≤ 100000 := by
      have := nodup_sub F3.nd F3.k
      rw [List.length_map] at this
      rw [efog]
      omega
    have ndy : (y.fog.map (·.1)).Nodup := by rw [efog]; exact F3.nd
    refine ⟨y.fo, _, Ry.atFo, trivial, fun od => ?_⟩
    have TL := tabs_lock (o := od) Ry.tab Ry.atFo trivial
    have hO1 := at_lock (o := od) (u := .dK (ents V.int y.fog)) Ry.atO Ry.ow_ne.1
    have gO : ∀ {H4 : Hp}, Le (T K) (upd H2 y.fo (.frz od (.dK (ents V.int y.fog)))) H4 → DGet H4 ow (.str "fog") (some (.ref y.fo)) := fun L => DGet.k (k := Sum.inr "fog") (L.at hO1)
    refine ⟨_, rfl, ow, _, rfl, gO (Le.refl TL), y.fo, od, rfl, .inl ⟨_, upd_same, fun D hD => ?_⟩⟩
    refine lc_pairs (K := K) (TT := T K) (xs := y.fog) (f := fun p => V.str p.1) (fun p => decide (1 < p.2)) (fun p => [.str p.1, .int (p.2 - 1)]) (walksVK upd_same) TL hD lf (fun p hp H3 Y N L3 hY hN => ⟨rfl, ?_⟩) (fun H3 P L3 h3 hP eP => ?_)
    · have dp : DGet H3 y.fo (.str p.1) (some (.int p.2)) := dget_rd (f := V.int) (.inr ⟨od, L3.at upd_same⟩) (look_of ndy hp)
      refine ⟨_, rfl, ow, _, rfl, gO L3, _, rfl, y.fo, _, rfl, dp, _, _, rfl, rfl, _, rfl, ?_⟩
      by_cases c : 1 < p.2
      · exact iteDT c ⟨_, rfl, _, rfl, ow, _, rfl, gO L3, _, rfl, y.fo, _, rfl, dp, _, _, rfl, rfl, by show 2 ≤ sizeLine; decide, fun q hq => hY _ q (Le.refl L3.tab) hq (decide_eq_true c)⟩
      · exact iteDF c (hN _ (Le.refl L3.tab) (decide_eq_false c))
    · have L4 : Le (T K) H2 (upd H3 y.fo (.dK (ents V.int y.fog))) := Le.unlock Ry.atFo trivial L3
      have hD4 : upd H3 y.fo (.dK (ents V.int y.fog)) D = some (.lst (P.map rf)) := (upd_ne (fun z : D = y.fo => by rw [z, upd_same] at hD; cases hD)).trans h3
      have hP4 : ∀ q ∈ P, upd H3 y.fo (.dK (ents V.int y.fog)) q.1 = some (.tup [.str q.2.1, .int (q.2.2 - 1)]) := fun q hq => (upd_ne (fun z => by
        have := hP q hq
        rw [z, L3.at upd_same] at this
        cases this)).trans (hP q hq)
      refine ⟨L3.at upd_same, ?_⟩
      generalize upd H3 y.fo (.dK (ents V.int y.fog)) = H4 at L4 hD4 hP4 ⊢
      have pe := paired_ents (K := K) (H := H4) (f := V.int) (c := fun x : Str × Int => (x.1, x.2 - 1)) hP4
      have ePc : (P.map fun q => ((q.2.1, q.2.2 - 1) : Str × Int)) = (y.fog.filter fun p => decide (1 < p.2)).map fun p => (p.1, p.2 - 1) := by
        rw [← eP, List.map_map]
        rfl
      rw [ePc] at pe
      generalize hfn : ((y.fog.filter fun p => decide (1 < p.2)).map fun p => ((p.1, p.2 - 1) : Str × Int)) = fn at pe ndf ePc
      refine ⟨D, P.map (fun q : Addr × Str × Int => q.1), ents V.int fn, rfl, SqL.of (by rw [List.map_map]; exact hD4), pe, fun p hp => ?_⟩
      rw [merge0 ndf]
      have R4 := Ry.to L4
      have hf := R4.fresh hp
      have hB := R4.le.no _ hp
      have R5 := R4.new (o := .dK (ents V.int fn)) hp
      have R6 := R5.fogN (p := p) (f := fn) upd_same hB hf
      refine ⟨_, rfl, ow, _, rfl, DPut.k (k := Sum.inr "fog") R5.atO (by show 9 < sizeLine; decide), hq _ _ R6 ?_⟩
      rw [eff, ← efog, hfn]
      show ({ y.pu with fog := fn } : OS) = _
      rw [ey]
      rfl

end
end K6

-- text K6W
set_option maxRecDepth 100000
set_option maxHeartbeats 4000000
namespace K6
open PySem PySem.Spec PyProof.Rows L2 LamX GX
section
variable {P : Program} {w : World} {K : PySem.W.Frag} {mg : Str → Option Value} {base : Heap}
/-! ### the law's where -/
theorem sendN_sd (n : Str) : ∀ bz : SD Bz, sendN bz n = ((sdOf bz).filter fun p => decide (p.2.1 = n)).map (·.1)
  | [] => rfl
  | (t, k, o, l) :: r => by
    have ih := sendN_sd n r
    unfold sendN at ih ⊢
    cases o with
    | none =>
      rw [List.filter_cons_of_neg (by simp)]
      exact ih
    | some o =>
      show _ = (((t, k, o, l) :: sdOf r).filter _).map (·.1)
      by_cases c : k = n
      · rw [List.filter_cons_of_pos (by simpa using c), List.filter_cons_of_pos (by simpa using c), List.map_cons, List.map_cons, ih]
      · rw [List.filter_cons_of_neg (by simp [c]), List.filter_cons_of_neg (by simpa using c), ih]
def spLWhere (K : PySem.W.Frag) : Sp := fun vs H Q E => ∃ B ow Z y x n m u, vs = [.ref ow, .str n] ∧ OR K B H ow Z y ∧ y.pu = ownOf x ∧ RInv Z.ts x ∧ look x.ms n = some m ∧ whereP Z.ts x n = some u ∧
  (∀ H' p, Le (T K) H H' → H' p = some (.tup [.str u.1, .str u.2]) → Q (.ref p) H')
theorem ok_lwhere (C : Ctx K mg base) : CalX P w K mg base 1 "_law_where" ["own", "name"] (spLWhere K) := by
  obtain ⟨fd, F⟩ := C.d.d_l_where
  refine ⟨_, fd, ?_, F.funD.bindsN fun _ _ _ _ _ _ us hl => (match us, hl with | [_, _], _ => rfl), F.kp, C.t.m_l_where⟩
  refine F.ok sc_l_where (fun vs H Q E h => ?_) (fun A outer s H vs Q E hr h => ?_)
  · obtain ⟨B, ow, Z, y, x, n, m, u, rfl, _⟩ := h
    rfl
  · obtain ⟨B, ow, Z, y, x, n, m, u, rfl, R, ey, I, hm, hu, hq⟩ := h
    have nn := sc_l_where.nd
    have hv := hu_of hr
    refine ⟨_, pss_cons (ps_if (pt_cmpR op_eq (pe_ix ix_list (pe_dget hv (pe_dget hv (pv 0) pe_str (fun _ _ => rfl)) (pv 1) (fun _ _ => rfl)) pe_int (fun _ _ => rfl)) pe_str (nomark _))
        (pss_one (ps_ret (pe_tup (pa_cons pe_str (pa_cons (pe_ix ix_list (pe_dget hv (pe_dget hv (pv 0) pe_str (fun _ _ => rfl)) (pv 1) (fun _ _ => rfl)) pe_int (fun _ _ => rfl)) pa_nil))))) pss_nil)
      (pss_cons (ps_for ownsA rfl (pi_list (pe_dget hv (pv 0) pe_str (fun _ _ => rfl))) (pg_name (i := 2) nn rfl (by first | exact Or.inl rfl | exact Or.inr rfl))
        (pss_one (ps_if (pt_cmpR op_in_seq (pv 1) (pe_dget hv (pe_dget hv (pv 0) pe_str (fun _ _ => rfl)) (pv 2) (fun _ _ => rfl)) rfl) (pss_one (ps_ret (pe_tup (pa_cons pe_str (pa_cons (pv 2) pa_nil))))) pss_nil)))
      (pss_one (ps_ret (pe_tup (pa_cons pe_str (pa_cons (pe_ix ix_list (pe_lock (pe_lc (own := [("tower", 2)]) (g := gName 2) rfl nn (pi_keys (pe_dget hv (pv 0) pe_str (fun _ _ => rfl))) (blkOk_by (N := n_l_where) (sc := defScope s_l_where) (by decide +kernel))
          (fun _ _ _ _ _ => (pg_name (i := 2) nn rfl (by first | exact Or.inl rfl | exact Or.inr rfl))) (fun _ _ _ _ _ => pts_one (pt_cmpR op_eq (pe_ix (r := rIxT K) ix_tup (pe_dget hv (pe_dget hv (pv 0) pe_str (fun _ _ => rfl)) (pv 2) (fun _ _ => rfl)) pe_int (fun _ _ => rfl)) (pv 1) (nomark _))) (fun _ _ _ _ _ => pv 2))) pe_int (fun _ _ => rfl)) pa_nil)))))), ?_⟩
    have z2 : y.pu.ms = x.ms := congrArg OS.ms ey
    have z3 : y.pu.qu = x.qu := congrArg OS.qu ey
    have esd : y.pu.sd = sdOf x.bz := congrArg OS.sd ey
    obtain ⟨ma, hma⟩ := look_un (cs := y.ms) (n := n) (v := m) (by rw [← ol_ms, z2]; exact hm)
    have dm : DGet H y.me (.str n) (some (.ref ma)) := by
      have := DGet.k (k := Sum.inr n) R.atMe
      rwa [valV_ents, hma] at this
    have am := R.atMs (look_in hma)
    have ew : whereP Z.ts x n = if m.th = true then some (("there" : Str), m.e) else
        match Z.ts.find? fun t => decide (n ∈ qOf x.qu t) with
        | some t => some (("waits" : Str), t)
        | none => match sendN x.bz n with
          | s :: _ => some (("sent" : Str), s)
          | [] => none := by
      unfold whereP
      rw [hm]
      try rfl
    rw [ew] at hu
    refine ⟨_, rfl, ow, _, rfl, R.get "messages" _ rfl, _, rfl, y.me, _, rfl, dm, ma, _, _, _, rfl, rfl, SqL.of am, atI_nat (j := 4) rfl, rfl, _, rfl, ?_⟩
    cases hth : m.th with
    | true =>
      rw [hth, if_pos rfl] at hu
      obtain rfl := Option.some.inj hu
      refine iteDT rfl ?_
      exact ⟨_, rfl, ow, _, rfl, R.get "messages" _ rfl, _, rfl, y.me, _, rfl, dm, ma, _, _, _, rfl, rfl, SqL.of am, atI_nat (j := 1) rfl, by show 2 ≤ sizeLine; decide, fun p hp => hq _ p ((Le.refl R.tab).new hp) upd_same⟩
    | false =>
    rw [hth, if_neg (by decide)] at hu
    refine iteDF (fun z => absurd (V.str.inj z) (by decide)) ?_
    refine ⟨_, rfl, ow, _, rfl, R.get "towers" _ rfl, Z.tw, rfl, ⟨_, SqL.of R.st.tw⟩, ?_⟩
    refine for_list (xs := Z.ts.map V.str) (fun i σ H' => (∃ a2, σ = [some (.ref ow), some (.str n), a2]) ∧ H' = H ∧ ∀ t ∈ Z.ts.take i, decide (n ∈ qOf x.qu t) = false)
      ⟨⟨_, rfl⟩, rfl, fun t ht => absurd ht List.not_mem_nil⟩ (fun i σ H' _ hP => by rw [hP.2.1]; exact SqL.of R.st.tw) (fun i v σ H1 hv ⟨⟨a2, hσ⟩, h1, hnt⟩ => ?_) (fun σ H1 ⟨⟨a2, hσ⟩, h1, hnt⟩ => ?_)
    · subst hσ
      subst h1
      obtain ⟨t, ht, rfl⟩ := GX.get_map hv
      obtain ⟨q, hqx⟩ := I.q (List.mem_of_getElem? ht)
      obtain ⟨ca, hqt⟩ := look_un (cs := y.qu) (n := t) (v := q) (by rw [← ol_qu, z3]; exact hqx)
      have eq : qOf x.qu t = q := by unfold qOf; rw [hqx]; rfl
      have dq : DGet H1 y.qs (.str t) (some (.ref ca)) := by
        have := DGet.k (k := Sum.inr t) R.atQs
        rwa [valV_ents, hqt] at this
      refine ⟨_, rfl, _, rfl, ow, _, rfl, R.get "queues" _ rfl, _, rfl, y.qs, _, rfl, dq, ca, _, rfl, .inl (SqL.of (R.atQu (look_in hqt))), rfl, flat_strs' q, _, rfl, ?_⟩
      show (if inV (.str n) (q.map V.str) = true then _ else _)
      rw [inV_strs]
      by_cases c : n ∈ q
      · refine iteDT c ⟨_, rfl, by show 2 ≤ sizeLine; decide, fun p hp => ?_⟩
        rw [find_at ht hnt (by rw [eq]; exact decide_eq_true c)] at hu
        obtain rfl := Option.some.inj hu
        exact hq _ p ((Le.refl R.tab).new hp) upd_same
      · refine iteDF c ⟨⟨_, rfl⟩, rfl, fun y hy => ?_⟩
        rw [GX.take_snoc ht] at hy
        rcases List.mem_append.mp hy with hy | hy
        · exact hnt y hy
        · rw [List.mem_singleton.mp hy, eq]; exact decide_eq_false c
    · subst hσ
      subst h1
      rw [List.length_map, List.take_length] at hnt
      rw [List.find?_eq_none.mpr fun y hy => by rw [hnt y hy]; decide] at hu
      have hu : (match sendN x.bz n with | s :: _ => some (("sent" : Str), s) | [] => none) = some u := hu
      have ndS : (y.sd.map (·.1)).Nodup := by
        rw [← drop1_keys]
        show (y.pu.sd.map (·.1)).Nodup
        rw [esd, sdOf_keys]
        exact (List.nodup_append.mp I.bz.sn).1
      have lsd : y.sd.length ≤ 100000 := by
        have h1 := nodup_sub ndS (m := Z.ts) fun k hk => by
          rw [← drop1_keys] at hk
          have hk : k ∈ y.pu.sd.map (·.1) := hk
          rw [esd, sdOf_keys] at hk
          exact I.bt k (I.bz.pm.mem_iff.mpr (List.mem_append_left _ hk))
        rw [List.length_map] at h1
        have := R.st.l60
        omega
      refine ⟨y.se, _, R.atSe, trivial, fun od => ?_⟩
      have TL := tabs_lock (o := od) R.tab R.atSe trivial
      have hO1 := at_lock (o := od) (u := .dK (ents rf y.sd)) R.atO R.ow_ne.2
      have gO : ∀ {H4 : Hp}, Le (T K) (upd H1 y.se (.frz od (.dK (ents rf y.sd)))) H4 → DGet H4 ow (.str "sends") (some (.ref y.se)) := fun L => DGet.k (k := Sum.inr "sends") (L.at hO1)
      have ht1 : ∀ p ∈ y.sd, upd H1 y.se (.frz od (.dK (ents rf y.sd))) p.2.1 = some (.tup (sdV p.2.2)) := fun p hp => at_lock (R.sdt p hp) fun z => by
        have := R.sdt p hp
        rw [z, R.atSe] at this
        cases this
      refine ⟨_, rfl, ow, _, rfl, gO (Le.refl TL), y.se, od, rfl, .inl ⟨_, upd_same, fun D hD => ?_⟩⟩
      refine lc_pick (K := K) (T := T K) (xs := y.sd) (f := fun p => V.str p.1) (fun p => decide (p.2.2.1 = n)) (fun p => V.str p.1) (walksVK upd_same) TL hD lsd (fun p hp H3 Y N L3 hY hN => ⟨rfl, ?_⟩) (fun H3 L3 h3 => ?_)
      · refine ⟨_, rfl, ow, _, rfl, gO L3, _, rfl, y.se, _, rfl, dget_rd (f := rf) (.inr ⟨od, L3.at upd_same⟩) (look_of ndS hp), p.2.1, _, _, _, rfl, rfl, SqT.of (L3.at (ht1 p hp)), atI_nat (j := 0) rfl, _, rfl, rfl, _, rfl, ?_⟩
        by_cases c : p.2.2.1 = n
        · exact iteDT (congrArg V.str c) ⟨_, rfl, hY _ (Le.refl L3.tab) (decide_eq_true c)⟩
        · exact iteDF (fun z => c (V.str.inj z)) (hN _ (Le.refl L3.tab) (decide_eq_false c))
      · have L4 : Le (T K) H1 (upd H3 y.se (.dK (ents rf y.sd))) := Le.unlock R.atSe trivial L3
        have hD4 := (upd_ne (o := .dK (ents rf y.sd)) (fun z : D = y.se => by rw [z, upd_same] at hD; cases hD)).trans h3
        refine ⟨L3.at upd_same, ?_⟩
        generalize upd H3 y.se (.dK (ents rf y.sd)) = H4 at L4 hD4 ⊢
        have es : sendN x.bz n = (y.sd.filter fun p => decide (p.2.2.1 = n)).map (·.1) := by
          rw [sendN_sd, ← esd]
          show (((y.sd.map fun p => (p.1, p.2.2)).filter _)).map _ = _
          rw [List.filter_map, List.map_map]
          rfl
        rw [es] at hu
        cases hS : (y.sd.filter fun p => decide (p.2.2.1 = n)) with
        | nil => rw [hS] at hu; cases hu
        | cons s0 rest =>
          rw [hS] at hu hD4
          obtain rfl : (("sent" : Str), s0.1) = u := Option.some.inj hu
          exact ⟨D, _, _, _, rfl, rfl, SqL.of hD4, atI_nat (j := 0) rfl, by show 2 ≤ sizeLine; decide, fun p hp => hq _ p (L4.new hp) upd_same⟩
end
end K6

-- text K6X
set_option maxRecDepth 100000
set_option maxHeartbeats 4000000
namespace K6
open PySem PySem.Spec PyProof.Rows L2 LamX GX
section
variable {P : Program} {w : World} {K : PySem.W.Frag} {mg : Str → Option Value} {base : Heap}
/-! ### both relays on one heap -/
abbrev rcs (K : PySem.W.Frag) (r dx : Addr) (Z : Sta) (x : RA) : List Addr := (cells K r dx Z x).map (·.1)
abbrev ocs (ow : Addr) (Z : Sta) (y : OA) : List Addr := (oc ow Z y).map (·.1)
theorem hid_none {H : Hp} {l : List Addr} {a : Addr} (h : hid H l a = none) : a ∈ l ∨ H a = none := by
  by_cases c : a ∈ l
  · exact .inl c
  · refine .inr ?_
    cases e : H a with
    | none => rfl
    | some u => rw [hid_at e c] at h; cases h
theorem Rel.max {B H : Hp} {r dx : Addr} {Z : Sta} {x : RA} (h : Rel K B H r dx Z x) : Rel K (hid H (rcs K r dx Z x)) H r dx Z x := by
  have out : ∀ {a : Addr} {u : HO}, B a = some u → a ∉ rcs K r dx Z x := fun hb z => by
    obtain ⟨c, hc, e⟩ := List.mem_map.mp z
    have := h.no c hc
    rw [e, hb] at this
    cases this
  have S := h.sta
  have S2 := h.st
  exact ⟨hid_le h.tab, h.nd, h.at_, fun c hc => hid_no (List.mem_map.mpr ⟨c, hc, rfl⟩), h.bzt, h.rwt, ⟨hid_at S2.tw (out S.tw), hid_at S2.lk (out S.lk), fun y hy => hid_at (S2.lt y hy) (out (S.lt y hy)), S.nd, S.ok, S.lok, S.l60, S.ll⟩⟩
theorem OR.max {B H : Hp} {ow : Addr} {Z : Sta} {y : OA} (h : OR K B H ow Z y) : OR K (hid H (ocs ow Z y)) H ow Z y := by
  have out : ∀ {a : Addr} {u : HO}, B a = some u → a ∉ ocs ow Z y := fun hb z => by
    obtain ⟨c, hc, e⟩ := List.mem_map.mp z
    have := h.o.no c hc
    rw [e, hb] at this
    cases this
  have S := h.sta
  have S2 := h.st
  exact ⟨⟨hid_le h.tab, h.o.nd, h.o.at_, fun c hc => hid_no (List.mem_map.mpr ⟨c, hc, rfl⟩)⟩, h.sdt, h.rwt, ⟨hid_at S2.tw (out S.tw), hid_at S2.lk (out S.lk), fun y hy => hid_at (S2.lt y hy) (out (S.lt y hy)), S.nd, S.ok, S.lok, S.l60, S.ll⟩⟩
structure Both (K : PySem.W.Frag) (G H : Hp) (r dx : Addr) (Z : Sta) (x : RA) (ow : Addr) (Zo : Sta) (y : OA) : Prop where
  rel : Rel K (hid H (rcs K r dx Z x)) H r dx Z x
  own : OR K (hid H (ocs ow Zo y)) H ow Zo y
  dj : ∀ a ∈ rcs K r dx Z x, a ∉ ocs ow Zo y
  le : Le (T K) G H
  gr : ∀ a ∈ rcs K r dx Z x, G a = none
  go : ∀ a ∈ ocs ow Zo y, G a = none
  so : OStaOk G Zo
  sr : StaOk G Z
section
variable {G H H' : Hp} {r dx : Addr} {Z : Sta} {x x' : RA} {ow : Addr} {Zo : Sta} {y y' : OA}
/-- the relay has done something -/
theorem Both.relay (h : Both K G H r dx Z x ow Zo y) (R : Rel K (hid H (rcs K r dx Z x)) H' r dx Z x') : Both K G H' r dx Z x' ow Zo y := by
  have k : ∀ {a : Addr} {u : HO}, H a = some u → a ∉ rcs K r dx Z x → hid H (rcs K r dx Z x) a = some u := fun ha hn => hid_at ha hn
  have tupk : ∀ {a : Addr} {xs : List V}, H a = some (.tup xs) → H' a = some (.tup xs) := fun {a xs} ha => R.le.at (hid_at ha fun z => by
    obtain ⟨c, hc, e⟩ := List.mem_map.mp z
    have := h.rel.at_ c hc
    rw [e, ha] at this
    exact (cells_plain c hc).2 _ (Option.some.inj this).symm)
  have LG : Le (T K) G H' := (h.le.hid (fun a ha => h.gr a ha) (fun a ha u hu => by
    obtain ⟨c, hc, e⟩ := List.mem_map.mp ha
    have := h.rel.at_ c hc
    rw [e, hu] at this
    rw [Option.some.inj this]
    exact (cells_plain c hc).1)).trans R.le
  have own' : OR K (hid H' (ocs ow Zo y)) H' ow Zo y := by
    have a1 : ∀ c ∈ oc ow Zo y, H' c.1 = some c.2 := fun c hc => R.le.ext _ _ (k (h.own.o.at_ c hc) fun z => h.dj _ z (List.mem_map.mpr ⟨c, hc, rfl⟩)) (fun ps z => by have := (oc_plain c hc).1; rw [z] at this; exact this)
    have out : ∀ {a : Addr} {u : HO}, G a = some u → a ∉ ocs ow Zo y := fun hb z => by rw [h.go _ z] at hb; cases hb
    have S2 := h.so.to LG
    exact ⟨⟨hid_le R.tab, h.own.o.nd, a1, fun c hc => hid_no (List.mem_map.mpr ⟨c, hc, rfl⟩)⟩, fun q hq => tupk (h.own.sdt q hq), fun q hq => tupk (h.own.rwt q hq), ⟨hid_at S2.tw (out h.so.tw), hid_at S2.lk (out h.so.lk), fun y hy => hid_at (S2.lt y hy) (out (h.so.lt y hy)), S2.nd, S2.ok, S2.lok, S2.l60, S2.ll⟩⟩
  refine ⟨R.max, own', fun a ha z => ?_, LG, fun a ha => ?_, h.go, h.so, h.sr⟩
  · obtain ⟨c, hc, e⟩ := List.mem_map.mp ha
    have h1 := R.no c hc
    rw [e] at h1
    obtain ⟨d, hd, e2⟩ := List.mem_map.mp z
    have h2 := h.own.o.at_ d hd
    rw [e2] at h2
    rcases hid_none h1 with h3 | h3
    · exact h.dj a h3 z
    · rw [h3] at h2; cases h2
  · obtain ⟨c, hc, e⟩ := List.mem_map.mp ha
    have h1 := R.no c hc
    rw [e] at h1
    rcases hid_none h1 with h3 | h3
    · exact h.gr a h3
    · exact h.le.no a h3
/-- the law's table has changed -/
theorem Both.table (h : Both K G H r dx Z x ow Zo y) (R : OR K (hid H (ocs ow Zo y)) H' ow Zo y') : Both K G H' r dx Z x ow Zo y' := by
  have tupk : ∀ {a : Addr} {xs : List V}, H a = some (.tup xs) → H' a = some (.tup xs) := fun {a xs} ha => R.le.at (hid_at ha fun z => by
    obtain ⟨c, hc, e⟩ := List.mem_map.mp z
    have := h.own.o.at_ c hc
    rw [e, ha] at this
    exact (oc_plain c hc).2 _ (Option.some.inj this).symm)
  have LG : Le (T K) G H' := (h.le.hid (fun a ha => h.go a ha) (fun a ha u hu => by
    obtain ⟨c, hc, e⟩ := List.mem_map.mp ha
    have := h.own.o.at_ c hc
    rw [e, hu] at this
    rw [Option.some.inj this]
    exact (oc_plain c hc).1)).trans R.le
  have rel' : Rel K (hid H' (rcs K r dx Z x)) H' r dx Z x := by
    have a1 : ∀ c ∈ cells K r dx Z x, H' c.1 = some c.2 := fun c hc => R.le.ext _ _ (hid_at (h.rel.at_ c hc) fun z => h.dj _ (List.mem_map.mpr ⟨c, hc, rfl⟩) z) (fun ps z => by have := (cells_plain c hc).1; rw [z] at this; exact this)
    have out : ∀ {a : Addr} {u : HO}, G a = some u → a ∉ rcs K r dx Z x := fun hb z => by rw [h.gr _ z] at hb; cases hb
    have S2 := h.sr.to LG
    exact ⟨hid_le R.tab, h.rel.nd, a1, fun c hc => hid_no (List.mem_map.mpr ⟨c, hc, rfl⟩), fun q hq => tupk (h.rel.bzt q hq), fun q hq => tupk (h.rel.rwt q hq), ⟨hid_at S2.tw (out h.sr.tw), hid_at S2.lk (out h.sr.lk), fun y hy => hid_at (S2.lt y hy) (out (h.sr.lt y hy)), S2.nd, S2.ok, S2.lok, S2.l60, S2.ll⟩⟩
  refine ⟨rel', R.max, fun a ha z => ?_, LG, h.gr, fun a ha => ?_, h.so, h.sr⟩
  · obtain ⟨c, hc, e⟩ := List.mem_map.mp z
    have h1 := R.o.no c hc
    rw [e] at h1
    obtain ⟨d, hd, e2⟩ := List.mem_map.mp ha
    have h2 := h.rel.at_ d hd
    rw [e2] at h2
    rcases hid_none h1 with h3 | h3
    · exact h.dj a ha h3
    · rw [h3] at h2; cases h2
  · obtain ⟨c, hc, e⟩ := List.mem_map.mp ha
    have h1 := R.o.no c hc
    rw [e] at h1
    rcases hid_none h1 with h3 | h3
    · exact h.go a h3
    · exact h.le.no a h3
/-- nothing of both has changed -/
theorem Both.to (h : Both K G H r dx Z x ow Zo y) (l : Le (T K) H H') : Both K G H' r dx Z x ow Zo y := ⟨(h.rel.to l).max, (h.own.to l).max, h.dj, h.le.trans l, h.gr, h.go, h.so, h.sr⟩
end
end
end K6

-- text K6Y
set_option maxRecDepth 100000
set_option maxHeartbeats 4000000
namespace K6
open PySem PySem.Spec PyProof.Rows L2 LamX GX
section
variable {P : Program} {w : World} {K : PySem.W.Frag} {mg : Str → Option Value} {base : Heap}
/-! ### both relays and the dice -/
structure BothD (K : PySem.W.Frag) (G H : Hp) (d r dx : Addr) (Z : Sta) (x : RA) (ow : Addr) (Zo : Sta) (y : OA) : Prop where
  b : Both K G H r dx Z x ow Zo y
  nr : d ∉ rcs K r dx Z x
  no : d ∉ ocs ow Zo y
  gd : G d = none
  dice : ∃ a b c, H d = some (dV a b c)
section
variable {G H H' : Hp} {d r dx : Addr} {Z : Sta} {x x' : RA} {ow : Addr} {Zo : Sta} {y y' : OA}
theorem BothD.roll (h : BothD K G H d r dx Z x ow Zo y) (a b c : Int) : BothD K G (upd H d (dV a b c)) d r dx Z x ow Zo y := by
  obtain ⟨a0, b0, c0, hd⟩ := h.dice
  have B := h.b
  have tup : ∀ {q : Addr} {xs : List V}, H q = some (.tup xs) → upd H d (dV a b c) q = some (.tup xs) := fun {q xs} hq => (upd_ne (fun z => by rw [z, hd] at hq; cases hq)).trans hq
  have LG : Le (T K) G (upd H d (dV a b c)) := B.le.set h.gd hd
  have outr : ∀ {q : Addr} {u : HO}, G q = some u → q ∉ rcs K r dx Z x := fun hb z => by rw [B.gr _ z] at hb; cases hb
  have outo : ∀ {q : Addr} {u : HO}, G q = some u → q ∉ ocs ow Zo y := fun hb z => by rw [B.go _ z] at hb; cases hb
  have S1 := B.sr.to LG
  have S2 := B.so.to LG
  refine ⟨⟨⟨hid_le LG.tab, B.rel.nd, fun e he => (upd_ne (fun z : e.1 = d => h.nr (List.mem_map.mpr ⟨e, he, z⟩))).trans (B.rel.at_ e he), fun e he => hid_no (List.mem_map.mpr ⟨e, he, rfl⟩), fun q hq => tup (B.rel.bzt q hq), fun q hq => tup (B.rel.rwt q hq), ⟨hid_at S1.tw (outr B.sr.tw), hid_at S1.lk (outr B.sr.lk), fun q hq => hid_at (S1.lt q hq) (outr (B.sr.lt q hq)), S1.nd, S1.ok, S1.lok, S1.l60, S1.ll⟩⟩,
    ⟨⟨hid_le LG.tab, B.own.o.nd, fun e he => (upd_ne (fun z : e.1 = d => h.no (List.mem_map.mpr ⟨e, he, z⟩))).trans (B.own.o.at_ e he), fun e he => hid_no (List.mem_map.mpr ⟨e, he, rfl⟩)⟩, fun q hq => tup (B.own.sdt q hq), fun q hq => tup (B.own.rwt q hq), ⟨hid_at S2.tw (outo B.so.tw), hid_at S2.lk (outo B.so.lk), fun q hq => hid_at (S2.lt q hq) (outo (B.so.lt q hq)), S2.nd, S2.ok, S2.lok, S2.l60, S2.ll⟩⟩,
    B.dj, LG, B.gr, B.go, B.so, B.sr⟩, h.nr, h.no, h.gd, a, b, c, upd_same⟩
theorem BothD.to (h : BothD K G H d r dx Z x ow Zo y) (l : Le (T K) H H') : BothD K G H' d r dx Z x ow Zo y := by
  obtain ⟨a, b, c, hd⟩ := h.dice
  exact ⟨h.b.to l, h.nr, h.no, h.gd, a, b, c, l.at hd⟩
theorem BothD.relay (h : BothD K G H d r dx Z x ow Zo y) (R : Rel K (hid H (rcs K r dx Z x)) H' r dx Z x') : BothD K G H' d r dx Z x' ow Zo y := by
  obtain ⟨a, b, c, hd⟩ := h.dice
  have hd2 : hid H (rcs K r dx Z x) d = some (dV a b c) := hid_at hd h.nr
  refine ⟨h.b.relay R, fun z => ?_, h.no, h.gd, a, b, c, R.le.at hd2⟩
  obtain ⟨e, he, e1⟩ := List.mem_map.mp z
  have := R.no e he
  rw [e1, hd2] at this
  cases this
theorem BothD.table (h : BothD K G H d r dx Z x ow Zo y) (R : OR K (hid H (ocs ow Zo y)) H' ow Zo y') : BothD K G H' d r dx Z x ow Zo y' := by
  obtain ⟨a, b, c, hd⟩ := h.dice
  have hd2 : hid H (ocs ow Zo y) d = some (dV a b c) := hid_at hd h.no
  refine ⟨h.b.table R, h.nr, fun z => ?_, h.gd, a, b, c, R.le.at hd2⟩
  obtain ⟨e, he, e1⟩ := List.mem_map.mp z
  have := R.o.no e he
  rw [e1, hd2] at this
  cases this
end
end
end K6

-- text K6Ta
set_option maxRecDepth 100000
set_option maxHeartbeats 4000000
namespace K6
open PySem PySem.Spec PyProof.Rows L2 LamX GX
section
variable {P : Program} {w : World} {K : PySem.W.Frag} {mg : Str → Option Value} {base : Heap}
/-! ### when messages were given, and when they are there -/
def isGT (w : Str) : Bool := decide (w = "given") || decide (w = "there")
def tms (rw : List Row4) (n : Str) : List (Int × Str) := (rw.filter fun y => decide (y.2.2.2 = n) && isGT y.2.1).map fun y => (y.1, y.2.1)
theorem tms_app (a b : List Row4) (n : Str) : tms (a ++ b) n = tms a n ++ tms b n := by
  unfold tms
  rw [List.filter_append, List.map_append]
theorem tms_off {rw : List Row4} {n : Str} (mi : Int) {w t k : Str} (h : isGT w = false) : tms (rw ++ [(mi, w, t, k)]) n = tms rw n := by
  have : tms [(mi, w, t, k)] n = [] := by
    unfold tms
    rw [List.filter_cons_of_neg (by show ¬ (decide (k = n) && isGT w) = true; rw [h, Bool.and_false]; decide)]
    rfl
  rw [tms_app, this, List.append_nil]
theorem tms_ne {rw : List Row4} {n : Str} (mi : Int) {w t k : Str} (h : k ≠ n) : tms (rw ++ [(mi, w, t, k)]) n = tms rw n := by
  have : tms [(mi, w, t, k)] n = [] := by
    unfold tms
    rw [List.filter_cons_of_neg (by show ¬ (decide (k = n) && isGT w) = true; rw [decide_eq_false h, Bool.false_and]; decide)]
    rfl
  rw [tms_app, this, List.append_nil]
theorem tms_eq {rw : List Row4} {n : Str} (mi : Int) {w t : Str} (h : isGT w = true) : tms (rw ++ [(mi, w, t, n)]) n = tms rw n ++ [(mi, w)] := by
  have : tms [(mi, w, t, n)] n = [(mi, w)] := by
    unfold tms
    rw [List.filter_cons_of_pos (by show (decide (n = n) && isGT w) = true; rw [h, decide_eq_true rfl]; rfl)]
    rfl
  rw [tms_app, this]
abbrev ind (t : Str) (l : List Str) : Int := if t ∈ l then 1 else 0
structure TInv (hold d : Int) (pend : List Str) (x : RS) : Prop where
  no : ∀ n, look x.ms n = none → tms x.rw n = []
  wt : ∀ n m, look x.ms n = some m → m.th = false → ∃ g, tms x.rw n = [(g, ("given" : Str))] ∧ g + d ≤ x.mi ∧ ∀ t o l, (t, n, some o, l) ∈ sends x.bz → 1 + hold * m.n - l + ind t pend ≤ x.mi - g
  dn : ∀ n m, look x.ms n = some m → m.th = true → ∃ g a, tms x.rw n = [(g, ("given" : Str)), (a, ("there" : Str))] ∧ hold * m.n + 1 ≤ a - g
section
variable {ts : List Str} {x x' : RS} {t n o : Str} {l : Int} {ls : List (Str × Str)} {hold d d' : Int} {pend pend' r : List Str}
theorem TInv.moved (h : TInv hold d pend x) (hms : x'.ms = x.ms) (hrw : ∀ n, tms x'.rw n = tms x.rw n) (hmi : x'.mi = x.mi)
    (hs : ∀ t n o l, (t, n, some o, l) ∈ sends x'.bz → (∃ o0 l0, (t, n, some o0, l0) ∈ sends x.bz ∧ ind t pend' - l ≤ ind t pend - l0) ∨ (1 ≤ d ∧ l = hold * nOf x.ms n ∧ t ∉ pend')) : TInv hold d pend' x' := by
  refine ⟨fun n hn => ?_, fun n m hm hth => ?_, fun n m hm hth => ?_⟩
  · rw [hrw]
    rw [hms] at hn
    exact h.no n hn
  · rw [hms] at hm
    obtain ⟨g, h1, h2, h3⟩ := h.wt n m hm hth
    refine ⟨g, by rw [hrw, h1], by rw [hmi]; exact h2, fun t o l hp => ?_⟩
    rw [hmi]
    rcases hs t n o l hp with ⟨o0, l0, h4, h5⟩ | ⟨h4, h5, h6⟩
    · have := h3 t o0 l0 h4
      omega
    · have e : nOf x.ms n = m.n := by unfold nOf; rw [hm]
      rw [e] at h5
      unfold ind
      rw [if_neg h6, h5]
      omega
  · rw [hms] at hm
    rw [hrw]
    exact h.dn n m hm hth
theorem ind_cons (t t' : Str) (r : List Str) : ind t' r ≤ ind t' (t :: r) := by
  unfold ind
  by_cases c : t' ∈ r
  · rw [if_pos c, if_pos (List.mem_cons_of_mem _ c)]; exact Int.le_refl _
  · rw [if_neg c]
    split
    · decide
    · exact Int.le_refl _
theorem TInv.goOn (h : TInv hold d (t :: r) x) (I : RInv ts x) (hr : t ∉ r) : TInv hold d r (x.goOn t) := by
  unfold RS.goOn
  split
  rotate_left
  · exact h.moved rfl (fun _ => rfl) rfl fun t' n o l hp => .inl ⟨o, l, hp, by have := ind_cons t t' r; omega⟩
  rename_i n o l hl
  obtain ⟨a, b, hs, hs', okF, sub⟩ := I.bz.free hl
  have sb : ∀ p ∈ sends (x.free t o).bz, p ∈ sends x.bz := fun p hp => by
    have hp : p ∈ a ++ b := by rw [← hs']; exact hp
    rw [hs]
    rcases List.mem_append.mp hp with z | z
    · exact List.mem_append_left _ z
    · exact List.mem_append_right _ (List.mem_cons_of_mem _ z)
  have hm0 := look_sends hl
  split
  · exact h.moved rfl (fun _ => tms_off _ (by decide)) rfl fun t' n' o' l' hp => .inl ⟨o', l', sb _ hp, by have := ind_cons t t' r; omega⟩
  · split
    · obtain ⟨a', b', k1, k2, k3, k4⟩ := I.bz.less hl (l - 1)
      refine h.moved rfl (fun _ => rfl) rfl fun t' n' o' l' hp => .inl ?_
      have hp : (t', n', some o', l') ∈ a' ++ (t, n, some o, l - 1) :: b' := by rw [← k2]; exact hp
      have i1 := ind_cons t t' r
      rcases List.mem_append.mp hp with z | z
      · exact ⟨o', l', by rw [k1]; exact List.mem_append_left _ z, by omega⟩
      · rcases List.mem_cons.mp z with z | z
        · cases z
          refine ⟨o, l, hm0, ?_⟩
          unfold ind
          rw [if_neg hr, if_pos List.mem_cons_self]
          omega
        · exact ⟨o', l', by rw [k1]; exact List.mem_append_right _ (List.mem_cons_of_mem _ z), by omega⟩
    · rename_i hl1
      split
      · rename_i heo
        have hnp : n ∈ places x := List.mem_append_right _ (List.mem_map.mpr ⟨_, hm0, rfl⟩)
        obtain ⟨m, hm, hth⟩ := I.pm n hnp
        have eth : thMsg x.ms n = setS x.ms n { m with th := true } := by unfold thMsg; rw [hm]
        have lk : ∀ k, look (thMsg x.ms n) k = if k = n then some { m with th := true } else look x.ms k := fun k => by rw [eth, look_setS]
        refine ⟨fun k hk => ?_, fun k m' hk hk2 => ?_, fun k m' hk hk2 => ?_⟩
        · have hk : look (thMsg x.ms n) k = none := hk
          rw [lk] at hk
          by_cases c : k = n
          · rw [if_pos c] at hk; cases hk
          · rw [if_neg c] at hk
            exact (tms_ne _ (Ne.symm c)).trans (h.no k hk)
        · have hk : look (thMsg x.ms n) k = some m' := hk
          rw [lk] at hk
          by_cases c : k = n
          · rw [if_pos c] at hk
            cases hk
            cases hk2
          · rw [if_neg c] at hk
            obtain ⟨g, h1, h2, h3⟩ := h.wt k m' hk hk2
            exact ⟨g, (tms_ne _ (Ne.symm c)).trans h1, h2, fun t' o' l' hp => by
              have := h3 t' o' l' (sb _ hp)
              have := ind_cons t t' r
              show _ ≤ x.mi - g
              omega⟩
        · have hk : look (thMsg x.ms n) k = some m' := hk
          rw [lk] at hk
          by_cases c : k = n
          · rw [if_pos c] at hk
            cases hk
            subst c
            obtain ⟨g, h1, h2, h3⟩ := h.wt k m hm hth
            refine ⟨g, x.mi, (tms_eq _ (by decide)).trans (by
              show tms x.rw k ++ _ = _
              rw [h1]; rfl), ?_⟩
            have h4 := h3 t o l hm0
            unfold ind at h4
            rw [if_pos List.mem_cons_self] at h4
            show hold * m.n + 1 ≤ x.mi - g
            omega
          · rw [if_neg c] at hk
            obtain ⟨g, a, h1, h2⟩ := h.dn k m' hk hk2
            exact ⟨g, a, (tms_ne _ (Ne.symm c)).trans h1, h2⟩
      · exact h.moved rfl (fun _ => tms_off _ (by decide)) rfl fun t' n' o' l' hp => .inl ⟨o', l', sb _ hp, by have := ind_cons t t' r; omega⟩
theorem TInv.goOns (ndt : ts.Nodup) : ∀ (r : List Str) (x : RS), r.Nodup → RInv ts x → TInv hold d r x → TInv hold d [] (r.foldl RS.goOn x)
  | [], x, _, _, h => h
  | t :: r, x, hr, I, h => by
    obtain ⟨h1, h2⟩ := List.nodup_cons.mp hr
    exact TInv.goOns ndt r _ h2 (I.goOn ndt t) (h.goOn I h1)
theorem TInv.begin (h : TInv hold d [] x) (hd : 1 ≤ d) (I : RInv ts x) (ht : t ∈ ts) (hb : inK x.bz t = false) : TInv hold d [] (x.begin ts ls hold t) := by
  unfold RS.begin
  split
  rotate_left
  · exact h
  rename_i n hf
  obtain ⟨q, hq⟩ := I.q ht
  have eq : qOf x.qu t = q := by unfold qOf; rw [hq]; rfl
  rw [eq] at hf ⊢
  have hnq := List.mem_of_find?_eq_some hf
  have hg : (canGo ts ls x t n).isSome = true := by simpa using List.find?_some hf
  obtain ⟨o, ho⟩ := Option.isSome_iff_exists.mp hg
  have hne := I.qe _ (look_in hq) n hnq
  obtain ⟨o1, o2, o3⟩ := canGo_ok ht hne ho
  rw [ho]
  have kt : t ∉ x.bz.map (·.1) := fun z => by rw [inK_iff.mpr z] at hb; cases hb
  have ko : o ∉ x.bz.map (·.1) := fun z => by rw [inK_iff.mpr z] at o3; cases o3
  obtain ⟨k1, k2, k3⟩ := I.bz.more kt ko o2 (n := n) (hold * nOf x.ms n)
  have k1 : setS (setS x.bz t (n, some ((some o).getD ""), hold * nOf x.ms n)) ((some o).getD "") (n, none, 0) = _ := k1
  rw [k1]
  refine h.moved rfl (fun _ => tms_off _ (by decide)) rfl fun t' n' o' l' hp => ?_
  have hp : (t', n', some o', l') ∈ sends (x.bz ++ [(t, n, some o, hold * nOf x.ms n), (o, n, none, 0)]) := hp
  rw [k2] at hp
  rcases List.mem_append.mp hp with z | z
  · exact .inl ⟨o', l', z, by omega⟩
  · have z := List.mem_singleton.mp z
    cases z
    exact .inr ⟨hd, rfl, List.not_mem_nil⟩
theorem TInv.begin' (h : TInv hold d [] x) (hd : 1 ≤ d) (I : RInv ts x) (ht : t ∈ ts) : TInv hold d [] (x.begin' ts ls hold t) := by
  unfold RS.begin'
  split
  · exact h
  · rename_i hb
    exact h.begin hd I ht (by simpa using hb)
theorem TInv.begins (hd : 1 ≤ d) (h1 : 1 ≤ hold) (ndt : ts.Nodup) : ∀ (r : List Str) (x : RS), (∀ t ∈ r, t ∈ ts) → RInv ts x → TInv hold d [] x → TInv hold d [] (r.foldl (RS.begin' ts ls hold) x)
  | [], x, _, _, h => h
  | t :: r, x, hr, I, h => TInv.begins hd h1 ndt r _ (fun t' ht' => hr t' (List.mem_cons_of_mem _ ht')) (I.begin' ndt h1 (hr t List.mem_cons_self)) (h.begin' hd I (hr t List.mem_cons_self))
theorem TInv.withFog (h : TInv hold d pend x) (f : SD Int) : TInv hold d pend { x with fog := f } := ⟨h.no, h.wt, h.dn⟩
theorem TInv.less (h : TInv hold d pend x) (hd : d' ≤ d) : TInv hold d' pend x := ⟨h.no, fun n m hm hth => by
  obtain ⟨g, h1, h2, h3⟩ := h.wt n m hm hth
  exact ⟨g, h1, by omega, h3⟩, h.dn⟩
theorem TInv.minute (h : TInv hold 0 [] x) (ts : List Str) : TInv hold 1 ts { x with mi := x.mi + 1 } := ⟨h.no, fun n m hm hth => by
  obtain ⟨g, h1, h2, h3⟩ := h.wt n m hm hth
  refine ⟨g, h1, by show g + 1 ≤ x.mi + 1; omega, fun t o l hp => ?_⟩
  have h4 := h3 t o l hp
  unfold ind at h4 ⊢
  rw [if_neg List.not_mem_nil] at h4
  show _ ≤ x.mi + 1 - g
  split <;> omega, h.dn⟩
theorem TInv.goMin (h : TInv hold 0 [] x) (I : RInv ts x) (ndt : ts.Nodup) (h1 : 1 ≤ hold) : TInv hold 0 [] (x.goMin ts ls hold) := by
  unfold RS.goMin
  refine TInv.withFog (TInv.less (d := 1) ?_ (by decide)) _
  exact TInv.begins (by decide) h1 ndt ts _ (fun _ z => z) (fold_inv _ _ (fun t ht x hx => hx.goOn ndt t) (I.minute _)) (TInv.goOns ndt ts _ ndt (I.minute _) (h.minute ts))
theorem TInv.new : TInv hold 0 [] (RS.new ts) := ⟨fun _ _ => rfl, fun n m z => (by cases z), fun n m z => (by cases z)⟩
theorem TInv.send (h : TInv hold 0 [] x) (I : RInv ts x) {s e : Str} {k : Int} (u : Bool) (hn : n ∉ x.ms.map (·.1)) : TInv hold 0 [] (x.send n s e k u) := by
  have hnl : look x.ms n = none := look_none hn
  have lk : ∀ j, look (setS x.ms n (⟨s, e, k, u, false⟩ : Msg)) j = if j = n then some ⟨s, e, k, u, false⟩ else look x.ms j := fun j => by rw [look_setS]
  refine ⟨fun j hj => ?_, fun j m hj hth => ?_, fun j m hj hth => ?_⟩
  · have hj : look (setS x.ms n (⟨s, e, k, u, false⟩ : Msg)) j = none := hj
    rw [lk] at hj
    by_cases c : j = n
    · rw [if_pos c] at hj; cases hj
    · rw [if_neg c] at hj
      exact (tms_ne _ (Ne.symm c)).trans (h.no j hj)
  · have hj : look (setS x.ms n (⟨s, e, k, u, false⟩ : Msg)) j = some m := hj
    rw [lk] at hj
    by_cases c : j = n
    · rw [if_pos c] at hj
      cases hj
      subst c
      refine ⟨x.mi, (tms_eq _ (by decide)).trans (by
        show tms x.rw j ++ _ = _
        rw [h.no j hnl]; rfl), by show x.mi + 0 ≤ x.mi; omega, fun t o l hp => ?_⟩
      have hp : (t, j, some o, l) ∈ sends x.bz := hp
      obtain ⟨m, e, _⟩ := I.pm j (List.mem_append_right _ (List.mem_map.mpr ⟨_, hp, rfl⟩))
      rw [hnl] at e
      cases e
    · rw [if_neg c] at hj
      obtain ⟨g, h1, h2, h3⟩ := h.wt j m hj hth
      exact ⟨g, (tms_ne _ (Ne.symm c)).trans h1, h2, h3⟩
  · have hj : look (setS x.ms n (⟨s, e, k, u, false⟩ : Msg)) j = some m := hj
    rw [lk] at hj
    by_cases c : j = n
    · rw [if_pos c] at hj
      cases hj
      cases hth
    · rw [if_neg c] at hj
      obtain ⟨g, a, h1, h2⟩ := h.dn j m hj hth
      exact ⟨g, a, (tms_ne _ (Ne.symm c)).trans h1, h2⟩
end
/-- the rows of one kind -/
theorem mins_tms (rw : List Row4) {w : Str} (hw : isGT w = true) (n : Str) : minsOf rw w n = ((tms rw n).filter fun p => decide (p.2 = w)).map (·.1) := by
  unfold minsOf tms
  rw [List.filter_map, List.filter_filter, List.map_map]
  congr 1
  refine List.filter_congr fun y _ => ?_
  show (decide (y.2.1 = w) && decide (y.2.2.2 = n)) = (decide (y.2.1 = w) && (decide (y.2.2.2 = n) && isGT y.2.1))
  by_cases c : y.2.1 = w
  · rw [c, hw, Bool.and_true]
  · rw [decide_eq_false c, Bool.false_and, Bool.false_and]
end
end K6

-- text K6Tb
set_option maxRecDepth 100000
set_option maxHeartbeats 4000000
namespace K6
open PySem PySem.Spec PyProof.Rows L2 LamX GX
section
variable {P : Program} {w : World} {K : PySem.W.Frag} {mg : Str → Option Value} {base : Heap}
/-! ### the rows' words -/
def mN : List Str := (List.range 12).map fun k : Nat => ("m" : Str) ++ Str.ofString (toString (k : Int))
def wH : List Str := ["given", "sends", "there", "passed", "broken"]
def rowT (ts : List Str) (y : Row4) : Prop := y.2.1 ∈ wH ∧ y.2.2.1 ∈ ts ∧ y.2.2.2 ∈ mN
section
variable {ts : List Str} {x : RS} {t n s e : Str} {ls : List (Str × Str)} {hold k : Int}
theorem rowT.add (h : ∀ y ∈ x.rw, rowT ts y) {w : Str} (hw : w ∈ wH) (ht : t ∈ ts) (hn : n ∈ mN) : ∀ y ∈ (x.row w t n).rw, rowT ts y := fun y hy => by
  rcases List.mem_append.mp (show y ∈ x.rw ++ [((x.mi, w, t, n) : Row4)] from hy) with z | z
  · exact h y z
  · rw [List.mem_singleton.mp z]
    exact ⟨hw, ht, hn⟩
theorem goOn_rows (I : RInv ts x) (hk : ∀ n ∈ x.ms.map (·.1), n ∈ mN) (h : ∀ y ∈ x.rw, rowT ts y) (t : Str) : ∀ y ∈ (x.goOn t).rw, rowT ts y := by
  unfold RS.goOn
  split
  rotate_left
  · exact h
  rename_i n o l hl
  have tt : t ∈ ts := I.bt t (inK_iff.mp (by unfold inK; rw [hl]; rfl))
  obtain ⟨o1, o2, o3⟩ := I.bz.other hl
  have oo : o ∈ ts := I.bt o o2
  obtain ⟨m, hm, _⟩ := I.pm n (List.mem_append_right _ (List.mem_map.mpr ⟨_, look_sends hl, rfl⟩))
  have hn : n ∈ mN := hk n (List.mem_map.mpr ⟨_, look_in hm, rfl⟩)
  split
  · exact rowT.add (x := { x.free t o with qu := setS x.qu t (n :: qOf x.qu t) }) h (by decide) tt hn
  · split
    · exact h
    · split
      · exact rowT.add (x := { x.free t o with ms := thMsg x.ms n }) h (by decide) oo hn
      · exact rowT.add (x := (x.free t o).wait n o) h (by decide) oo hn
theorem begin_rows (I : RInv ts x) (hk : ∀ n ∈ x.ms.map (·.1), n ∈ mN) (h : ∀ y ∈ x.rw, rowT ts y) (ht : t ∈ ts) : ∀ y ∈ (x.begin' ts ls hold t).rw, rowT ts y := by
  unfold RS.begin'
  split
  · exact h
  unfold RS.begin
  split
  rotate_left
  · exact h
  rename_i n hf
  obtain ⟨q, hq⟩ := I.q ht
  have eq : qOf x.qu t = q := by unfold qOf; rw [hq]; rfl
  rw [eq] at hf ⊢
  obtain ⟨m, hm, _⟩ := I.pm n (List.mem_append_left _ (List.mem_flatMap.mpr ⟨_, look_in hq, List.mem_of_find?_eq_some hf⟩))
  have hn : n ∈ mN := hk n (List.mem_map.mpr ⟨_, look_in hm, rfl⟩)
  intro y hy
  rcases List.mem_append.mp (show y ∈ x.rw ++ [((x.mi, "sends", t, n) : Row4)] from hy) with z | z
  · exact h y z
  · rw [List.mem_singleton.mp z]
    exact ⟨(by decide : ("sends" : Str) ∈ wH), ht, hn⟩
theorem goOn_ms (x : RS) (t : Str) : (x.goOn t).ms.map (·.1) = x.ms.map (·.1) := by
  unfold RS.goOn
  split
  · split
    · rfl
    · split
      · rfl
      · split
        · rename_i n o l hl _ _ _
          show (thMsg x.ms n).map (·.1) = _
          unfold thMsg
          split
          · rename_i m hm
            exact keys_old (inK_iff.mp (by unfold inK; rw [hm]; rfl))
          · rfl
        · rfl
  · rfl
theorem begin_ms (ts : List Str) (ls : List (Str × Str)) (hold : Int) (x : RS) (t : Str) : (x.begin' ts ls hold t).ms.map (·.1) = x.ms.map (·.1) := by
  unfold RS.begin'
  split
  · rfl
  · unfold RS.begin
    split <;> rfl
theorem fold_ms {f : RS → Str → RS} (hf : ∀ x t, (f x t).ms.map (·.1) = x.ms.map (·.1)) : ∀ (l : List Str) (x : RS), (l.foldl f x).ms.map (·.1) = x.ms.map (·.1)
  | [], _ => rfl
  | t :: r, x => (fold_ms hf r (f x t)).trans (hf x t)
theorem goOns_rows (ndt : ts.Nodup) : ∀ (r : List Str) (x : RS), RInv ts x → (∀ n ∈ x.ms.map (·.1), n ∈ mN) → (∀ y ∈ x.rw, rowT ts y) → ∀ y ∈ (r.foldl RS.goOn x).rw, rowT ts y
  | [], _, _, _, h => h
  | t :: r, x, I, hk, h => goOns_rows ndt r _ (I.goOn ndt t) (by rw [goOn_ms]; exact hk) (goOn_rows I hk h t)
theorem begins_rows (h1 : 1 ≤ hold) (ndt : ts.Nodup) : ∀ (r : List Str) (x : RS), (∀ t ∈ r, t ∈ ts) → RInv ts x → (∀ n ∈ x.ms.map (·.1), n ∈ mN) → (∀ y ∈ x.rw, rowT ts y) → ∀ y ∈ (r.foldl (RS.begin' ts ls hold) x).rw, rowT ts y
  | [], _, _, _, _, h => h
  | t :: r, x, hr, I, hk, h => begins_rows h1 ndt r _ (fun t' ht' => hr t' (List.mem_cons_of_mem _ ht')) (I.begin' ndt h1 (hr t List.mem_cons_self)) (by rw [begin_ms]; exact hk) (begin_rows I hk h (hr t List.mem_cons_self))
theorem goMin_rows (I : RInv ts x) (ndt : ts.Nodup) (h1 : 1 ≤ hold) (hk : ∀ n ∈ x.ms.map (·.1), n ∈ mN) (h : ∀ y ∈ x.rw, rowT ts y) : ∀ y ∈ (x.goMin ts ls hold).rw, rowT ts y := by
  unfold RS.goMin
  have I0 := I.minute (x.mi + 1)
  have I1 : RInv ts (ts.foldl RS.goOn { x with mi := x.mi + 1 }) := fold_inv _ _ (fun t ht x hx => hx.goOn ndt t) I0
  exact begins_rows h1 ndt ts _ (fun _ z => z) I1 (by rw [fold_ms goOn_ms]; exact hk) (goOns_rows ndt ts _ I0 hk h)
theorem send_rows (h : ∀ y ∈ x.rw, rowT ts y) (u : Bool) (hs : s ∈ ts) (hn : n ∈ mN) : ∀ y ∈ (x.send n s e k u).rw, rowT ts y := by
  unfold RS.send
  exact rowT.add (x := ({ x with ms := setS x.ms n ⟨s, e, k, u, false⟩ } : RS).wait n s) h (by decide) hs hn
end
end
end K6

-- text K6Z
set_option maxRecDepth 100000
set_option maxHeartbeats 4000000
namespace K6
open PySem PySem.Spec PyProof.Rows L2 LamX GX
section
variable {P : Program} {w : World} {K : PySem.W.Frag} {mg : Str → Option Value} {base : Heap}
/-! ### the deed -/
instance {ts : List Str} {ms : SD Msg} {n s e : Str} {k : Int} : Decidable (goodSend ts ms n s e k) := by unfold goodSend; infer_instance
structure Same (Z Zo : Sta) : Prop where
  ts : Zo.ts = Z.ts
  lp : Zo.lp = Z.lp
  hold : Zo.hold = Z.hold
structure DSta (Z : Sta) : Prop where
  h1 : 1 ≤ Z.hold
  h3 : Z.hold ≤ 20
  zz : ("zz" : Str) ∉ Z.ts
  l5 : Z.ts.length ≤ 5
  nd : Z.ts.Nodup
theorem mn_mem (k : Nat) (h : k < 12) : ("m" : Str) ++ Str.ofString (toString (k : Int)) ∈ mN := List.mem_map.mpr ⟨k, List.mem_range.mpr h, rfl⟩
theorem mn_len : ∀ k : Nat, k < 12 → ("m" : Str).length + (Str.ofString (toString (k : Int))).length ≤ 3 := by decide +kernel
theorem mN_ne : ∀ n ∈ mN, n ≠ "" := by decide +kernel
theorem mN_ok : ∀ n ∈ mN, (PyData.str n).canLay0 = true := by decide +kernel
structure DInv (Z : Sta) (x : RS) (b : Nat) : Prop where
  I : RInv Z.ts x
  t : TInv Z.hold 0 [] x
  nm : ∀ n ∈ x.ms.map (·.1), n ∈ mN
  rw : x.rw.length ≤ b
  ro : ∀ y ∈ x.rw, rowT Z.ts y
section
variable {Z : Sta} {x : RS} {b b' : Nat} {n s e t : Str} {k : Int}
theorem DInv.ms12 (h : DInv Z x b) : x.ms.length ≤ 12 := by
  have := nodup_sub h.I.mnd h.nm
  rw [List.length_map] at this
  exact this
theorem DInv.up (h : DInv Z x b) (hb : b ≤ b') : DInv Z x b' := ⟨h.I, h.t, h.nm, Nat.le_trans h.rw hb, h.ro⟩
theorem DInv.send (h : DInv Z x b) (ndt : Z.ts.Nodup) (u : Bool) (g : goodSend Z.ts x.ms n s e k) (hn : n ∈ mN) : DInv Z (x.send n s e k u) (b + 1) := by
  refine ⟨h.I.send ndt u g, h.t.send h.I u g.2.2.1, fun j hj => ?_, ?_, send_rows h.ro u g.1 hn⟩
  · have hj : j ∈ (setS x.ms n (⟨s, e, k, u, false⟩ : Msg)).map (·.1) := hj
    rw [setS_new g.2.2.1, List.map_append] at hj
    rcases List.mem_append.mp hj with z | z
    · exact h.nm j z
    · rw [List.mem_singleton.mp z]; exact hn
  · unfold RS.send
    rw [row_len]
    exact Nat.succ_le_succ h.rw
theorem DInv.fogged (h : DInv Z x b) (ht : t ∈ Z.ts) (m : Int) : DInv Z { x with fog := if 0 < m then setS (delS x.fog t) t m else delS x.fog t } b := ⟨h.I.fogged ht m, h.t.withFog _, h.nm, h.rw, h.ro⟩
theorem DInv.goMin (h : DInv Z x b) (S : DSta Z) : DInv Z (x.goMin Z.ts Z.lp Z.hold) (b + 10) := by
  refine ⟨h.I.goMin S.nd S.h1, h.t.goMin h.I S.nd S.h1, ?_, ?_, goMin_rows h.I S.nd S.h1 h.nm h.ro⟩
  · unfold RS.goMin
    show ∀ n ∈ (Z.ts.foldl (RS.begin' Z.ts Z.lp Z.hold) (Z.ts.foldl RS.goOn { x with mi := x.mi + 1 })).ms.map (·.1), n ∈ mN
    rw [fold_ms (begin_ms _ _ _), fold_ms goOn_ms]
    exact h.nm
  · unfold RS.goMin
    show (Z.ts.foldl (RS.begin' Z.ts Z.lp Z.hold) (Z.ts.foldl RS.goOn { x with mi := x.mi + 1 })).rw.length ≤ _
    have h1 := fold_rw (f := RS.begin' Z.ts Z.lp Z.hold) begin_rw Z.ts (Z.ts.foldl RS.goOn { x with mi := x.mi + 1 })
    have h2 := fold_rw goOn_rw Z.ts { x with mi := x.mi + 1 }
    have h3 : ({ x with mi := x.mi + 1 } : RS).rw.length = x.rw.length := rfl
    have := h.rw
    have := S.l5
    omega
end
def spDeed (K : PySem.W.Frag) : Sp := fun vs H Q E => ∃ G d r dx Z x ow Zo y, ∃ k : Nat, vs = [.ref d, .ref ow, .ref r] ∧ BothD K G H d r dx Z x ow Zo y ∧ Same Z Zo ∧ DSta Z ∧ DInv Z x.pu (3000 * k) ∧ y.pu = ownOf x.pu ∧ k ≤ 100 ∧
  (∀ x' y' H', BothD K G H' d r dx Z x' ow Zo y' → y'.pu = ownOf x'.pu → DInv Z x'.pu (3000 * (k + 1)) → Q (.bl true) H')
theorem ok_deed (C : Ctx K mg base) : CalX P w K mg base 9 "_law_deed" ["dice", "own", "relay"] (spDeed K) := by
  obtain ⟨fd, F⟩ := C.d.d_l_deed
  refine ⟨_, fd, ?_, F.funD.bindsN fun _ _ _ _ _ _ us hl => (match us, hl with | [_, _, _], _ => rfl), F.kp, C.t.m_l_deed⟩
  refine F.ok sc_l_deed (fun vs H Q E h => ?_) (fun A outer s H vs Q E hr h => ?_)
  · obtain ⟨G, d, r, dx, Z, x, ow, Zo, y, k, rfl, _⟩ := h
    rfl
  · obtain ⟨G, d, r, dx, Z, x, ow, Zo, y, k, rfl, BD, SM, SD, DI, ey, hk, hq⟩ := h
    have nn := sc_l_deed.nd
    have hu := hu_of hr
    obtain ⟨fS, fdS, FS, bS, _, mS, cS⟩ := ok_send (P := P) (w := w) C
    obtain ⟨fF, fdF, FF, bF, mF, cF⟩ := ok_fog (P := P) (w := w) C
    obtain ⟨fG, fdG, FG, bG, mG, cG⟩ := ok_goMin (P := P) (w := w) C
    obtain ⟨gd, G'⟩ := C.d.d_l_told
    have gb := G'.funD.bindsN (ps := ["what"]) fun _ _ _ _ _ _ us hl => (match us, hl with | [_], _ => rfl)
    have gkp := G'.kp
    obtain ⟨oc', od', dfv, kV, doc, pm, an, ct, osl, ge, glk, ghcd, ghd, ghk⟩ := G'.ex
    subst ge
    refine ⟨_, (pss_cons (ps_par (i := 3) (j := 4) (by rfl) nn rfl rfl (by decide) rfl rfl (pa_cons (pe_cx (ok_roll (P := P) (w := w) C) hr (by decide) rfl passA (pa_cons (pv 0) (pa_cons pe_int pa_nil))) (pa_cons (pe_op op_cat (pe_dget hu (pv 1) pe_str (fun _ _ => rfl)) (pe_lst (pa_cons pe_str pa_nil))) pa_nil)) (by rfl))
 (pss_cons (ps_asg (pe_tup (pa_cons (pe_ix ix_list (pv 4) (pe_cx (ok_roll (P := P) (w := w) C) hr (by decide) rfl passA (pa_cons (pv 0) (pa_cons (pe_callB call_len_seq (by rfl) C.t.b_len PySem.boot_len (pa_cons (pv 4) pa_nil)) pa_nil))) (fun _ _ => rfl)) (pa_cons (pe_ix ix_list (pv 4) (pe_cx (ok_roll (P := P) (w := w) C) hr (by decide) rfl passA (pa_cons (pv 0) (pa_cons (pe_callB call_len_seq (by rfl) C.t.b_len PySem.boot_len (pa_cons (pv 4) pa_nil)) pa_nil))) (fun _ _ => rfl)) pa_nil))) (pg_tup rfl (pgs_cons (pg_name (i := 5) nn rfl (by first | exact Or.inl rfl | exact Or.inr rfl)) (pgs_cons (pg_name (i := 6) nn rfl (by first | exact Or.inl rfl | exact Or.inr rfl)) pgs_nil))))
 (pss_cons (ps_if (pt_cmpR op_lt (pv 3) pe_int (nomark _)) (pss_cons (ps_asg (pe_tup (pa_cons (pe_op op_add_str pe_str (pe_callTy call_str_int (by rfl) C.t.b_str (by decide +kernel) (pa_cons (pe_cx (ok_roll (P := P) (w := w) C) hr (by decide) rfl passA (pa_cons (pv 0) (pa_cons pe_int pa_nil))) pa_nil))) (pa_cons (pe_cx (ok_roll (P := P) (w := w) C) hr (by decide) rfl passA (pa_cons (pv 0) (pa_cons pe_int pa_nil))) (pa_cons (pe_cmpR op_eq (pe_cx (ok_roll (P := P) (w := w) C) hr (by decide) rfl passA (pa_cons (pv 0) (pa_cons pe_int pa_nil))) pe_int (nomark _)) pa_nil)))) (pg_tup rfl (pgs_cons (pg_name (i := 7) nn rfl (by first | exact Or.inl rfl | exact Or.inr rfl)) (pgs_cons (pg_name (i := 8) nn rfl (by first | exact Or.inl rfl | exact Or.inr rfl)) (pgs_cons (pg_name (i := 9) nn rfl (by first | exact Or.inl rfl | exact Or.inr rfl)) pgs_nil)))))
 (C8.pss_cut (ps_set (i := 10) nn rfl (by first | exact Or.inl rfl | exact Or.inr rfl) (pe_and (pe_cmpR op_notIn_seq pe_str (pe_lst (pa_cons (pv 5) (pa_cons (pv 6) pa_nil))) rfl) (pe_and (pe_cmpR op_ne (pv 5) (pv 6) (nomark _)) (pe_and (pe_cmp (pc_dnotin hu (pv 7) (pe_dget hu (pv 1) pe_str (fun _ _ => rfl))) rfl) (pe_one (pe_cmpR op_gt (pv 8) pe_int (nomark _)))))))
 (pss_cons (ps_if (pt_cmpR op_eq (pe_cmpR op_eq (pe_told2 (T := T K) (k := 6) (by rfl) C.t.m_l_told gkp glk ghcd gb sc_l_told rfl (.inl rfl) (told_gives (by rfl) C.t.m_SignalError (by decide) fun _ => rfl) (C.b _ (tf_mem 1)) rfl (T_mem 1) (T_uniq C.u 1) (hr.mono (by decide)) (lamS_by (sc := defScope s_l_deed) (by rfl)) rfl (fun _ _ _ _ _ => rfl)
        (fun A2 outer2 s2 H2 E2 f2 c2 hr2 => (pe_meth (pv 2) cS mS FS (hr2.mono (by decide)) bS .nil passLm (pa_cons (pv 7) (pa_cons (pv 5) (pa_cons (pv 6) (pa_cons (pv 8) (pa_cons (pv 9) pa_nil)))))))) pe_str (nomark _)) (pv 10) (nomark _)) (pss_one (ps_ret pe_bl)) pss_nil)
 (pss_cons (ps_if (pt_val (pv 10)) (pss_cons (ps_dput hu (pe_dget hu (pv 1) pe_str (fun _ _ => rfl)) (pv 7) (pe_lst (pa_cons (pv 5) (pa_cons (pv 6) (pa_cons (pv 8) (pa_cons (pv 9) (pa_cons pe_str pa_nil)))))) (by rfl))
 (pss_cons (ps_expr (pe_cx (ok_lwait (P := P) (w := w) C) hr (by decide) rfl passA (pa_cons (pv 1) (pa_cons (pv 7) (pa_cons (pv 5) pa_nil)))))
 (pss_one (ps_dput hu (pv 1) pe_str (pe_op op_cat (pe_dget hu (pv 1) pe_str (fun _ _ => rfl)) (pe_lst (pa_cons (pe_tup (pa_cons (pe_dget hu (pv 1) pe_str (fun _ _ => rfl)) (pa_cons pe_str (pa_cons (pv 5) (pa_cons (pv 7) pa_nil))))) pa_nil))) (by rfl))))) pss_nil)
 (pss_one (ps_ret pe_bl)))))) pss_nil)
 (pss_cons (ps_if (pt_cmpR op_eq (pv 3) pe_int (nomark _)) (pss_cons (ps_asg (pe_cx (ok_roll (P := P) (w := w) C) hr (by decide) rfl passA (pa_cons (pv 0) (pa_cons pe_int pa_nil))) (pg_name (i := 11) nn rfl (by first | exact Or.inl rfl | exact Or.inr rfl)))
 (pss_cons (ps_if (pt_cmpR op_ne (pe_cmpR op_eq (pe_told2 (T := T K) (k := 6) (by rfl) C.t.m_l_told gkp glk ghcd gb sc_l_told rfl (.inl rfl) (told_gives (by rfl) C.t.m_SignalError (by decide) fun _ => rfl) (C.b _ (tf_mem 1)) rfl (T_mem 1) (T_uniq C.u 1) (hr.mono (by decide)) (lamS_by (sc := defScope s_l_deed) (by rfl)) rfl (fun _ _ _ _ _ => rfl)
        (fun A2 outer2 s2 H2 E2 f2 c2 hr2 => (pe_meth (pv 2) cF mF FF (hr2.mono (by decide)) bF .nil passLm (pa_cons (pv 5) (pa_cons (pv 11) pa_nil))))) pe_str (nomark _)) (pe_cmpR op_eq (pv 5) pe_str (nomark _)) (nomark _)) (pss_one (ps_ret pe_bl)) pss_nil)
 (pss_cons (ps_if (pt_cmpR op_ne (pv 5) pe_str (nomark _)) (pss_one (ps_dput hu (pv 1) pe_str (pe_callTy (call_dictP rfl) (by rfl) C.t.b_dict (by decide +kernel) (pa_cons (pe_op op_cat (pe_lock (pe_lc (own := [("tower", 13)]) (g := gName 13) rfl nn (pi_keys (pe_dget hu (pv 1) pe_str (fun _ _ => rfl))) (blkOk_by (N := n_l_deed) (sc := defScope s_l_deed) (by decide +kernel)) (fun _ _ _ _ _ => (pg_name (i := 13) nn rfl (by first | exact Or.inl rfl | exact Or.inr rfl))) (fun _ _ _ _ _ => pts_one (pt_cmpR op_ne (pv 13) (pv 5) (nomark _))) (fun _ _ _ _ _ => (pe_tup (pa_cons (pv 13) (pa_cons (pe_dget hu (pe_dget hu (pv 1) pe_str (fun _ _ => rfl)) (pv 13) (fun _ _ => rfl)) pa_nil)))))) (pe_op op_rep (pe_lst (pa_cons (pe_tup (pa_cons (pv 5) (pa_cons (pv 11) pa_nil))) pa_nil)) (pe_callTy call_int1 (by rfl) C.t.b_int (by decide +kernel) (pa_cons (pe_cmpR op_gt (pv 11) pe_int (nomark _)) pa_nil)))) pa_nil)) (by rfl))) pss_nil)
 (pss_one (ps_ret pe_bl))))) pss_nil)
 (pss_cons (ps_for ownsA rfl (pi_range1 (by rfl) C.t.b_range (pa_cons (pe_op op_add pe_int (pe_cx (ok_roll (P := P) (w := w) C) hr (by decide) rfl passA (pa_cons (pv 0) (pa_cons pe_int pa_nil)))) pa_nil)) (pg_name (i := 12) nn rfl (by first | exact Or.inl rfl | exact Or.inr rfl)) (pss_cons (ps_expr (pe_cx (ok_lmin (P := P) (w := w) C) hr (by decide) rfl passA (pa_cons (pv 1) pa_nil)))
 (pss_one (ps_expr (pe_meth0 (pv 2) cG mG FG (hr.mono (by decide)) bG .nil passA)))))
 (pss_one (ps_ret pe_bl))))))), ?_⟩
    have ndt := SD.nd
    have lt5 := SD.l5
    obtain ⟨qx, qy, qz, qd⟩ := BD.dice
    refine ⟨_, rfl, d, qx, qy, qz, _, rfl, qd, by decide, by decide, fun qx qy qz qr q0 q1 => ?_⟩
    obtain ⟨so, hso, rfl⟩ : ∃ k : Nat, k < 5 ∧ qr = (k : Int) := ⟨qr.toNat, by omega, by omega⟩
    have B1 := BD.roll qx qy qz
    generalize upd H d (dV qx qy qz) = H1 at B1 ⊢
    clear BD q0 q1 qd
    have R1 := B1.b.own
    refine ⟨_, rfl, ow, _, rfl, R1.get "towers" _ rfl, by show 1 ≤ sizeLine; decide, fun p hp => ⟨Zo.tw, p, _, _, rfl, rfl, (R1.new hp).st.tw, upd_same, ?_, fun tw htw => ⟨_, _, rfl, ?_⟩⟩⟩
    · rw [List.length_map]
      exact Nat.le_trans (Nat.add_le_add_right R1.st.l60 _) (show 61 ≤ sizeLine by decide)
    have B2 := B1.to (((Le.refl B1.b.le.tab).new (o := .lst [.str "zz"]) hp).new (o := .lst (Zo.ts.map V.str ++ [.str "zz"])) htw)
    have T2 : upd (upd H1 p (.lst [.str "zz"])) tw (.lst (Zo.ts.map V.str ++ [.str "zz"])) tw = some (.lst ((Z.ts ++ ([("zz" : Str)] : List Str)).map V.str)) := by rw [upd_same, SM.ts, List.map_append]; rfl
    generalize upd (upd H1 p (.lst [.str "zz"])) tw (.lst (Zo.ts.map V.str ++ [.str "zz"])) = H2 at B2 T2 ⊢
    clear R1 B1 hp htw
    generalize ht2 : Z.ts ++ ([("zz" : Str)] : List Str) = ts2 at T2
    have l2 : (ts2.map V.str).length = ts2.length := List.length_map _
    have l2' : ts2.length = Z.ts.length + 1 := by rw [← ht2, List.length_append]; rfl
    have dt2 : ∀ {Hx : Hp} {xx : RA} {yy : OA}, BothD K G Hx d r dx Z xx ow Zo yy → Hx tw = some (.lst (ts2.map V.str)) → d ≠ tw := fun b h z => by
      obtain ⟨a, b, c, hd⟩ := b.dice
      rw [z, h] at hd
      have := HO.lst.inj (Option.some.inj hd)
      rw [← ht2, List.map_append] at this
      cases hts : Z.ts with
      | nil => rw [hts] at this; cases this
      | cons _ _ => rw [hts] at this; cases this
    obtain ⟨qx, qy, qz, qd⟩ := B2.dice
    refine ⟨_, rfl, _, rfl, _, rfl, tw, _, rfl, .inl (SqL.of T2), d, qx, qy, qz, _, rfl, qd, by rw [l2]; omega, by rw [l2]; omega, fun qx qy qz qr q0 q1 => ?_⟩
    rw [l2] at q1
    obtain ⟨u, hu, rfl⟩ : ∃ k : Nat, k < ts2.length ∧ qr = (k : Int) := ⟨qr.toNat, by omega, by omega⟩
    have T3 := (upd_ne (o := dV qx qy qz) (Ne.symm (dt2 B2 T2))).trans T2
    have B3 := B2.roll qx qy qz
    generalize upd H2 d (dV qx qy qz) = H3 at B3 T3 ⊢
    clear B2 T2 q0 q1 qd
    obtain ⟨one, h1e⟩ : ∃ s, ts2[u]? = some s := ⟨_, List.getElem?_eq_getElem hu⟩
    refine ⟨tw, _, _, _, rfl, rfl, SqL.of T3, atI_nat (j := u) (by rw [List.getElem?_map, h1e]; rfl), ?_⟩
    obtain ⟨qx, qy, qz, qd⟩ := B3.dice
    refine ⟨_, rfl, _, rfl, _, rfl, tw, _, rfl, .inl (SqL.of T3), d, qx, qy, qz, _, rfl, qd, by rw [l2]; omega, by rw [l2]; omega, fun qx qy qz qr q0 q1 => ?_⟩
    rw [l2] at q1
    obtain ⟨v, hv, rfl⟩ : ∃ k : Nat, k < ts2.length ∧ qr = (k : Int) := ⟨qr.toNat, by omega, by omega⟩
    have T4 := (upd_ne (o := dV qx qy qz) (Ne.symm (dt2 B3 T3))).trans T3
    have B4 := B3.roll qx qy qz
    generalize upd H3 d (dV qx qy qz) = H4 at B4 T4 ⊢
    clear B3 T3 q0 q1 qd
    obtain ⟨oth, h2e⟩ : ∃ s, ts2[v]? = some s := ⟨_, List.getElem?_eq_getElem hv⟩
    refine ⟨tw, _, _, _, rfl, rfl, SqL.of T4, atI_nat (j := v) (by rw [List.getElem?_map, h2e]; rfl), by show 2 ≤ sizeLine; decide, fun t ht => ?_⟩
    have B5 := B4.to ((Le.refl B4.b.le.tab).new (o := .tup [.str one, .str oth]) ht)
    refine ⟨t, _, rfl, SqT.of upd_same, rfl, _, _, rfl, _, _, rfl, rfl, ?_⟩
    generalize upd H4 t (.tup [.str one, .str oth]) = H5 at B5 ⊢
    clear B4 T4 dt2 ht
    have m1 : one ∈ Z.ts ∨ one = "zz" := by
      have := List.mem_of_getElem? h1e
      rw [← ht2] at this
      rcases List.mem_append.mp this with h | h
      · exact .inl h
      · exact .inr (List.mem_singleton.mp h)
    have m2 : oth ∈ Z.ts ∨ oth = "zz" := by
      have := List.mem_of_getElem? h2e
      rw [← ht2] at this
      rcases List.mem_append.mp this with h | h
      · exact .inl h
      · exact .inr (List.mem_singleton.mp h)
    have z1 : one ∈ Z.ts ↔ one ≠ "zz" := ⟨fun h z => SD.zz (z ▸ h), fun h => m1.resolve_right h⟩
    have z2 : oth ∈ Z.ts ↔ oth ≠ "zz" := ⟨fun h z => SD.zz (z ▸ h), fun h => m2.resolve_right h⟩
    clear l2 l2' h1e h2e ht2 hu hv m1 m2
    have hsame := DI.rw
    have I := DI.I
    refine ⟨_, rfl, _, _, rfl, rfl, _, rfl, ?_⟩
    by_cases cs : so < 2
    · refine iteDT (by omega) ?_
      -- name, signs, urgent
      obtain ⟨qx, qy, qz, qd⟩ := B5.dice
      refine ⟨_, rfl, d, qx, qy, qz, _, rfl, qd, by decide, by decide, fun qx qy qz qr q0 q1 => ?_⟩
      obtain ⟨nk, hnk, rfl⟩ : ∃ k : Nat, k < 12 ∧ qr = (k : Int) := ⟨qr.toNat, by omega, by omega⟩
      have B6 := B5.roll qx qy qz
      generalize upd H5 d (dV qx qy qz) = H6 at B6 ⊢
      clear B5 q0 q1 qd
      refine ⟨_, rfl, Nat.lt_of_le_of_lt (Nat.log2_le_self _) (by omega), _, _, rfl, rfl, Nat.le_trans (mn_len nk hnk) (by decide), ?_⟩
      have hmn := mn_mem nk hnk
      generalize ("m" : Str) ++ Str.ofString (toString ((nk : Nat) : Int)) = nm at hmn ⊢
      obtain ⟨qx, qy, qz, qd⟩ := B6.dice
      refine ⟨_, rfl, d, qx, qy, qz, _, rfl, qd, by decide, by decide, fun qx qy qz sg q0 q1 => ?_⟩
      have B7 := B6.roll qx qy qz
      generalize upd H6 d (dV qx qy qz) = H7 at B7 ⊢
      clear B6 qd
      obtain ⟨qx, qy, qz, qd⟩ := B7.dice
      refine ⟨_, rfl, d, qx, qy, qz, _, rfl, qd, by decide, by decide, fun qx qy qz ur _ _ => ⟨rfl, ?_⟩⟩
      have B8 := B7.roll qx qy qz
      generalize upd H7 d (dV qx qy qz) = H8 at B8 ⊢
      clear B7 qd
      generalize decide (V.int ur = V.int 0) = ub
      refine ⟨by show 3 ≤ sizeLine; decide, fun t ht => ⟨t, _, rfl, SqT.of upd_same, rfl, _, _, rfl, _, _, rfl, _, _, rfl, rfl, ?_⟩⟩
      have B9 := B8.to ((Le.refl B8.b.le.tab).new (o := .tup [.str nm, .int sg, .bl ub]) ht)
      generalize upd H8 t (.tup [.str nm, .int sg, .bl ub]) = H9 at B9 ⊢
      clear B8 ht
      have l12 := DI.ms12
      have hgood : goodSend Z.ts x.pu.ms nm one oth sg ↔ one ≠ "zz" ∧ oth ≠ "zz" ∧ one ≠ oth ∧ nm ∉ x.pu.ms.map (·.1) ∧ 0 < sg := by
        unfold goodSend
        rw [z1, z2]
        constructor
        · rintro ⟨a, b, c, _, e, _, _, g⟩
          exact ⟨a, b, g, c, by omega⟩
        · rintro ⟨a, b, g, c, e⟩
          exact ⟨a, b, c, mN_ne _ hmn, by omega, by omega, by omega, g⟩
      refine ⟨fun σ' H' => σ' = [some (.ref d), some (.ref ow), some (.ref r), some (.int so), some (.ref tw), some (.str one), some (.str oth), some (.str nm), some (.int sg), some (.bl ub), some (.bl (decide (goodSend Z.ts x.pu.ms nm one oth sg))), none, none, none] ∧ BothD K G H' d r dx Z x ow Zo y, ?_, ?_⟩
      · refine ⟨_, rfl, _, rfl, by show 2 ≤ sizeLine; decide, fun p hp => ⟨p, _, rfl, .inl (SqL.of upd_same), rfl, flat_strs' [one, oth], _, rfl, ?_⟩⟩
        have BA := B9.to ((Le.refl B9.b.le.tab).new (o := .lst [.str one, .str oth]) hp)
        show (if (!inV (.str "zz") ([one, oth].map V.str)) = true then _ else _)
        rw [inV_strs]
        by_cases c1 : ("zz" : Str) ∈ [one, oth]
        · rw [decide_eq_true c1]
          refine iteF ⟨?_, BA⟩
          rw [decide_eq_false fun z => by
            obtain ⟨a, b, _⟩ := hgood.mp z
            simp only [List.mem_cons, List.not_mem_nil, or_false] at c1
            rcases c1 with c1 | c1
            · exact a c1.symm
            · exact b c1.symm]
          rfl
        have c1' : one ≠ "zz" ∧ oth ≠ "zz" := ⟨fun z => c1 (by rw [z]; simp), fun z => c1 (by rw [z]; simp)⟩
        rw [decide_eq_false c1]
        refine iteT ⟨_, rfl, _, rfl, rfl, _, rfl, ?_⟩
        by_cases c2 : one = oth
        · show (if (!decide (V.str one = V.str oth)) = true then _ else _)
          rw [decide_eq_true (congrArg V.str c2)]
          refine iteF ⟨?_, BA⟩
          rw [decide_eq_false fun z => (hgood.mp z).2.2.1 c2]
          rfl
        refine iteNT (fun z => c2 (V.str.inj z)) ?_
        have RA := BA.b.own
        refine ⟨_, rfl, _, rfl, ow, _, rfl, RA.get "messages" _ rfl, y.me, _, rfl, DGet.k (k := Sum.inr nm) RA.atMe, _, rfl, ?_⟩
        rw [valV_ents, Option.isSome_map]
        have km : y.ms.map (·.1) = x.pu.ms.map (·.1) := by
          rw [← drop1_keys]
          show y.pu.ms.map (·.1) = _
          rw [ey]
          rfl
        rcases look_or y.ms nm with hx | ⟨vv, hx⟩
        rotate_left
        · rw [hx]
          refine iteF ⟨?_, BA⟩
          rw [decide_eq_false fun z => (hgood.mp z).2.2.2.1 (by rw [← km]; exact inK_iff.mp (by unfold inK; rw [hx]; rfl))]
          rfl
        rw [hx]
        have hnm : nm ∉ x.pu.ms.map (·.1) := by
          rw [← km]
          intro z
          obtain ⟨v, hv, _⟩ := look_mem z
          rw [hx] at hv
          cases hv
        refine iteT ⟨_, rfl, _, _, rfl, rfl, ?_, BA⟩
        rw [show decide (goodSend Z.ts x.pu.ms nm one oth sg) = decide (sg > 0) from decide_eq_decide.mpr ⟨fun z => (hgood.mp z).2.2.2.2, fun z => hgood.mpr ⟨c1'.1, c1'.2, c2, hnm, z⟩⟩]
        rfl
      · rintro σ' HA ⟨rfl, BA⟩
        clear B9
        have Rr := BA.b.rel
        refine ⟨BA.b.le.tab, fun f1 c1 HB LB hf1 hlam hcode => ?_⟩
        have BB := BA.to LB
        have Rr := BB.b.rel
        have lrw : x.rw.length = x.pu.rw.length := (List.length_map _).symm
        have ndq : (x.qu.map (·.1)).Nodup := by
          rw [← drop1_keys]
          exact I.ndQ ndt
        refine ⟨hlam, _, rfl, r, dx, _, rfl, Rr.atR, rfl, _, rfl, _, rfl, _, rfl, _, rfl, _, rfl, _, r, dx, Z, x, nm, one, oth, sg, ub, rfl, Rr, by rw [lrw]; omega, ndq, fun hm => ?_, fun hg x' HC RC ex' => ?_, fun hg c hc HC LC => ?_⟩
        · obtain ⟨q, hq⟩ := I.q hm
          obtain ⟨_, lq, hk⟩ := I.ql hq
          obtain ⟨a, ha⟩ := look_un (cs := x.qu) (n := one) (v := q) (by rw [← pu_qu]; exact hq)
          refine ⟨a, q, ha, by omega, fun m hm => ?_⟩
          obtain ⟨mm, e, _⟩ := hk m hm
          obtain ⟨b, hb⟩ := look_un (cs := x.ms) (n := m) (v := mm) (by rw [← pu_ms]; exact e)
          rw [hb]
          rfl
        · have BC := BB.relay RC
          refine ⟨rfl, _, rfl, rfl, _, rfl, ?_⟩
          rw [decide_eq_true hg]
          refine iteDF (fun z => by have := of_decide_eq_true (V.bl.inj z); cases this) ?_
          refine ⟨_, rfl, _, rfl, iteT ?_⟩
          have RO := BC.b.own
          have g1 := hg.1
          have g3 : nm ∉ y.ms.map (·.1) := by
            rw [← drop1_keys]
            show nm ∉ y.pu.ms.map (·.1)
            rw [ey]
            exact hg.2.2.1
          have lym : y.ms.length ≤ 12 := by
            have h1 : y.pu.ms.length = y.ms.length := drop1_len _
            have h2 : y.pu.ms = x.pu.ms := congrArg OS.ms ey
            rw [h2] at h1
            omega
          refine ⟨_, rfl, _, rfl, _, rfl, _, rfl, by show 5 ≤ sizeLine; decide, fun p hp => ⟨_, rfl, ow, _, rfl, (RO.new hp).get "messages" _ rfl, _, rfl, y.me, _, rfl, DPut.k (k := Sum.inr nm) (RO.new hp).atMe (by rw [ents_len]; exact Nat.lt_of_le_of_lt lym (by decide)), ?_⟩⟩
          have RP := (RO.new (o := .lst (msgV ⟨one, oth, sg, ub, false⟩)) hp).msgA (t := nm) (p := p) (l := ⟨one, oth, sg, ub, false⟩) upd_same (RO.le.no _ hp) (RO.fresh hp)
          have ep : putK (ents rf y.ms) (Sum.inr nm) (.ref p) = ents rf (y.ms ++ [(nm, p, ⟨one, oth, sg, ub, false⟩)]) := by
            rw [← setS_new g3]
            exact put_setS (f := rf) y.ms nm (p, (⟨one, oth, sg, ub, false⟩ : Msg))
          rw [ep]
          change OR K _ (upd (upd HC p (.lst [.str one, .str oth, .int sg, .bl ub, .str "waits"])) y.me _) ow Zo _ at RP
          have BD := BC.table RP
          generalize upd (upd HC p (.lst [.str one, .str oth, .int sg, .bl ub, .str "waits"])) y.me _ = HD at RP BD ⊢
          have RD := BD.b.own
          have mq : y.pu.qu = x.pu.qu := congrArg OS.qu ey
          have mm : y.pu.ms = x.pu.ms := congrArg OS.ms ey
          obtain ⟨q, hqx⟩ := I.q g1
          obtain ⟨_, lq, hqk⟩ := I.ql hqx
          obtain ⟨ca, hqt⟩ := look_un (cs := y.qu) (n := one) (v := q) (by rw [← ol_qu, mq]; exact hqx)
          have ndy : (y.qu.map (·.1)).Nodup := by
            rw [← drop1_keys]
            show (y.pu.qu.map (·.1)).Nodup
            rw [mq]
            exact I.ndQ ndt
          have lyq : y.qu.length ≤ 200 := by
            have h1 : y.pu.qu.length = y.qu.length := drop1_len _
            have h2 := congrArg List.length I.qk
            rw [List.length_map] at h2
            rw [mq] at h1
            omega
          have epu : ({ y with ms := y.ms ++ [(nm, p, (⟨one, oth, sg, ub, false⟩ : Msg))] } : OA).pu = { y.pu with ms := setS y.pu.ms nm ⟨one, oth, sg, ub, false⟩ } := by
            rw [← opu_ms, setS_new g3]
          refine ⟨_, rfl, _, rfl, _, rfl, _, ow, Zo, _, nm, one, (ca, q), rfl, RD, ndy, lyq, hqt, by show q.length ≤ 200; omega, fun m hm => ?_, fun y' HE RE ey' => ?_⟩
          · show (look (y.ms ++ [(nm, p, _)]) m).isSome = true
            rw [← setS_new g3, look_setS]
            by_cases c : m = nm
            · rw [if_pos c]; rfl
            · rw [if_neg c]
              rcases List.mem_cons.mp hm with z | z
              · exact absurd z c
              obtain ⟨mm', e, _⟩ := hqk m z
              obtain ⟨b, hb⟩ := look_un (cs := y.ms) (n := m) (v := mm') (by rw [← ol_ms, mm]; exact e)
              rw [hb]
              rfl
          · have BE := BD.table RE
            have RF := BE.b.own
            have lyr : y'.rw.length ≤ 1000000 := by
              rw [opu_rwl, ey']
              show ({ y with ms := y.ms ++ [(nm, p, (⟨one, oth, sg, ub, false⟩ : Msg))] } : OA).pu.rw.length ≤ _
              rw [epu]
              show y.pu.rw.length ≤ _
              rw [ey]
              show x.pu.rw.length ≤ _
              omega
            refine ⟨_, rfl, ow, _, rfl, RF.get "rows" _ rfl, _, rfl, ow, _, rfl, RF.get "minute" _ rfl, _, rfl, _, rfl, by show 4 ≤ sizeLine; decide, fun p1 hp1 => ⟨by show 1 ≤ sizeLine; decide, fun p2 hp2 => ⟨y'.ro, p2, _, _, rfl, rfl, ((RF.new hp1).new hp2).atRo, upd_same, ?_, fun p3 hp3 => ⟨_, rfl, ow, _, rfl, DPut.k (k := Sum.inr "rows") (((RF.new hp1).new hp2).new hp3).atO (by show 9 < sizeLine; decide), ?_⟩⟩⟩⟩
            · rw [List.length_map]
              exact Nat.le_trans (Nat.add_le_add_right lyr _) (show 1000001 ≤ sizeLine by decide)
            have RG := RF.rowF (y'.mi, "given", one, nm) hp1 hp2 hp3
            have BG := BE.table RG
            have epp : ({ y' with ro := p3, rw := y'.rw ++ [(p1, ((y'.mi, "given", one, nm) : Row4))] } : OA).pu = ownOf (x.pu.send nm one oth sg ub) := by
              rw [opu_row]
              have ym : y'.mi = x.pu.mi := by
                have : y'.pu.mi = x.pu.mi := by
                  rw [ey']
                  show ({ y with ms := y.ms ++ [(nm, p, (⟨one, oth, sg, ub, false⟩ : Msg))] } : OA).pu.mi = _
                  rw [epu]
                  exact congrArg OS.mi ey
                exact this
              rw [ym, ey', epu, ey]
              have eqo : qOf x.pu.qu one = q := by unfold qOf; rw [hqx]; rfl
              unfold RS.send RS.wait RS.row ownOf
              show OS.mk _ _ _ _ _ _ = OS.mk _ _ _ _ _ _
              rw [eqo]
            refine hq x' _ _ BG (by rw [epp, ex']) ?_
            rw [ex']
            exact (DI.send ndt ub hg hmn).up (by omega)
        · have hcx : PySem.W.exmOne K (.ref c) (.ref (He.ga K "SignalError")) = some true := by
            rcases hc with rfl | rfl
            · exact C.t.x_RelayError_SignalError
            · exact C.t.x_RouteError_SignalError
          refine ⟨true, hcx, fun _ => ?_, fun z => by cases z⟩
          have BC := BB.to LC
          refine ⟨rfl, _, rfl, rfl, _, rfl, ?_⟩
          rw [decide_eq_false hg]
          refine iteDF (fun z => by have := V.bl.inj z; rw [decide_eq_true rfl] at this; cases this) ?_
          refine ⟨_, rfl, _, rfl, iteF ?_⟩
          exact hq _ _ _ BC ey (DI.up (by omega))
    refine iteDF (by omega) ?_
    refine ⟨_, rfl, rfl, _, rfl, ?_⟩
    by_cases cs2 : so = 2
    · subst cs2
      refine iteDT rfl ?_
      obtain ⟨qx, qy, qz, qd⟩ := B5.dice
      refine ⟨_, rfl, d, qx, qy, qz, _, rfl, qd, by decide, by decide, fun qx qy qz mu q0 q1 => ?_⟩
      have B6 := B5.roll qx qy qz
      generalize upd H5 d (dV qx qy qz) = H6 at B6 ⊢
      clear B5 qd
      refine ⟨B6.b.le.tab, fun f1 c1 H7 L7 hf1 hlam hcode => ?_⟩
      have B7 := B6.to L7
      have Rr := B7.b.rel
      have lfx : x.fog.length ≤ 200 := by
        have h1 := nodup_sub I.fnd I.fk
        rw [List.length_map] at h1
        show x.pu.fog.length ≤ 200
        omega
      refine ⟨hlam, _, rfl, r, dx, _, rfl, Rr.atR, rfl, _, rfl, _, rfl, _, r, dx, Z, x, one, mu, rfl, Rr, lfx, fun hm _ _ x' H8 R8 ex' => ?_, fun hno H8 L8 => ?_⟩
      · have B8 := B7.relay R8
        have n1 := z1.mp hm
        refine ⟨rfl, _, rfl, rfl, rfl, _, rfl, ?_⟩
        show (if (!decide (V.bl (decide (V.non = V.str "SignalError")) = V.bl (decide (V.str one = V.str "zz")))) = true then _ else _)
        rw [decide_eq_false (show ¬ V.str one = V.str "zz" from fun z => n1 (V.str.inj z))]
        refine iteF ⟨_, rfl, rfl, _, rfl, iteNT (fun z => n1 (V.str.inj z)) ?_⟩
        have Ry := B8.b.own
        have efog : y.fog = x.pu.fog := congrArg OS.fog ey
        have F3 := I.fog
        have ndy : (y.fog.map (·.1)).Nodup := by rw [efog]; exact F3.nd
        have lf : y.fog.length ≤ 200 := by rw [efog]; exact lfx
        refine ⟨y.fo, _, Ry.atFo, trivial, fun od => ?_⟩
        have TL := tabs_lock (o := od) Ry.tab Ry.atFo trivial
        have hO1 := at_lock (o := od) (u := .dK (ents V.int y.fog)) Ry.atO Ry.ow_ne.1
        have gO : ∀ {H4 : Hp}, Le (T K) (upd H8 y.fo (.frz od (.dK (ents V.int y.fog)))) H4 → DGet H4 ow (.str "fog") (some (.ref y.fo)) := fun L => DGet.k (k := Sum.inr "fog") (L.at hO1)
        refine ⟨_, rfl, ow, _, rfl, gO (Le.refl TL), y.fo, od, rfl, .inl ⟨_, upd_same, fun D hD => ?_⟩⟩
        refine lc_pairs (K := K) (TT := T K) (xs := y.fog) (f := fun p => V.str p.1) (fun p => decide (p.1 ≠ one)) (fun p => [.str p.1, .int p.2]) (walksVK upd_same) TL hD (by omega) (fun p hp H3 Y N L3 hY hN => ⟨rfl, ?_⟩) (fun H3 P L3 h3 hP eP => ?_)
        · have dp : DGet H3 y.fo (.str p.1) (some (.int p.2)) := dget_rd (f := V.int) (.inr ⟨od, L3.at upd_same⟩) (look_of ndy hp)
          refine ⟨_, rfl, _, rfl, rfl, _, rfl, ?_⟩
          by_cases c : p.1 = one
          · show (if (!decide (V.str p.1 = V.str one)) = true then _ else _)
            rw [decide_eq_true (congrArg V.str c)]
            exact iteF (hN _ (Le.refl L3.tab) (by simp [c]))
          · exact iteNT (fun z => c (V.str.inj z)) ⟨_, rfl, _, rfl, ow, _, rfl, gO L3, _, rfl, y.fo, _, rfl, dp, by show 2 ≤ sizeLine; decide, fun q hq => hY _ q (Le.refl L3.tab) hq (by simpa using c)⟩
        · have L4 : Le (T K) H8 (upd H3 y.fo (.dK (ents V.int y.fog))) := Le.unlock Ry.atFo trivial L3
          have hD4 : upd H3 y.fo (.dK (ents V.int y.fog)) D = some (.lst (P.map rf)) := (upd_ne (fun z : D = y.fo => by rw [z, upd_same] at hD; cases hD)).trans h3
          have hP4 : ∀ q ∈ P, upd H3 y.fo (.dK (ents V.int y.fog)) q.1 = some (.tup [.str q.2.1, .int q.2.2]) := fun q hq => (upd_ne (fun z => by
            have := hP q hq
            rw [z, L3.at upd_same] at this
            cases this)).trans (hP q hq)
          refine ⟨L3.at upd_same, ?_⟩
          generalize upd H3 y.fo (.dK (ents V.int y.fog)) = H4 at L4 hD4 hP4 ⊢
          have lP : P.length ≤ 200 := by
            have := congrArg List.length eP
            rw [List.length_map] at this
            have h5 := List.length_filter_le (fun p : Str × Int => decide (p.1 ≠ one)) y.fog
            omega
          -- [(one, minutes)] * int(minutes > 0)
          refine ⟨_, rfl, _, rfl, by show 2 ≤ sizeLine; decide, fun qt hqt => ⟨by show 1 ≤ sizeLine; decide, fun ql hql => ?_⟩⟩
          have A1 := L4.new (o := .tup [.str one, .int mu]) hqt
          have A2 := A1.new (o := .lst [.ref qt]) hql
          have hqt2 : upd (upd H4 qt (.tup [.str one, .int mu])) ql (.lst [.ref qt]) qt = some (.tup [.str one, .int mu]) := (upd_ne (ne_of_none upd_same hql)).trans upd_same
          have hD5 := (upd_ne (o := .tup [.str one, .int mu]) (ne_of_none hD4 hqt)).trans hD4
          have hD6 := (upd_ne (o := .lst [.ref qt]) (ne_of_none hD5 hql)).trans hD5
          have hP6 : ∀ q ∈ P, upd (upd H4 qt (.tup [.str one, .int mu])) ql (.lst [.ref qt]) q.1 = some (.tup [.str q.2.1, .int q.2.2]) := fun q hq => by
            have e1 := (upd_ne (o := .tup [.str one, .int mu]) (ne_of_none (hP4 q hq) hqt)).trans (hP4 q hq)
            exact (upd_ne (ne_of_none e1 hql)).trans e1
          have hql6 : upd (upd H4 qt (.tup [.str one, .int mu])) ql (.lst [.ref qt]) ql = some (.lst [.ref qt]) := upd_same
          generalize upd (upd H4 qt (.tup [.str one, .int mu])) ql (.lst [.ref qt]) = H5' at A2 hqt2 hD6 hP6 hql6 ⊢
          clear A1 hD5 hqt hql hP4 hD4
          refine ⟨_, rfl, _, _, rfl, rfl, .inr ⟨_, rfl, ?_⟩⟩
          have emul : (if decide (mu > 0) = true then (1 : Int) else 0).toNat = if 0 < mu then 1 else 0 := by
            by_cases c : 0 < mu
            · rw [if_pos c, if_pos (decide_eq_true c)]; rfl
            · rw [if_neg c, if_neg (by simpa using c)]; rfl
          have hb01 : -(2 ^ 63 : Int) ≤ (if decide (mu > 0) = true then (1 : Int) else 0) ∧ (if decide (mu > 0) = true then (1 : Int) else 0) < 2 ^ 63 := by
            split <;> constructor <;> decide
          refine ⟨ql, _, _, rfl, rfl, hql6, hb01.1, hb01.2, ?_, fun pr hpr => ?_⟩
          · rw [emul]
            split
            · show 1 * 1 ≤ sizeLine; decide
            · show 1 * 0 ≤ sizeLine; decide
          rw [emul]
          have hrep : (List.replicate (if 0 < mu then 1 else 0) [V.ref qt]).flatten = if 0 < mu then [V.ref qt] else [] := by
            split <;> rfl
          rw [hrep]
          have A3 := A2.new (o := .lst (if 0 < mu then [V.ref qt] else [])) hpr
          have hqt3 := (upd_ne (o := .lst (if 0 < mu then [V.ref qt] else [])) (ne_of_none hqt2 hpr)).trans hqt2
          have hD7 := (upd_ne (o := .lst (if 0 < mu then [V.ref qt] else [])) (ne_of_none hD6 hpr)).trans hD6
          have hP7 : ∀ q ∈ P, upd H5' pr (.lst (if 0 < mu then [V.ref qt] else [])) q.1 = some (.tup [.str q.2.1, .int q.2.2]) := fun q hq => (upd_ne (ne_of_none (hP6 q hq) hpr)).trans (hP6 q hq)
          have hpr7 : upd H5' pr (.lst (if 0 < mu then [V.ref qt] else [])) pr = some (.lst (if 0 < mu then [V.ref qt] else [])) := upd_same
          generalize upd H5' pr (.lst (if 0 < mu then [V.ref qt] else [])) = H6' at A3 hqt3 hD7 hP7 hpr7 ⊢
          refine ⟨D, pr, _, _, rfl, rfl, hD7, hpr7, ?_, fun pc hpc => ?_⟩
          · rw [List.length_map]
            refine Nat.le_trans (Nat.add_le_add (d := 1) lP ?_) (show 201 ≤ sizeLine by decide)
            split
            · exact Nat.le_refl _
            · exact Nat.zero_le _
          let P2 : List (Addr × Str × Int) := P ++ if 0 < mu then [(qt, one, mu)] else []
          have eP2 : P.map rf ++ (if 0 < mu then [V.ref qt] else []) = P2.map rf := by
            show _ = (P ++ _).map rf
            rw [List.map_append]
            split <;> rfl
          rw [eP2]
          have A4 := A3.new (o := .lst (P2.map rf)) hpc
          have hP8 : ∀ q ∈ P2, upd H6' pc (.lst (P2.map rf)) q.1 = some (.tup [.str q.2.1, .int q.2.2]) := fun q hq => by
            have e1 : H6' q.1 = some (.tup [.str q.2.1, .int q.2.2]) := by
              rcases List.mem_append.mp (show q ∈ P ++ _ from hq) with z | z
              · exact hP7 q z
              · by_cases c : 0 < mu
                · rw [if_pos c] at z
                  rw [List.mem_singleton.mp z]
                  exact hqt3
                · rw [if_neg c] at z; cases z
            exact (upd_ne (ne_of_none e1 hpc)).trans e1
          have hpc8 : upd H6' pc (.lst (P2.map rf)) pc = some (.lst (P2.map rf)) := upd_same
          generalize upd H6' pc (.lst (P2.map rf)) = H7' at A4 hP8 hpc8 ⊢
          have eF : P2.map (fun q => q.2) = if 0 < mu then setS (delS y.fog one) one mu else delS y.fog one := by
            show (P ++ _).map (·.2) = _
            rw [List.map_append, show P.map (fun q => q.2) = delS y.fog one from eP]
            have hno : one ∉ (delS y.fog one).map (·.1) := by
              rw [keys_delS]
              intro z
              have := (List.mem_filter.mp z).2
              simp at this
            split
            · rw [setS_new hno]; rfl
            · exact List.append_nil _
          have ndF : ((P2.map fun q => q.2).map (·.1)).Nodup := by
            rw [eF]
            split
            · exact nodup_setS (nodup_delS ndy)
            · exact nodup_delS ndy
          have pe := paired_ents (K := K) (H := H7') (f := V.int) (c := fun x : Str × Int => x) hP8
          generalize hfn : (P2.map fun q => q.2) = fn at pe ndF eF
          refine ⟨pc, P2.map (fun q : Addr × Str × Int => q.1), ents V.int fn, rfl, SqL.of (by rw [List.map_map]; exact hpc8), pe, fun p hp => ?_⟩
          rw [merge0 ndF]
          have B9 := B8.to A4
          have R4 := B9.b.own
          have hf := R4.fresh hp
          have hB := R4.le.no _ hp
          have R5 := R4.new (o := .dK (ents V.int fn)) hp
          have R6 := R5.fogN (p := p) (f := fn) upd_same hB hf
          have BA := B9.table R6
          refine ⟨_, rfl, ow, _, rfl, DPut.k (k := Sum.inr "fog") R5.atO (by show 9 < sizeLine; decide), hq x' _ _ BA ?_ ?_⟩
          · show ({ y.pu with fog := fn } : OS) = _
            rw [ex', eF, ey, efog]
            rfl
          · rw [ex']
            exact (DI.fogged hm mu).up (by omega)
      · have hz : one = "zz" := by
          by_cases c : one = "zz"
          · exact c
          · exact absurd ⟨z1.mpr c, q0, by omega⟩ hno
        refine ⟨true, C.t.x_RelayError_SignalError, fun _ => ?_, fun z => by cases z⟩
        have B8 := B7.to L8
        refine ⟨rfl, _, rfl, rfl, rfl, _, rfl, ?_⟩
        show (if (!decide (V.bl (decide (V.str "SignalError" = V.str "SignalError")) = V.bl (decide (V.str one = V.str "zz")))) = true then _ else _)
        rw [decide_eq_true (congrArg V.str hz), decide_eq_true (rfl : V.str "SignalError" = V.str "SignalError")]
        refine iteF ⟨_, rfl, rfl, _, rfl, ?_⟩
        show (if (!decide (V.str one = V.str "zz")) = true then _ else _)
        rw [decide_eq_true (congrArg V.str hz)]
        exact iteF (hq _ _ _ B8 ey (DI.up (by omega)))
    · refine iteDF (fun z => cs2 (by have := V.int.inj z; omega)) ?_
      obtain ⟨qx, qy, qz, qd⟩ := B5.dice
      refine ⟨_, rfl, d, qx, qy, qz, _, rfl, qd, by decide, by decide, fun qx qy qz qr q0 q1 => ?_⟩
      obtain ⟨mk, hmk, rfl⟩ : ∃ k : Nat, k < 20 ∧ qr = (k : Int) := ⟨qr.toNat, by omega, by omega⟩
      have B6 := B5.roll qx qy qz
      generalize upd H5 d (dV qx qy qz) = H6 at B6 ⊢
      clear B5 q0 q1 qd
      refine ⟨_, _, rfl, rfl, _, rfl, by omega, by omega, ?_⟩
      rw [show (1 + (mk : Int)).toNat = 1 + mk by omega]
      refine for_range (lo := 0) (n := 1 + mk) (fun i σ' H' => (∃ a12, σ' = [some (.ref d), some (.ref ow), some (.ref r), some (.int so), some (.ref tw), some (.str one), some (.str oth), none, none, none, none, none, a12, none]) ∧ ∃ x' y', BothD K G H' d r dx Z x' ow Zo y' ∧ y'.pu = ownOf x'.pu ∧ DInv Z x'.pu (3000 * k + i * 30))
        ⟨⟨_, rfl⟩, x, y, B6, ey, DI.up (by omega)⟩ (fun i σ HX hi ⟨⟨a12, hσ⟩, x1, y1, BX, eX, DX⟩ => ?_) (fun σ HX ⟨⟨a12, hσ⟩, x1, y1, BX, eX, DX⟩ => ?_)
      · subst hσ
        have RX := BX.b.own
        have IX := DX.I
        have lX : x1.pu.rw.length ≤ 900000 := by have := DX.rw; omega
        refine ⟨_, rfl, _, ow, Zo, y1, x1.pu, rfl, RX, eX, by rw [SM.ts]; exact IX, lX, by rw [SM.hold]; exact SD.h1, by rw [SM.hold]; exact SD.h3, fun y2 HY RY eY => ?_⟩
        rw [SM.ts, SM.lp, SM.hold] at eY
        have BY := BX.table RY
        have RL := BY.b.rel
        have lrw : x1.rw.length = x1.pu.rw.length := (List.length_map _).symm
        refine ⟨_, rfl, r, dx, _, rfl, RL.atR, rfl, _, r, dx, Z, x1, rfl, RL, IX, by rw [lrw]; exact lX, SD.h1, SD.h3, fun x2 HZ RZ eZ => ⟨⟨_, rfl⟩, x2, y2, BY.relay RZ, by rw [eY, eZ], ?_⟩⟩
        rw [eZ]
        exact (DX.goMin SD).up (by omega)
      · subst hσ
        exact hq x1 y1 _ BX eX (DX.up (by omega))

end
end K6

-- text K6La
set_option maxRecDepth 100000
set_option maxHeartbeats 4000000
namespace K6
open PySem PySem.Spec PyProof.Rows L2 LamX GX
section
variable {P : Program} {w : World} {K : PySem.W.Frag} {mg : Str → Option Value} {base : Heap}
variable {f : Addr} {cd : Value} {A : Around} {outer : List Env} {s : Shared} {H0 : Hp} {E : XK}
/-! ### the law: its state -/
abbrev XL (P : Program) (w : World) (K : PySem.W.Frag) (mg : Str → Option Value) (base : Heap) (f : Addr) (cd : Value) (A : Around) (outer : List Env) (s : Shared) (H : Hp) (E : XK) : Cx := XA P w K mg base n_law "law" (defScope s_law) f cd A outer s H E
abbrev cdL (K : PySem.W.Frag) : Value := .ref (He.cT K ("law", none)).1
def forB : Stmt → List Stmt
  | .For _ _ b _ _ => b
  | _ => []
def LB : List Stmt := match defBody s_law with
  | st :: _ => forB st
  | _ => []
def sl (i : Nat) : Stmt := (LB[i]?).getD (.Pass default)
theorem LB_len : LB.length = 8 := by decide +kernel
theorem ex23 {σ : L2.St} (h : σ.length = 23) : ∃ a0 a1 a2 a3 a4 a5 a6 a7 a8 a9 a10 a11 a12 a13 a14 a15 a16 a17 a18 a19 a20 a21 a22, σ = a0 :: a1 :: a2 :: a3 :: a4 :: a5 :: a6 :: a7 :: a8 :: a9 :: a10 :: a11 :: a12 :: a13 :: a14 :: a15 :: a16 :: a17 :: a18 :: a19 :: a20 :: a21 :: a22 :: [] := by
  obtain ⟨a0, t0, rfl, h0⟩ := ex1 h
  obtain ⟨a1, t1, rfl, h1⟩ := ex1 h0
  obtain ⟨a2, t2, rfl, h2⟩ := ex1 h1
  obtain ⟨a3, t3, rfl, h3⟩ := ex1 h2
  obtain ⟨a4, t4, rfl, h4⟩ := ex1 h3
  obtain ⟨a5, t5, rfl, h5⟩ := ex1 h4
  obtain ⟨a6, t6, rfl, h6⟩ := ex1 h5
  obtain ⟨a7, t7, rfl, h7⟩ := ex1 h6
  obtain ⟨a8, t8, rfl, h8⟩ := ex1 h7
  obtain ⟨a9, t9, rfl, h9⟩ := ex1 h8
  obtain ⟨a10, t10, rfl, h10⟩ := ex1 h9
  obtain ⟨a11, t11, rfl, h11⟩ := ex1 h10
  obtain ⟨a12, t12, rfl, h12⟩ := ex1 h11
  obtain ⟨a13, t13, rfl, h13⟩ := ex1 h12
  obtain ⟨a14, t14, rfl, h14⟩ := ex1 h13
  obtain ⟨a15, t15, rfl, h15⟩ := ex1 h14
  obtain ⟨a16, t16, rfl, h16⟩ := ex1 h15
  obtain ⟨a17, t17, rfl, h17⟩ := ex1 h16
  obtain ⟨a18, t18, rfl, h18⟩ := ex1 h17
  obtain ⟨a19, t19, rfl, h19⟩ := ex1 h18
  obtain ⟨a20, t20, rfl, h20⟩ := ex1 h19
  obtain ⟨a21, t21, rfl, h21⟩ := ex1 h20
  obtain ⟨a22, t22, rfl, h22⟩ := ex1 h21
  have := List.length_eq_zero_iff.mp h22
  subst this
  exact ⟨a0, a1, a2, a3, a4, a5, a6, a7, a8, a9, a10, a11, a12, a13, a14, a15, a16, a17, a18, a19, a20, a21, a22, rfl⟩
/-- the dice in p0's list -/
structure Dx (K : PySem.W.Frag) (p0 d : Addr) (G H : Hp) : Prop where
  le : Le (T K) G H
  nd : G d = none
  dice : ∃ a b c, H d = some (dV a b c)
  lp : G p0 = some (.lst [.ref d])
section
variable {p0 d p : Addr} {G H H' : Hp} {o : HO}
theorem Dx.tab (h : Dx K p0 d G H) : Tabs (T K) H := h.le.tab
theorem Dx.to (h : Dx K p0 d G H) (l : Le (T K) H H') : Dx K p0 d G H' := by
  obtain ⟨a, b, c, e⟩ := h.dice
  exact ⟨h.le.trans l, h.nd, ⟨a, b, c, l.at e⟩, h.lp⟩
theorem Dx.new (h : Dx K p0 d G H) (n : H p = none) : Dx K p0 d G (upd H p o) := h.to ((Le.refl h.tab).new n)
theorem Dx.roll (h : Dx K p0 d G H) (a b c : Int) : Dx K p0 d G (upd H d (dV a b c)) := by
  obtain ⟨a0, b0, c0, e⟩ := h.dice
  exact ⟨h.le.set h.nd e, h.nd, ⟨a, b, c, upd_same⟩, h.lp⟩
theorem Dx.rebase (h : Dx K p0 d G H) : Dx K p0 d (hid H [d]) H ∧ Le (T K) G (hid H [d]) := by
  have l : Le (T K) G (hid H [d]) := h.le.hid (fun q hq => by rw [List.mem_singleton.mp hq]; exact h.nd) (fun q hq u hu => by
    obtain ⟨a, b, c, e⟩ := h.dice
    rw [List.mem_singleton.mp hq, e] at hu
    cases hu
    trivial)
  exact ⟨⟨hid_le h.tab, hid_no List.mem_cons_self, h.dice, l.at h.lp⟩, l⟩
theorem Dx.ne (h : Dx K p0 d G H) {u : HO} (e : G p = some u) : p ≠ d := fun z => by rw [z, h.nd] at e; cases e
theorem Dx.ne_new (h : Dx K p0 d G H) (e : H p = none) : p ≠ d := fun z => by
  obtain ⟨a, b, c, q⟩ := h.dice
  rw [z, q] at e
  cases e
/-- what stands and is not the dice -/
theorem Dx.up (h : Dx K p0 d G H) {u : HO} (e : H p = some u) (n : p ≠ d) : hid H [d] p = some u := hid_at e (by simpa using n)
end
def tsF : List Str := ["p", "q", "r", "s", "t"]
def tsN (n : Nat) : List Str := tsF.take (n + 1)
theorem tsN_nd : ∀ n, n < 5 → (tsN n).Nodup := by decide +kernel
theorem tsN_ok : ∀ n, n < 5 → ∀ t ∈ tsN n, (PyData.str t).canLay0 = true := by decide +kernel
theorem tsN_zz : ∀ n, n < 5 → ("zz" : Str) ∉ tsN n := by decide +kernel
theorem tsN_len : ∀ n, n < 5 → (tsN n).length = n + 1 := by decide +kernel
theorem tsN_ne : ∀ n, n < 5 → tsN n ≠ [] := by decide +kernel
theorem tsN_cut : ∀ n : Nat, n < 5 → cutV (tsF.map V.str) none (some (1 + ((n : Nat) : Int))) = (tsN n).map V.str := by decide +kernel
structure Lks (tw lk : Addr) (ts : List Str) (L : List LkA) (b : Nat) (G : Hp) : Prop where
  tw : G tw = some (.lst (ts.map V.str))
  lk : G lk = some (.lst (L.map rf))
  lt : ∀ x ∈ L, G x.1 = some (.tup [.str x.2.1, .str x.2.2])
  ok : ∀ x ∈ L, x.2.1 ∈ ts ∧ x.2.2 ∈ ts ∧ x.2.1 ≠ x.2.2
  ll : L.length ≤ b
theorem Lks.to {TT : List (Addr × Str)} {tw lk : Addr} {ts : List Str} {L : List LkA} {b : Nat} {G G' : Hp} (h : Lks tw lk ts L b G) (l : Le TT G G') : Lks tw lk ts L b G' := ⟨l.at h.tw, l.at h.lk, fun x hx => l.at (h.lt x hx), h.ok, h.ll⟩
variable {p0 d : Addr}
def W0 (K : PySem.W.Frag) (p0 d : Addr) : L2.St → Hp → Prop := fun σ H => ∃ G, σ.length = 23 ∧ At σ 1 (.ref d) ∧ Dx K p0 d G H
def W1 (K : PySem.W.Frag) (p0 d : Addr) (b : Nat) : L2.St → Hp → Prop := fun σ H => ∃ G tw lk L, ∃ n : Nat, σ.length = 23 ∧ At σ 1 (.ref d) ∧ At σ 2 (.ref tw) ∧ At σ 3 (.ref lk) ∧ n < 5 ∧ Dx K p0 d G H ∧ Lks tw lk (tsN n) L b G
theorem ls0 (C : Ctx K mg base) (hr : Room 11 (XL P w K mg base f cd A outer s H0 E).A) : Step (XL P w K mg base f cd A outer s H0 E) (sl 0) (W0 K p0 d) (W1 K p0 d 0) := by
  have nn := sc_law.nd
  refine ⟨_, ps_par (i := 2) (j := 3) (by rfl) nn rfl rfl (by decide) rfl rfl (pa_cons (pe_slice sl_list (pe_lst (pa_cons pe_str (pa_cons pe_str (pa_cons pe_str (pa_cons pe_str (pa_cons pe_str pa_nil)))))) po_none (po_some (pe_op op_add pe_int (pe_cx (ok_roll (P := P) (w := w) C) hr (by decide) rfl passA (pa_cons (pv 1) (pa_cons pe_int pa_nil)))))) (pa_cons (pe_lst pa_nil) pa_nil)) (by rfl), fun D σ H hM hq => ?_⟩
  obtain ⟨G, hl, h1, L⟩ := hM
  obtain ⟨a0, a1, a2, a3, a4, a5, a6, a7, a8, a9, a10, a11, a12, a13, a14, a15, a16, a17, a18, a19, a20, a21, a22, rfl⟩ := ex23 hl
  cases h1
  refine ⟨by show 5 ≤ sizeLine; decide, fun a ha => ?_⟩
  have L1 := L.new (o := .lst (tsF.map V.str)) ha
  have ea : upd H a (.lst (tsF.map V.str)) a = some (.lst (tsF.map V.str)) := upd_same
  have nea := L.ne_new ha
  show tNoPart _ (upd H a (.lst (tsF.map V.str))) _
  generalize upd H a (.lst (tsF.map V.str)) = H1 at L1 ea ⊢
  obtain ⟨qx, qy, qz, qd⟩ := L1.dice
  refine ⟨_, rfl, d, qx, qy, qz, _, rfl, qd, by omega, by omega, fun qx qy qz qr q0 q1 => ?_⟩
  obtain ⟨n, hn, rfl⟩ : ∃ k : Nat, k < 5 ∧ qr = (k : Int) := ⟨qr.toNat, by omega, by omega⟩
  have L2 := L1.roll qx qy qz
  have samen : ∀ a, a ≠ d → upd H1 d (dV qx qy qz) a = H1 a := fun a n => upd_ne n
  generalize upd H1 d (dV qx qy qz) = H2 at L2 samen ⊢
  clear q0 q1 qd
  have ea2 := (samen a nea).trans ea
  refine ⟨_, _, rfl, rfl, _, rfl, a, _, rfl, SqL.of ea2, fun tw htw => ?_⟩
  rw [tsN_cut n hn]
  have L3 := L2.new (o := .lst ((tsN n).map V.str)) htw
  have netw := L2.ne_new htw
  have e3 : upd H2 tw (.lst ((tsN n).map V.str)) tw = some (.lst ((tsN n).map V.str)) := upd_same
  generalize upd H2 tw (.lst ((tsN n).map V.str)) = H3 at L3 e3 ⊢
  refine ⟨by show 0 ≤ sizeLine; decide, fun lk hlk => ⟨_, _, rfl, ?_⟩⟩
  have L4 := L3.new (o := .lst []) hlk
  have nelk := L3.ne_new hlk
  have e4 := (upd_ne (o := .lst []) (ne_of_none e3 hlk)).trans e3
  have e5 : upd H3 lk (.lst []) lk = some (.lst []) := upd_same
  generalize upd H3 lk (.lst []) = H4 at L4 e4 e5 ⊢
  obtain ⟨L5, _⟩ := L4.rebase
  exact hq _ _ ⟨_, tw, lk, [], n, rfl, rfl, rfl, rfl, hn, L5, ⟨L4.up e4 netw, L4.up e5 nelk, (fun x hx => by cases hx), (fun x hx => by cases hx), Nat.le_refl 0⟩⟩
theorem ls1 (C : Ctx K mg base) (hr : Room 11 (XL P w K mg base f cd A outer s H0 E).A) : Step (XL P w K mg base f cd A outer s H0 E) (sl 1) (W1 K p0 d 0) (W1 K p0 d 10) := by
  have nn := sc_law.nd
  refine ⟨_, ps_for ownsA rfl (pi_range1 (by rfl) C.t.b_range (pa_cons (pe_cx (ok_roll (P := P) (w := w) C) hr (by decide) rfl passA (pa_cons (pv 1) (pa_cons pe_int pa_nil))) pa_nil)) (pg_name (i := 4) nn rfl (by first | exact Or.inl rfl | exact Or.inr rfl))
    (pss_cons (ps_par (i := 5) (j := 6) (by rfl) nn rfl rfl (by decide) rfl rfl (pa_cons (pe_ix ix_list (pv 2) (pe_cx (ok_roll (P := P) (w := w) C) hr (by decide) rfl passA (pa_cons (pv 1) (pa_cons (pe_callB call_len_seq (by rfl) C.t.b_len PySem.boot_len (pa_cons (pv 2) pa_nil)) pa_nil))) (fun _ _ => rfl)) (pa_cons (pe_ix ix_list (pv 2) (pe_cx (ok_roll (P := P) (w := w) C) hr (by decide) rfl passA (pa_cons (pv 1) (pa_cons (pe_callB call_len_seq (by rfl) C.t.b_len PySem.boot_len (pa_cons (pv 2) pa_nil)) pa_nil))) (fun _ _ => rfl)) pa_nil)) (by rfl))
    (pss_one (ps_set (i := 3) nn rfl (by first | exact Or.inl rfl | exact Or.inr rfl) (pe_op op_cat (pv 3) (pe_op op_rep (pe_lst (pa_cons (pe_tup (pa_cons (pv 5) (pa_cons (pv 6) pa_nil))) pa_nil)) (pe_callTy call_int1 (by rfl) C.t.b_int (by decide +kernel) (pa_cons (pe_cmpR op_ne (pv 5) (pv 6) (nomark _)) pa_nil))))))), fun D σ H hM hq => ?_⟩
  obtain ⟨G, tw, lk, L, n, hl, h1, h2, h3, hn, X, LL⟩ := hM
  obtain ⟨a0, a1, a2, a3, a4, a5, a6, a7, a8, a9, a10, a11, a12, a13, a14, a15, a16, a17, a18, a19, a20, a21, a22, rfl⟩ := ex23 hl
  cases h1; cases h2; cases h3
  have lts := tsN_len n hn
  obtain ⟨qx, qy, qz, qd⟩ := X.dice
  refine ⟨_, rfl, d, qx, qy, qz, _, rfl, qd, by omega, by omega, fun qx qy qz qr q0 q1 => ?_⟩
  obtain ⟨m, hm, rfl⟩ : ∃ k : Nat, k < 8 ∧ qr = (k : Int) := ⟨qr.toNat, by omega, by omega⟩
  have X1 := X.roll qx qy qz
  generalize upd H d (dV qx qy qz) = H1 at X1 ⊢
  clear q0 q1 qd
  refine ⟨_, rfl, by omega, by omega, ?_⟩
  rw [show ((m : Nat) : Int).toNat = m by omega]
  refine for_range (lo := 0) (n := m) (fun i σ' H' => (∃ a0 a4 a5 a6 a7 a8 a9 a10 a11 a12 a13 a14 a15 a16 a17 a18 a19 a20 a21 a22, ∃ lk, σ' = [a0, some (.ref d), some (.ref tw), some (.ref lk), a4, a5, a6, a7, a8, a9, a10, a11, a12, a13, a14, a15, a16, a17, a18, a19, a20, a21, a22] ∧ ∃ G L, Dx K p0 d G H' ∧ Lks tw lk (tsN n) L i G))
    ⟨_, _, _, _, _, _, _, _, _, _, _, _, _, _, _, _, _, _, _, _, lk, rfl, G, L, X1, LL⟩ (fun i σ H2 hi ⟨a0, a4, a5, a6, a7, a8, a9, a10, a11, a12, a13, a14, a15, a16, a17, a18, a19, a20, a21, a22, lk, hσ, G, L, X2, LL⟩ => ?_) (fun σ H2 ⟨a0, a4, a5, a6, a7, a8, a9, a10, a11, a12, a13, a14, a15, a16, a17, a18, a19, a20, a21, a22, lk, hσ, G, L, X2, LL⟩ => ?_)
  rotate_left
  · subst hσ
    exact hq _ _ ⟨G, tw, lk, L, n, rfl, rfl, rfl, rfl, hn, X2, ⟨LL.tw, LL.lk, LL.lt, LL.ok, by have := LL.ll; omega⟩⟩
  subst hσ
  have lv : ((tsN n).map V.str).length = n + 1 := by rw [List.length_map, lts]
  have tw2 := X2.le.at LL.tw
  refine ⟨_, rfl, _, rfl, _, rfl, tw, _, rfl, .inl (SqL.of tw2), ?_⟩
  rw [lv]
  obtain ⟨qx, qy, qz, qd⟩ := X2.dice
  refine ⟨d, qx, qy, qz, _, rfl, qd, by omega, by omega, fun qx qy qz qr q0 q1 => ?_⟩
  obtain ⟨u, hu, rfl⟩ : ∃ k : Nat, k < n + 1 ∧ qr = (k : Int) := ⟨qr.toNat, by omega, by omega⟩
  have X3 := X2.roll qx qy qz
  generalize upd H2 d (dV qx qy qz) = H3 at X3 ⊢
  clear q0 q1 qd
  obtain ⟨one, h1e⟩ : ∃ s, (tsN n)[u]? = some s := ⟨_, List.getElem?_eq_getElem (by rw [lts]; exact hu)⟩
  have tw3 := X3.le.at LL.tw
  refine ⟨tw, _, _, _, rfl, rfl, SqL.of tw3, atI_nat (j := u) (by rw [List.getElem?_map, h1e]; rfl), ?_⟩
  refine ⟨_, rfl, _, rfl, _, rfl, tw, _, rfl, .inl (SqL.of tw3), ?_⟩
  rw [lv]
  obtain ⟨qx, qy, qz, qd⟩ := X3.dice
  refine ⟨d, qx, qy, qz, _, rfl, qd, by omega, by omega, fun qx qy qz qr q0 q1 => ?_⟩
  obtain ⟨v, hv, rfl⟩ : ∃ k : Nat, k < n + 1 ∧ qr = (k : Int) := ⟨qr.toNat, by omega, by omega⟩
  have X4 := X3.roll qx qy qz
  generalize upd H3 d (dV qx qy qz) = H4 at X4 ⊢
  clear q0 q1 qd
  obtain ⟨oth, h2e⟩ : ∃ s, (tsN n)[v]? = some s := ⟨_, List.getElem?_eq_getElem (by rw [lts]; exact hv)⟩
  have tw4 := X4.le.at LL.tw
  refine ⟨tw, _, _, _, rfl, rfl, SqL.of tw4, atI_nat (j := v) (by rw [List.getElem?_map, h2e]; rfl), _, _, rfl, ?_⟩
  have m1 := List.mem_of_getElem? h1e
  have m2 := List.mem_of_getElem? h2e
  clear h1e h2e tw2 tw3 tw4 X2 X3
  refine ⟨_, rfl, _, rfl, _, rfl, by show 2 ≤ sizeLine; decide, fun q hqn => ⟨by show 1 ≤ sizeLine; decide, fun b hb => ⟨_, rfl, _, rfl, rfl, .inr ⟨_, rfl, ?_⟩⟩⟩⟩
  have Y1 := X4.new (o := .tup [.str one, .str oth]) hqn
  have Y2 := Y1.new (o := .lst [.ref q]) hb
  have nq := X4.ne_new hqn
  have eq2 : upd (upd H4 q (.tup [.str one, .str oth])) b (.lst [.ref q]) q = some (.tup [.str one, .str oth]) := (upd_ne (ne_of_none upd_same hb)).trans upd_same
  have eb2 : upd (upd H4 q (.tup [.str one, .str oth])) b (.lst [.ref q]) b = some (.lst [.ref q]) := upd_same
  generalize upd (upd H4 q (.tup [.str one, .str oth])) b (.lst [.ref q]) = H5 at Y2 eq2 eb2 ⊢
  have emul : (if (!decide (V.str one = V.str oth)) = true then (1 : Int) else 0) = if one = oth then 0 else 1 := by
    by_cases c : one = oth
    · rw [if_pos c, decide_eq_true (congrArg V.str c)]; rfl
    · rw [if_neg c, decide_eq_false fun z => c (V.str.inj z)]; rfl
  rw [emul]
  refine ⟨b, _, _, rfl, rfl, eb2, by split <;> decide, by split <;> decide, by split <;> first | exact (by decide : 1 * 0 ≤ sizeLine) | exact (by decide : 1 * 1 ≤ sizeLine), fun c hc => ?_⟩
  have hrep : (List.replicate (if one = oth then (0 : Int) else 1).toNat [V.ref q]).flatten = if one = oth then [] else [V.ref q] := by split <;> rfl
  rw [hrep]
  have Y3 := Y2.new (o := .lst (if one = oth then [] else [V.ref q])) hc
  have eq3 := (upd_ne (o := .lst (if one = oth then [] else [V.ref q])) (ne_of_none eq2 hc)).trans eq2
  have ec3 : upd H5 c (.lst (if one = oth then [] else [V.ref q])) c = some (.lst (if one = oth then [] else [V.ref q])) := upd_same
  generalize upd H5 c (.lst (if one = oth then [] else [V.ref q])) = H6 at Y3 eq3 ec3 ⊢
  have lk6 := Y3.le.at LL.lk
  have lL := LL.ll
  refine ⟨lk, c, _, _, rfl, rfl, lk6, ec3, ?_, fun e he => ?_⟩
  · rw [List.length_map]
    refine Nat.le_trans (Nat.add_le_add (d := 1) (Nat.le_trans lL (show i ≤ 7 by omega)) ?_) (show 8 ≤ sizeLine by decide)
    split
    · exact Nat.zero_le _
    · exact Nat.le_refl _
  let L2 : List LkA := L ++ if one = oth then [] else [(q, one, oth)]
  have eL : L.map rf ++ (if one = oth then [] else [V.ref q]) = L2.map rf := by
    show _ = (L ++ _).map rf
    rw [List.map_append]
    split <;> rfl
  rw [eL]
  have Y4 := Y3.new (o := .lst (L2.map rf)) he
  have eq4 := (upd_ne (o := .lst (L2.map rf)) (ne_of_none eq3 he)).trans eq3
  have ee4 : upd H6 e (.lst (L2.map rf)) e = some (.lst (L2.map rf)) := upd_same
  have ne := Y3.ne_new he
  generalize upd H6 e (.lst (L2.map rf)) = H7 at Y4 eq4 ee4 ⊢
  obtain ⟨Y5, l5⟩ := Y4.rebase
  refine ⟨_, _, _, _, _, _, _, _, _, _, _, _, _, _, _, _, _, _, _, _, e, rfl, _, L2, Y5, ⟨l5.at LL.tw, Y4.up ee4 ne, fun x hx => ?_, fun x hx => ?_, ?_⟩⟩
  · rcases List.mem_append.mp (show x ∈ L ++ _ from hx) with z | z
    · exact l5.at (LL.lt x z)
    · split at z
      · cases z
      · rw [List.mem_singleton.mp z]; exact Y4.up eq4 nq
  · rcases List.mem_append.mp (show x ∈ L ++ _ from hx) with z | z
    · exact LL.ok x z
    · split at z
      · cases z
      · rename_i hne
        rw [List.mem_singleton.mp z]; exact ⟨m1, m2, hne⟩
  · show (L ++ _).length ≤ _
    rw [List.length_append]
    split
    · exact Nat.le_trans (Nat.add_le_add lL (Nat.zero_le 1)) (Nat.le_refl _)
    · exact Nat.add_le_add lL (Nat.le_refl 1)
def W2 (K : PySem.W.Frag) (p0 d : Addr) : L2.St → Hp → Prop := fun σ H => ∃ G tw lk L, ∃ n h : Nat, σ.length = 23 ∧ At σ 1 (.ref d) ∧ At σ 2 (.ref tw) ∧ At σ 3 (.ref lk) ∧ At σ 7 (.int (h : Int)) ∧ n < 5 ∧ 1 ≤ h ∧ h ≤ 3 ∧ Dx K p0 d G H ∧ Lks tw lk (tsN n) L 10 G
theorem ls2 (C : Ctx K mg base) (hr : Room 11 (XL P w K mg base f cd A outer s H0 E).A) : Step (XL P w K mg base f cd A outer s H0 E) (sl 2) (W1 K p0 d 10) (W2 K p0 d) := by
  have nn := sc_law.nd
  refine ⟨_, ps_set (i := 7) nn rfl (by first | exact Or.inl rfl | exact Or.inr rfl) (pe_op op_add pe_int (pe_cx (ok_roll (P := P) (w := w) C) hr (by decide) rfl passA (pa_cons (pv 1) (pa_cons pe_int pa_nil)))), fun D σ H hM hq => ?_⟩
  obtain ⟨G, tw, lk, L, n, hl, h1, h2, h3, hn, X, LL⟩ := hM
  obtain ⟨a0, a1, a2, a3, a4, a5, a6, a7, a8, a9, a10, a11, a12, a13, a14, a15, a16, a17, a18, a19, a20, a21, a22, rfl⟩ := ex23 hl
  cases h1; cases h2; cases h3
  obtain ⟨qx, qy, qz, qd⟩ := X.dice
  refine ⟨_, rfl, d, qx, qy, qz, _, rfl, qd, by omega, by omega, fun qx qy qz qr q0 q1 => ?_⟩
  obtain ⟨m, hm, rfl⟩ : ∃ k : Nat, k < 3 ∧ qr = (k : Int) := ⟨qr.toNat, by omega, by omega⟩
  have X1 := X.roll qx qy qz
  generalize upd H d (dV qx qy qz) = H1 at X1 ⊢
  clear q0 q1 qd
  refine ⟨_, _, rfl, rfl, hq _ _ ⟨G, tw, lk, L, n, 1 + m, rfl, rfl, rfl, rfl, ?_, hn, by omega, by omega, X1, LL⟩⟩
  show some (some (V.int (1 + (m : Int)))) = some (some (V.int ((1 + m : Nat) : Int)))
  rw [Int.natCast_add]; rfl
end
end K6

-- text K6Lb
set_option maxRecDepth 100000
set_option maxHeartbeats 4000000
namespace K6
open PySem PySem.Spec PyProof.Rows L2 LamX GX
section
variable {P : Program} {w : World} {K : PySem.W.Frag} {mg : Str → Option Value} {base : Heap}
variable {f : Addr} {cd : Value} {A : Around} {outer : List Env} {s : Shared} {H0 : Hp} {E : XK}
/-! ### the relay and the law's own table -/
variable {p0 d : Addr}
structure W3s (K : PySem.W.Frag) (p0 d : Addr) (G B H : Hp) (tw lk : Addr) (L : List LkA) (n : Nat) (h : Int) (r dx : Addr) (Z : Sta) (x : RA) : Prop where
  n5 : n < 5
  h1 : 1 ≤ h
  h3 : h ≤ 3
  LL : Lks tw lk (tsN n) L 10 G
  gd : G d = none
  lp : G p0 = some (.lst [.ref d])
  dice : ∃ a b c, B d = some (dV a b c)
  gb : Le (T K) G B
  R : Rel K B H r dx Z x
  ts : Z.ts = tsN n
  zl : Z.lp = L.map (·.2)
  zh : Z.hold = h
  xp : x.pu = RS.new (tsN n)
def W3 (K : PySem.W.Frag) (p0 d : Addr) : L2.St → Hp → Prop := fun σ H => ∃ G B tw lk L n h r dx Z x, σ.length = 23 ∧ At σ 1 (.ref d) ∧ At σ 2 (.ref tw) ∧ At σ 3 (.ref lk) ∧ At σ 7 (.int h) ∧ At σ 8 (.ref r) ∧ W3s K p0 d G B H tw lk L n h r dx Z x
theorem ls3 (C : Ctx K mg base) (hr : Room 11 (XL P w K mg base f cd A outer s H0 E).A) : Step (XL P w K mg base f cd A outer s H0 E) (sl 3) (W2 K p0 d) (W3 K p0 d) := by
  have nn := sc_law.nd
  obtain ⟨fR, fdR, FR, bR, mkR, mgR⟩ := ok_init (P := P) (w := w) C
  refine ⟨_, ps_set (i := 8) nn rfl (by first | exact Or.inl rfl | exact Or.inr rfl) (pe_make mkR FR (hr.mono (by decide)) (by rfl) mgR bR .nil passA (pa_cons (pv 2) (pa_cons (pv 3) (pa_cons (pv 7) pa_nil)))), fun D σ H hM hq => ?_⟩
  obtain ⟨G, tw, lk, L, n, h, hl, h1, h2, h3, h7, hn, hh1, hh3, X, LL⟩ := hM
  obtain ⟨a0, a1, a2, a3, a4, a5, a6, a7, a8, a9, a10, a11, a12, a13, a14, a15, a16, a17, a18, a19, a20, a21, a22, rfl⟩ := ex23 hl
  cases h1; cases h2; cases h3; cases h7
  refine ⟨_, rfl, _, rfl, _, rfl, ?_⟩
  intro r dx hx hdx hne
  have M1 := (Le.refl X.tab).new (o := .own r) hdx
  have hx1 : upd H dx (.own r) r = none := (upd_ne (Ne.symm hne)).trans hx
  have lL := LL.ll
  have lt := tsN_len n hn
  have ok := tsN_ok n hn
  have good : goodRel (tsN n) (L.map (·.2)) (h : Int) := ⟨tsN_ne n hn, tsN_nd n hn, by omega, by omega, fun l hl => by
    obtain ⟨x, hx, rfl⟩ := List.mem_map.mp hl
    exact LL.ok x hx⟩
  refine ⟨r, tw, lk, dx, tsN n, L, (h : Int), H, rfl, upd_same, hx, M1.new hx1, SqL.of (X.le.at LL.tw), SqL.of (X.le.at LL.lk), fun x hx => X.le.at (LL.lt x hx), by omega, by omega, ok, fun x hx => ⟨ok _ (LL.ok x hx).1, ok _ (LL.ok x hx).2.1⟩, fun z => absurd good z, fun _ H' B Z x LB R e1 e2 e3 e4 => ⟨rfl, ?_⟩⟩
  obtain ⟨qa, qb, qc, qd⟩ := X.dice
  exact hq _ _ ⟨G, B, tw, lk, L, n, (h : Int), r, dx, Z, x, rfl, rfl, rfl, rfl, rfl, rfl, ⟨hn, by omega, by omega, LL, X.nd, X.lp, ⟨qa, qb, qc, LB.at qd⟩, X.le.trans LB, R, e1, e2, e3, e4⟩⟩
theorem Own1.nil {H : Hp} (t : Tabs (T K) H) : Own1 K H H [] := ⟨Le.refl t, List.nodup_nil, fun c hc => (by cases hc), fun c hc => (by cases hc)⟩
structure W4s (K : PySem.W.Frag) (p0 d : Addr) (G H : Hp) (r dx : Addr) (Z : Sta) (x : RA) (ow : Addr) (Zo : Sta) (y : OA) (k : Nat) : Prop where
  bd : BothD K G H d r dx Z x ow Zo y
  sm : Same Z Zo
  sd : DSta Z
  di : DInv Z x.pu (3000 * k)
  ey : y.pu = ownOf x.pu
  lp : G p0 = some (.lst [.ref d])
  tok : ∀ t ∈ Z.ts, (PyData.str t).canLay0 = true
theorem W4s.to {G H H' : Hp} {r dx : Addr} {Z : Sta} {x : RA} {ow : Addr} {Zo : Sta} {y : OA} {k : Nat} (h : W4s K p0 d G H r dx Z x ow Zo y k) (l : Le (T K) H H') : W4s K p0 d G H' r dx Z x ow Zo y k := ⟨h.bd.to l, h.sm, h.sd, h.di, h.ey, h.lp, h.tok⟩
def W4 (K : PySem.W.Frag) (p0 d : Addr) (k : Nat) : L2.St → Hp → Prop := fun σ H => ∃ G r dx Z x ow Zo y, σ.length = 23 ∧ At σ 1 (.ref d) ∧ At σ 2 (.ref Zo.tw) ∧ At σ 7 (.int Zo.hold) ∧ At σ 8 (.ref r) ∧ At σ 9 (.ref ow) ∧ W4s K p0 d G H r dx Z x ow Zo y k
theorem w4_make {G B H H' : Hp} {tw lk : Addr} {L : List LkA} {n : Nat} {h : Int} {r dx : Addr} {Z : Sta} {x : RA} (S : W3s K p0 d G B H tw lk L n h r dx Z x) {ow : Addr} {y : OA} (O : Own1 K H H' (oc ow ⟨tw, lk, tsN n, L, h⟩ y)) (ys : y.sd = []) (yr : y.rw = []) (ey : y.pu = ownOf (RS.new (tsN n))) :
    W4s K p0 d (hid H' (d :: (rcs K r dx Z x ++ ocs ow ⟨tw, lk, tsN n, L, h⟩ y))) H' r dx Z x ow ⟨tw, lk, tsN n, L, h⟩ y 0 := by
  generalize hZ : (⟨tw, lk, tsN n, L, h⟩ : Sta) = Zo at O
  have R := S.R
  have rB : ∀ a ∈ rcs K r dx Z x, B a = none := fun a ha => by
    obtain ⟨c, hc, rfl⟩ := List.mem_map.mp ha
    exact R.no c hc
  have oH : ∀ a ∈ ocs ow Zo y, H a = none := fun a ha => by
    obtain ⟨c, hc, rfl⟩ := List.mem_map.mp ha
    exact O.no c hc
  have rH : ∀ a ∈ rcs K r dx Z x, ∃ u, H a = some u := fun a ha => by
    obtain ⟨c, hc, rfl⟩ := List.mem_map.mp ha
    exact ⟨_, R.at_ c hc⟩
  obtain ⟨qa, qb, qc, qd⟩ := S.dice
  have dH := R.le.at qd
  have dr : d ∉ rcs K r dx Z x := fun z => by rw [rB _ z] at qd; cases qd
  have do_ : d ∉ ocs ow Zo y := fun z => by rw [oH _ z] at dH; cases dH
  have up : ∀ {a : Addr} {xs : List V}, B a = some (.tup xs) → a ∉ d :: (rcs K r dx Z x ++ ocs ow Zo y) := fun {a xs} ha z => by
    rcases List.mem_cons.mp z with z | z
    · rw [z, qd] at ha; cases ha
    · rcases List.mem_append.mp z with z | z
      · rw [rB _ z] at ha; cases ha
      · have := R.le.at ha
        rw [oH _ z] at this; cases this
  have upG : ∀ {a : Addr} {u : HO}, G a = some u → PlainO u → a ∉ d :: (rcs K r dx Z x ++ ocs ow Zo y) := fun {a u} ha hp z => by
    rcases List.mem_cons.mp z with z | z
    · rw [z, S.gd] at ha; cases ha
    · have hB := S.gb.at ha hp
      rcases List.mem_append.mp z with z | z
      · rw [rB _ z] at hB; cases hB
      · have := R.le.at hB hp
        rw [oH _ z] at this; cases this
  have LH : Le (T K) G H' := (S.gb.trans R.le).trans O.le
  have at' : ∀ {a : Addr} {u : HO}, G a = some u → PlainO u → hid H' (d :: (rcs K r dx Z x ++ ocs ow Zo y)) a = some u := fun ha hp => hid_at (LH.at ha hp) (upG ha hp)
  have R2 := R.to O.le
  have SO : OStaOk (hid H' (d :: (rcs K r dx Z x ++ ocs ow Zo y))) Zo := by
    have := tsN_len n S.n5
    have ok := tsN_ok n S.n5
    have := S.LL.ll
    subst hZ
    exact ⟨at' S.LL.tw trivial, at' S.LL.lk trivial, fun x hx => at' (S.LL.lt x hx) trivial, tsN_nd n S.n5, ok, fun x hx => ⟨ok _ (S.LL.ok x hx).1, ok _ (S.LL.ok x hx).2.1⟩, by show (tsN n).length ≤ 60; have := S.n5; omega, by show L.length ≤ 1000; omega⟩
  have OO : OR K H H' ow Zo y := ⟨O, fun q hq => (by rw [ys] at hq; cases hq), fun q hq => (by rw [yr] at hq; cases hq), by
    have := tsN_len n S.n5
    have ok := tsN_ok n S.n5
    have := S.LL.ll
    have LG := S.gb.trans R.le
    subst hZ
    exact ⟨LG.at S.LL.tw, LG.at S.LL.lk, fun x hx => LG.at (S.LL.lt x hx), tsN_nd n S.n5, ok, fun x hx => ⟨ok _ (S.LL.ok x hx).1, ok _ (S.LL.ok x hx).2.1⟩, by show (tsN n).length ≤ 60; have := S.n5; omega, by show L.length ≤ 1000; omega⟩⟩
  have s := R.sta
  have s2 := R2.st
  have BO : Both K (hid H' (d :: (rcs K r dx Z x ++ ocs ow Zo y))) H' r dx Z x ow Zo y := ⟨R2.max, OO.max, fun a ha z => (by
      obtain ⟨u, hu⟩ := rH a ha
      rw [oH a z] at hu
      cases hu), hid_le O.le.tab, fun a ha => hid_no (List.mem_cons_of_mem _ (List.mem_append_left _ ha)), fun a ha => hid_no (List.mem_cons_of_mem _ (List.mem_append_right _ ha)), SO,
      ⟨hid_at s2.tw (up s.tw), hid_at s2.lk (up s.lk), fun q hq => hid_at (s2.lt q hq) (up (s.lt q hq)), s.nd, s.ok, s.lok, s.l60, s.ll⟩⟩
  have nd := tsN_nd n S.n5
  refine ⟨⟨BO, dr, do_, hid_no List.mem_cons_self, qa, qb, qc, O.le.at dH⟩, ⟨?_, ?_, ?_⟩, ⟨?_, ?_, ?_, ?_, ?_⟩, ?_, ?_, at' S.lp trivial, ?_⟩
  · rw [← hZ, S.ts]
  · rw [← hZ, S.zl]; rfl
  · rw [← hZ, S.zh]
  · rw [S.zh]; exact S.h1
  · rw [S.zh]; have := S.h3; omega
  · rw [S.ts]; exact tsN_zz n S.n5
  · rw [S.ts, tsN_len n S.n5]; exact S.n5
  · rw [S.ts]; exact nd
  · rw [S.xp]
    refine ⟨?_, TInv.new, fun n hn => (by cases hn), Nat.zero_le _, fun y hy => (by cases hy)⟩
    rw [S.ts]
    exact RInv.new nd
  · rw [ey, S.xp]
  · rw [S.ts]
    exact tsN_ok n S.n5
theorem ls4 (C : Ctx K mg base) (hr : Room 11 (XL P w K mg base f cd A outer s H0 E).A) : Step (XL P w K mg base f cd A outer s H0 E) (sl 4) (W3 K p0 d) (W4 K p0 d 0) := by
  have nn := sc_law.nd
  refine ⟨_, ps_set (i := 9) nn rfl (by first | exact Or.inl rfl | exact Or.inr rfl) (pe_disp (pps_cons pe_str (pv 2) (pps_cons pe_str (pv 3) (pps_cons pe_str (pv 7) (pps_cons pe_str pe_dnewK (pps_cons pe_str pe_dnewK (pps_cons pe_str
      (pe_callTy (call_dictP rfl) (by rfl) C.t.b_dict (by decide +kernel) (pa_cons (pe_lc (own := [("tower", 21)]) (g := gName 21) rfl nn (pi_list (pv 2)) (blkOk_by (N := n_law) (sc := defScope s_law) (by decide +kernel)) (fun _ _ _ _ _ => (pg_name (i := 21) nn rfl (by first | exact Or.inl rfl | exact Or.inr rfl))) (fun _ _ _ _ _ => pts_nil) (fun _ _ _ _ _ => (pe_tup (pa_cons (pv 21) (pa_cons (pe_lst pa_nil) pa_nil))))) pa_nil))
      (pps_cons pe_str pe_dnewK (pps_cons pe_str (pe_lst pa_nil) (pps_cons pe_str pe_int pps_nil))))))))) (by rfl) (by rfl) (by intro z; cases z) (by decide)), fun D σ H hM hq => ?_⟩
  obtain ⟨G, B, tw, lk, L, n, h, r, dx, Z, x, hl, h1, h2, h3, h7, h8, S⟩ := hM
  obtain ⟨a0, a1, a2, a3, a4, a5, a6, a7, a8, a9, a10, a11, a12, a13, a14, a15, a16, a17, a18, a19, a20, a21, a22, rfl⟩ := ex23 hl
  cases h1; cases h2; cases h3; cases h7; cases h8
  have twH := (S.gb.trans S.R.le).at S.LL.tw
  have ndt := tsN_nd n S.n5
  have lts := tsN_len n S.n5
  have l5 := S.n5
  intro ow how
  have O0 := (Own1.nil S.R.tab).alloc (o := .dK []) how
  refine ⟨_, rfl, _, rfl, _, rfl, ?_⟩
  intro fo hfo
  have O1 := O0.alloc (o := .dK []) hfo
  intro me hme
  have O2 := O1.alloc (o := .dK []) hme
  generalize upd (upd (upd H ow (.dK [])) fo (.dK [])) me (.dK []) = H1 at O2 ⊢
  clear O0 O1 hfo hme
  have tw1 := O2.le.at twH
  refine ⟨_, rfl, tw, rfl, ⟨_, SqL.of tw1⟩, fun D1 hD => ?_⟩
  have O3 := O2.alloc (o := .lst []) hD
  refine lc_list (K := K) (a := tw) (xs := (tsN n).map V.str) (fun i H' => ∃ PP : List (Addr × Str × Addr × List Str), (PP.map (·.2)).map (·.1) = (tsN n).take i ∧ (∀ q ∈ PP, q.2.2.2 = []) ∧ (∀ q ∈ PP, H' q.1 = some (.tup [.str q.2.1, .ref q.2.2.1])) ∧ Own1 K H H' ((D1, HO.lst (PP.map rf)) :: (oqL (PP.map (·.2)) ++ [(me, HO.dK []), (fo, HO.dK []), (ow, HO.dK [])])))
    ⟨[], rfl, (fun q z => by cases z), (fun q z => by cases z), O3⟩ (fun i H' _ ⟨PP, _, _, _, O⟩ => SqL.of (O.le.at twH)) (fun i v H2 hv ⟨PP, e1, e2, e3, O⟩ => ?_) (fun H2 ⟨PP, e1, e2, e3, O⟩ => ?_)
  · obtain ⟨t, ht, rfl⟩ := GX.get_map hv
    refine ⟨rfl, yes_ (iteT ⟨_, rfl, by show 0 ≤ sizeLine; decide, fun a ha => ⟨by show 2 ≤ sizeLine; decide, fun q hqn => ?_⟩⟩)⟩
    have A1 := O.alloc (o := .lst []) ha
    have A2 := A1.alloc (o := .tup [.str t, .ref a]) hqn
    have A3 := A2.sub (List.sublist_cons_self _ _)
    have A4 := A3.perm (List.Perm.swap _ _ _)
    have kq : upd (upd H2 a (.lst [])) q (.tup [.str t, .ref a]) q = some (.tup [.str t, .ref a]) := upd_same
    have kP : ∀ z ∈ PP, upd (upd H2 a (.lst [])) q (.tup [.str t, .ref a]) z.1 = some (.tup [.str z.2.1, .ref z.2.2.1]) := fun z hz => by
      have g1 := (upd_ne (o := .lst []) (ne_of_none (e3 z hz) ha)).trans (e3 z hz)
      exact (upd_ne (ne_of_none g1 hqn)).trans g1
    generalize upd (upd H2 a (.lst [])) q (.tup [.str t, .ref a]) = H3 at A4 kq kP ⊢
    have kD := A4.at_ (D1, .lst (PP.map rf)) List.mem_cons_self
    have ne : ∀ {b : Addr} {ws : List V}, H3 b = some (.tup ws) → b ≠ D1 := fun hb z => by
      rw [z, kD] at hb
      cases hb
    have lP : PP.length ≤ 5 := by
      have := congrArg List.length e1
      rw [List.length_map, List.length_map, List.length_take] at this
      omega
    have A5 := A4.setF (v := .lst ((PP ++ [(q, t, a, [])]).map rf)) trivial
    have em : (PP ++ [(q, t, a, [])]).map rf = PP.map rf ++ [V.ref q] := by rw [List.map_append]; rfl
    refine ⟨_, kD, by rw [List.length_map]; exact Nat.lt_of_le_of_lt lP (by decide), PP ++ [(q, t, a, [])], ?_, fun z hz => ?_, fun z hz => ?_, ?_⟩
    · rw [List.map_append, List.map_append, e1, GX.take_snoc ht]
      rfl
    · rcases List.mem_append.mp hz with hz | hz
      · exact e2 z hz
      · rw [List.mem_singleton.mp hz]
    · rcases List.mem_append.mp hz with hz | hz
      · exact (upd_ne (ne (kP z hz))).trans (kP z hz)
      · rw [List.mem_singleton.mp hz]
        exact (upd_ne (ne kq)).trans kq
    · rw [em] at A5 ⊢
      refine A5.perm (List.Perm.cons _ ?_)
      have : oqL ((PP ++ [(q, t, a, [])]).map fun q : Addr × Str × Addr × List Str => q.2) = oqL (PP.map fun q : Addr × Str × Addr × List Str => q.2) ++ [(a, .lst [])] := by
        unfold oqL
        rw [List.map_append, List.map_append]
        rfl
      rw [this, List.append_assoc]
      exact List.perm_middle.symm
  · rw [List.length_map, List.take_length] at e1
    have kD := O.at_ (D1, .lst (PP.map rf)) List.mem_cons_self
    have O4 := O.sub (List.sublist_cons_self _ _)
    have pe := paired_ents (K := K) (H := H2) (f := rf) (c := fun x : Str × Addr × List Str => x) e3
    have ndQ : ((PP.map (·.2)).map (·.1)).Nodup := by rw [e1]; exact ndt
    refine ⟨D1, PP.map (fun q : Addr × Str × Addr × List Str => q.1), ents rf (PP.map fun q : Addr × Str × Addr × List Str => q.2), rfl, SqL.of (by rw [List.map_map]; exact kD), pe, fun qs hqs => ?_⟩
    rw [merge0 ndQ]
    have O5 := O4.alloc (o := .dK (ents rf (PP.map fun q : Addr × Str × Addr × List Str => q.2))) hqs
    generalize hQ : (PP.map fun q : Addr × Str × Addr × List Str => q.2) = QQ at O5 e1 ⊢
    have eQ : ∀ p ∈ QQ, p.2.2 = [] := fun p hp => by
      rw [← hQ] at hp
      obtain ⟨z, hz, rfl⟩ := List.mem_map.mp hp
      exact e2 z hz
    intro se hse
    have O6 := O5.alloc (o := .dK []) hse
    refine ⟨by show 0 ≤ sizeLine; decide, fun ro hro => ?_⟩
    have O7 := O6.alloc (o := .lst []) hro
    generalize upd (upd (upd H2 qs (.dK (ents rf QQ))) se (.dK [])) ro (.lst []) = H3 at O7 ⊢
    clear O6 O5 O4 hse hro hqs
    have kow := O7.at_ (ow, .dK []) (by simp)
    let y : OA := ⟨fo, me, qs, se, ro, [], [], QQ, [], [], 0⟩
    refine ⟨kow, ownF ⟨tw, lk, tsN n, L, h⟩ y, rfl, by show 9 ≤ 15; decide, ?_⟩
    have em : mergeK [] (ownF ⟨tw, lk, tsN n, L, h⟩ y) = ownF ⟨tw, lk, tsN n, L, h⟩ y := rfl
    rw [em]
    have O8 := O7.perm (cs' := (ow, .dK []) :: ([(fo, HO.dK []), (me, .dK []), (qs, .dK (ents rf QQ)), (se, .dK []), (ro, .lst [])] ++ oqL QQ)) (by
      generalize oqL QQ = ls
      refine List.Perm.trans (l₂ := (ow, HO.dK []) :: ([(ro, HO.lst []), (se, .dK []), (qs, .dK (ents rf QQ))] ++ (ls ++ [(me, .dK []), (fo, .dK [])]))) ?_ (List.Perm.cons _ ?_)
      · have e : ([(ro, HO.lst []), (se, .dK []), (qs, .dK (ents rf QQ))] ++ (ls ++ [(me, HO.dK []), (fo, .dK []), (ow, .dK [])]) : List (Addr × HO)) = ([(ro, HO.lst []), (se, .dK []), (qs, .dK (ents rf QQ))] ++ (ls ++ [(me, .dK []), (fo, .dK [])])) ++ [(ow, .dK [])] := by simp
        show ([(ro, HO.lst []), (se, .dK []), (qs, .dK (ents rf QQ))] ++ (ls ++ [(me, HO.dK []), (fo, .dK []), (ow, .dK [])]) : List (Addr × HO)).Perm _
        rw [e]
        exact List.perm_append_comm
      · refine (List.Perm.append_left _ List.perm_append_comm).trans ?_
        exact (List.reverse_perm ([(fo, HO.dK []), (me, .dK []), (qs, .dK (ents rf QQ)), (se, .dK []), (ro, .lst [])] : List (Addr × HO))).append_right ls)
    have O9 := O8.setF (v := .dK (ownF ⟨tw, lk, tsN n, L, h⟩ y)) trivial
    have W := w4_make (y := y) S O9 rfl rfl (by
      show OS.mk [] [] (drop1 QQ) [] [] 0 = OS.mk [] [] ((tsN n).map fun t => (t, [])) [] [] 0
      have : drop1 QQ = (tsN n).map fun t => (t, ([] : List Str)) := by
        rw [← e1, List.map_map]
        unfold drop1
        exact List.map_congr_left fun p hp => by
          show (p.1, p.2.2) = (p.1, [])
          rw [eQ p hp]
      rw [this])
    exact hq _ _ ⟨_, r, dx, Z, x, ow, ⟨tw, lk, tsN n, L, h⟩, y, rfl, rfl, rfl, rfl, rfl, rfl, W⟩
end
end K6

-- text K6Lc
set_option maxRecDepth 100000
set_option maxHeartbeats 4000000
namespace K6
open PySem PySem.Spec PyProof.Rows L2 LamX GX
section
variable {P : Program} {w : World} {K : PySem.W.Frag} {mg : Str → Option Value} {base : Heap}
variable {f : Addr} {cd : Value} {A : Around} {outer : List Env} {s : Shared} {H0 : Hp} {E : XK}
/-! ### a deed, and who is busy behind it -/
variable {p0 d : Addr}
def fl (i j : Nat) : Stmt := ((forB (sl i))[j]?).getD (.Pass default)
theorem fl5_len : (forB (sl 5)).length = 5 := by decide +kernel
theorem fl6_len : (forB (sl 6)).length = 2 := by decide +kernel
theorem fl7_len : (forB (sl 7)).length = 5 := by decide +kernel
theorem fs0 (C : Ctx K mg base) (hr : Room 11 (XL P w K mg base f cd A outer s H0 E).A) {k : Nat} (hk : k ≤ 100) : Step (XL P w K mg base f cd A outer s H0 E) (fl 5 0) (W4 K p0 d k) (W4 K p0 d (k + 1)) := by
  have nn := sc_law.nd
  refine ⟨_, ps_if (pt_not (pt_val (pe_cx (ok_deed (P := P) (w := w) C) hr (by decide) rfl passA (pa_cons (pv 1) (pa_cons (pv 9) (pa_cons (pv 8) pa_nil)))))) (pss_one (ps_ret pe_bl)) pss_nil, fun D σ H hM hq => ?_⟩
  obtain ⟨G, r, dx, Z, x, ow, Zo, y, hl, h1, h2, h7, h8, h9, W⟩ := hM
  exact ⟨_, h1, _, h9, _, h8, G, d, r, dx, Z, x, ow, Zo, y, k, rfl, W.bd, W.sm, W.sd, W.di, W.ey, hk, fun x' y' H' bd' ey' di' => ⟨_, rfl, iteF (hq _ _ ⟨G, r, dx, Z, x', ow, Zo, y', hl, h1, h2, h7, h8, h9, ⟨bd', W.sm, W.sd, di', ey', W.lp, W.tok⟩⟩)⟩⟩
abbrev bzF (x : RA) : SD (Addr × Bz) := x.bz.filter fun p => p.2.2.2.1.isSome
def D1 (K : PySem.W.Frag) (p0 d : Addr) (k : Nat) : L2.St → Hp → Prop := fun σ H => ∃ G r dx Z x ow Zo y bd, σ.length = 23 ∧ At σ 1 (.ref d) ∧ At σ 2 (.ref Zo.tw) ∧ At σ 7 (.int Zo.hold) ∧ At σ 8 (.ref r) ∧ At σ 9 (.ref ow) ∧ At σ 10 (.ref bd) ∧ W4s K p0 d G H r dx Z x ow Zo y k ∧ H bd = some (.dK (ents rf (bzF x)))
theorem W4s.bzl {G H : Hp} {r dx : Addr} {Z : Sta} {x : RA} {ow : Addr} {Zo : Sta} {y : OA} {k : Nat} (W : W4s K p0 d G H r dx Z x ow Zo y k) : x.bz.length ≤ 5 := by
  have h1 := W.di.I.bzl
  have h2 : x.pu.bz.length = x.bz.length := drop1_len _
  have := W.sd.l5
  omega
theorem W4s.bznd {G H : Hp} {r dx : Addr} {Z : Sta} {x : RA} {ow : Addr} {Zo : Sta} {y : OA} {k : Nat} (W : W4s K p0 d G H r dx Z x ow Zo y k) : (x.bz.map (·.1)).Nodup := by
  rw [← drop1_keys]
  exact W.di.I.bz.nd
theorem fs1 (C : Ctx K mg base) (hr : Room 11 (XL P w K mg base f cd A outer s H0 E).A) {k : Nat} : Step (XL P w K mg base f cd A outer s H0 E) (fl 5 1) (W4 K p0 d k) (D1 K p0 d k) := by
  have nn := sc_law.nd
  have hv := hu_of hr
  refine ⟨_, ps_set (i := 10) nn rfl (by first | exact Or.inl rfl | exact Or.inr rfl) (pe_callTy (call_dictP rfl) (by rfl) C.t.b_dict (by decide +kernel) (pa_cons (pe_lock (pe_lc (own := [("tower", 21)]) (g := gName 21) rfl nn (pi_keys (pe_fld (pv 8) rfl)) (blkOk_by (N := n_law) (sc := defScope s_law) (by decide +kernel)) (fun _ _ _ _ _ => (pg_name (i := 21) nn rfl (by first | exact Or.inl rfl | exact Or.inr rfl)))
    (fun _ _ _ _ _ => pts_one (pt_cmp (pc_notN (pe_ix (r := rIxT K) ix_tup (pe_dget hv (pe_fldK (K := K) rfl (pv 8) rfl) (pv 21) (fun _ _ => rfl)) pe_int (fun _ _ => rfl)))))
    (fun _ _ _ _ _ => (pe_tup (pa_cons (pv 21) (pa_cons (pe_dget hv (pe_fldK (K := K) rfl (pv 8) rfl) (pv 21) (fun _ _ => rfl)) pa_nil)))))) pa_nil)), fun D σ H hM hq => ?_⟩
  obtain ⟨G, r, dx, Z, x, ow, Zo, y, hl, h1, h2, h7, h8, h9, W⟩ := hM
  obtain ⟨a0, a1, a2, a3, a4, a5, a6, a7, a8, a9, a10, a11, a12, a13, a14, a15, a16, a17, a18, a19, a20, a21, a22, rfl⟩ := ex23 hl
  cases h1; cases h2; cases h7; cases h8; cases h9
  have R := W.bd.b.rel
  have lbz := W.bzl
  have ndb := W.bznd
  refine ⟨x.bu, _, R.atBu, trivial, fun od => ?_⟩
  have hrd : r ≠ x.bu := fun z => by have := R.atR; rw [z, R.atBu] at this; cases this
  have TL := tabs_lock (o := od) R.tab R.atBu trivial
  have hr1 := at_lock (o := od) (u := .dK (ents rf x.bz)) R.atR hrd
  have ht1 : ∀ p ∈ x.bz, upd H x.bu (.frz od (.dK (ents rf x.bz))) p.2.1 = some (.tup (bzV p.2.2)) := fun p hp => at_lock (R.bzt p hp) fun z => by
    have := R.bzt p hp
    rw [z, R.atBu] at this
    cases this
  refine ⟨_, rfl, r, _, dx, _, _, rfl, hr1, C.t.c_Relay, C.t.a_Relay_busy, rfl, x.bu, od, rfl, .inl ⟨_, upd_same, fun D1 hD => ?_⟩⟩
  refine lc_pairs (K := K) (TT := T K) (xs := x.bz) (f := fun p => V.str p.1) (fun p => p.2.2.2.1.isSome) (fun p => [.str p.1, .ref p.2.1]) (walksVK upd_same) TL hD (by omega) (fun p hp H3 Y N L3 hY hN => ⟨rfl, ?_⟩) (fun H3 P L3 h3 hP eP => ?_)
  · have dp : DGet H3 x.bu (.str p.1) (some (.ref p.2.1)) := dget_rd (f := rf) (.inr ⟨od, L3.at upd_same⟩) (look_of ndb hp)
    have tp := L3.at (ht1 p hp)
    refine ⟨_, rfl, r, _, dx, _, _, rfl, L3.at hr1, C.t.c_Relay, C.t.a_Relay_busy, rfl, _, rfl, x.bu, _, rfl, dp, p.2.1, _, _, _, rfl, rfl, SqT.of tp, atI_nat (j := 1) rfl, _, rfl, ?_⟩
    cases ho : p.2.2.2.1 with
    | none => exact iteF (hN _ (Le.refl L3.tab) (by rw [ho]; rfl))
    | some o => exact iteT ⟨_, rfl, _, rfl, r, _, dx, _, _, rfl, L3.at hr1, C.t.c_Relay, C.t.a_Relay_busy, rfl, _, rfl, x.bu, _, rfl, dp, by show 2 ≤ sizeLine; decide, fun q hqn => hY _ q (Le.refl L3.tab) hqn (by rw [ho]; rfl)⟩
  · have L4 : Le (T K) H (upd H3 x.bu (.dK (ents rf x.bz))) := Le.unlock R.atBu trivial L3
    have hD4 : upd H3 x.bu (.dK (ents rf x.bz)) D1 = some (.lst (P.map rf)) := (upd_ne (fun z : D1 = x.bu => by rw [z, upd_same] at hD; cases hD)).trans h3
    have hP4 : ∀ q ∈ P, upd H3 x.bu (.dK (ents rf x.bz)) q.1 = some (.tup [.str q.2.1, .ref q.2.2.1]) := fun q hq => (upd_ne (fun z => by
      have := hP q hq
      rw [z, L3.at upd_same] at this
      cases this)).trans (hP q hq)
    refine ⟨L3.at upd_same, ?_⟩
    generalize upd H3 x.bu (.dK (ents rf x.bz)) = H4 at L4 hD4 hP4 ⊢
    have pe := paired_ents (K := K) (H := H4) (f := rf) (c := fun x : Str × Addr × Bz => x) hP4
    rw [show (P.map fun q => q.2) = bzF x from eP] at pe
    refine ⟨D1, P.map (fun q : Addr × Str × Addr × Bz => q.1), ents rf (bzF x), rfl, SqL.of (by rw [List.map_map]; exact hD4), pe, fun bd hbd => ?_⟩
    rw [merge0 (ndb.sublist ((List.filter_sublist).map _))]
    have L5 := L4.new (o := .dK (ents rf (bzF x))) hbd
    exact hq _ _ ⟨G, r, dx, Z, x, ow, Zo, y, bd, rfl, rfl, rfl, rfl, rfl, rfl, rfl, W.to L5, upd_same⟩
def D2 (K : PySem.W.Frag) (p0 d : Addr) (k : Nat) : L2.St → Hp → Prop := fun σ H => ∃ G r dx Z x ow Zo y bd bo, σ.length = 23 ∧ At σ 1 (.ref d) ∧ At σ 2 (.ref Zo.tw) ∧ At σ 7 (.int Zo.hold) ∧ At σ 8 (.ref r) ∧ At σ 9 (.ref ow) ∧ At σ 10 (.ref bd) ∧ At σ 11 (.ref bo) ∧ W4s K p0 d G H r dx Z x ow Zo y k ∧ H bd = some (.dK (ents rf (bzF x))) ∧ H bo = some (.lst ((busyOf y.pu.sd).map V.str))
theorem fs2 (C : Ctx K mg base) (hr : Room 11 (XL P w K mg base f cd A outer s H0 E).A) {k : Nat} : Step (XL P w K mg base f cd A outer s H0 E) (fl 5 2) (D1 K p0 d k) (D2 K p0 d k) := by
  have nn := sc_law.nd
  have hv := hu_of hr
  refine ⟨_, ps_set (i := 11) nn rfl (by first | exact Or.inl rfl | exact Or.inr rfl) (pe_op op_cat (pe_callTy (call_listD rfl) (by rfl) C.t.b_list (by decide +kernel) (pa_cons (pe_dget hv (pv 9) pe_str (fun _ _ => rfl)) pa_nil))
    (pe_lock (pe_lc (own := [("row", 22)]) (g := gName 22) rfl nn (pi_values (pe_dget hv (pv 9) pe_str (fun _ _ => rfl))) (blkOk_by (N := n_law) (sc := defScope s_law) (by decide +kernel)) (fun _ _ _ _ _ => (pg_name (i := 22) nn rfl (by first | exact Or.inl rfl | exact Or.inr rfl))) (fun _ _ _ _ _ => pts_nil)
    (fun _ _ _ _ _ => (pe_ix (r := rIxT K) ix_tup (pv 22) pe_int (fun _ _ => rfl)))))), fun D σ H hM hq => ?_⟩
  obtain ⟨G, r, dx, Z, x, ow, Zo, y, bd, hl, h1, h2, h7, h8, h9, h10, W, hbd⟩ := hM
  obtain ⟨a0, a1, a2, a3, a4, a5, a6, a7, a8, a9, a10, a11, a12, a13, a14, a15, a16, a17, a18, a19, a20, a21, a22, rfl⟩ := ex23 hl
  cases h1; cases h2; cases h7; cases h8; cases h9; cases h10
  have Ry := W.bd.b.own
  have lsd : y.sd.length ≤ 5 := by
    have e1 : y.pu.sd.length = y.sd.length := drop1_len _
    have e2 := congrArg List.length (sdOf_keys x.pu.bz)
    rw [List.length_map, List.length_map] at e2
    have e3 := W.di.I.bzl
    have e4 : (sends x.pu.bz).length ≤ x.pu.bz.length := List.length_filter_le _ _
    have e5 : y.pu.sd = sdOf x.pu.bz := congrArg OS.sd W.ey
    rw [e5] at e1
    have := W.sd.l5
    omega
  refine ⟨_, rfl, ow, _, rfl, Ry.get "sends" _ rfl, y.se, _, rfl, .inl Ry.atSe, fun pk hpk => ?_⟩
  have ek : (ents rf y.sd).map (fun kv => kV kv.1) = (y.sd.map (·.1)).map V.str := by unfold ents; rw [List.map_map, List.map_map]; rfl
  rw [ek]
  have L5 := (Le.refl Ry.tab).new (o := .lst ((y.sd.map (·.1)).map V.str)) hpk
  have k5 : upd H pk (.lst ((y.sd.map (·.1)).map V.str)) pk = some (.lst ((y.sd.map (·.1)).map V.str)) := upd_same
  generalize upd H pk (.lst ((y.sd.map (·.1)).map V.str)) = H5 at L5 k5 ⊢
  have R5 := Ry.to L5
  refine ⟨y.se, _, R5.atSe, trivial, fun od => ?_⟩
  have TL := tabs_lock (o := od) R5.tab R5.atSe trivial
  have hO1 := at_lock (o := od) (u := .dK (ents rf y.sd)) R5.atO R5.ow_ne.2
  have gO : ∀ {H4 : Hp}, Le (T K) (upd H5 y.se (.frz od (.dK (ents rf y.sd)))) H4 → DGet H4 ow (.str "sends") (some (.ref y.se)) := fun L => DGet.k (k := Sum.inr "sends") (L.at hO1)
  refine ⟨_, rfl, ow, _, rfl, gO (Le.refl TL), y.se, od, _, rfl, upd_same, fun D2 hD => ?_⟩
  refine lc_pick (K := K) (T := T K) (xs := y.sd) (f := fun p => rf p.2) (fun _ => true) (fun p => V.str p.2.2.2.1) (walksVD upd_same) TL hD (by omega) (fun p hp H6 Y N L6 hY hN => ⟨rfl, yes_ (iteT ?_)⟩) (fun H6 L6 h6 => ?_)
  · have tp := L6.at (at_lock (o := od) (u := .dK (ents rf y.sd)) (R5.sdt p hp) fun z => by
      have := R5.sdt p hp
      rw [z, R5.atSe] at this
      cases this)
    exact ⟨_, rfl, p.2.1, _, _, _, rfl, rfl, SqT.of tp, atI_nat (j := 1) rfl, hY _ (Le.refl L6.tab) rfl⟩
  have L7 : Le (T K) H5 (upd H6 y.se (.dK (ents rf y.sd))) := Le.unlock R5.atSe trivial L6
  have hD7 := (upd_ne (o := .dK (ents rf y.sd)) (fun z : D2 = y.se => by rw [z, upd_same] at hD; cases hD)).trans h6
  refine ⟨L6.at upd_same, ?_⟩
  generalize upd H6 y.se (.dK (ents rf y.sd)) = H7 at L7 hD7 ⊢
  have k7 := L7.at k5
  have eb : (y.sd.map (·.1)).map V.str ++ (y.sd.filter fun _ => true).map (fun p => V.str p.2.2.2.1) = (busyOf y.pu.sd).map V.str := by
    rw [List.filter_eq_self.mpr fun _ _ => rfl]
    unfold busyOf
    show _ = (((y.sd.map fun p => (p.1, p.2.2)).map (·.1)) ++ ((y.sd.map fun p => (p.1, p.2.2)).map (·.2.2.1))).map V.str
    rw [List.map_append, List.map_map, List.map_map, List.map_map, List.map_map, List.map_map]
    rfl
  refine ⟨pk, D2, _, _, rfl, rfl, k7, hD7, ?_, fun pb hpb => ?_⟩
  · rw [List.length_map, List.length_map, List.length_map]
    exact Nat.le_trans (Nat.add_le_add lsd (Nat.le_trans (List.length_filter_le _ _) lsd)) (by decide)
  rw [eb]
  have L8 := (L5.trans L7).new (o := .lst ((busyOf y.pu.sd).map V.str)) hpb
  have L9 := (L5.trans L7)
  exact hq _ _ ⟨G, r, dx, Z, x, ow, Zo, y, bd, pb, rfl, rfl, rfl, rfl, rfl, rfl, rfl, rfl, W.to L8, L8.at hbd, upd_same⟩
end
end K6

-- text K6Ld
set_option maxRecDepth 100000
set_option maxHeartbeats 4000000
namespace K6
open PySem PySem.Spec PyProof.Rows L2 LamX GX
section
variable {P : Program} {w : World} {K : PySem.W.Frag} {mg : Str → Option Value} {base : Heap}
variable {f : Addr} {cd : Value} {A : Around} {outer : List Env} {s : Shared} {H0 : Hp} {E : XK}
/-! ### both relays are compared -/
section
variable {H : Hp}
theorem same_ents {α β : Type} {f : α → V} {g : β → V} {cs : SD α} {cs' : SD β} (hl : cs.length = cs'.length) (h : ∀ p ∈ cs, ∃ q d, look cs' p.1 = some q ∧ Dp K H (f p.2) d ∧ Dp K H (g q) d ∧ SeqAt.shaped d = true ∧ d.canLay0 = true) : SameD K H (ents f cs) (ents g cs') := by
  refine ⟨by rw [ents_len, ents_len, hl], fun kv hkv => ?_⟩
  unfold ents at hkv
  obtain ⟨p, hp, rfl⟩ := List.mem_map.mp hkv
  obtain ⟨q, d, h1, h2, h3, h4, h5⟩ := h p hp
  exact ⟨g q, d, by rw [valV_ents, h1]; rfl, h2, h3, h4, h5⟩
def rowD (y : Row4) : PyData := .tuple [.int y.1, .str y.2.1, .str y.2.2.1, .str y.2.2.2]
theorem dp_rows : ∀ {l : List (Addr × Row4)}, (∀ y ∈ l, H y.1 = some (.tup (rowV y.2))) → DpAll K H (l.map rf) ((l.map (·.2)).map rowD)
  | [], _ => .nil
  | y :: r, h => .cons (.tup (SqT.of (h y List.mem_cons_self)) (.cons (.int _) (.cons (.str _) (.cons (.str _) (.cons (.str _) .nil))))) (dp_rows fun z hz => h z (List.mem_cons_of_mem _ hz))
theorem wH_ok : ∀ w ∈ wH, (PyData.str w).canLay0 = true := by decide +kernel
theorem lay_row {ts : List Str} (hts : ∀ t ∈ ts, (PyData.str t).canLay0 = true) {y : Row4} (h : rowT ts y) : (rowD y).canLay0 = true ∧ (rowD y).depth ≤ 1 := lay_tuple (n := 0) fun d hd => by
  simp only [List.mem_cons, List.not_mem_nil, or_false] at hd
  rcases hd with rfl | rfl | rfl | rfl
  · exact ⟨rfl, Nat.le_refl _⟩
  · exact ⟨wH_ok _ h.1, Nat.le_refl _⟩
  · exact ⟨hts _ h.2.1, Nat.le_refl _⟩
  · exact ⟨mN_ok _ h.2.2, Nat.le_refl _⟩
theorem lay_rows {ts : List Str} (hts : ∀ t ∈ ts, (PyData.str t).canLay0 = true) {l : List Row4} (h : ∀ y ∈ l, rowT ts y) : (PyData.list (l.map rowD)).canLay0 = true ∧ (PyData.list (l.map rowD)).depth ≤ 2 := lay_list fun d hd => by
  obtain ⟨y, hy, rfl⟩ := List.mem_map.mp hd
  exact lay_row hts (h y hy)
def msgD (m : Msg) : PyData := .list [.str m.s, .str m.e, .int m.n, .bool m.u, .str (stV m.th)]
theorem lay_msg {ts : List Str} (hts : ∀ t ∈ ts, (PyData.str t).canLay0 = true) {m : Msg} (h1 : m.s ∈ ts) (h2 : m.e ∈ ts) : (msgD m).canLay0 = true ∧ (msgD m).depth ≤ 1 := lay_list (n := 0) fun d hd => by
  simp only [List.mem_cons, List.not_mem_nil, or_false] at hd
  rcases hd with rfl | rfl | rfl | rfl | rfl
  · exact ⟨hts _ h1, Nat.le_refl _⟩
  · exact ⟨hts _ h2, Nat.le_refl _⟩
  · exact ⟨rfl, Nat.le_refl _⟩
  · exact ⟨rfl, Nat.le_refl _⟩
  · refine ⟨?_, Nat.le_refl _⟩
    cases m.th <;> decide +kernel
variable {p0 d : Addr} {G : Hp} {r dx : Addr} {Z : Sta} {x : RA} {ow : Addr} {Zo : Sta} {y : OA} {k : Nat}
theorem W4s.nms (W : W4s K p0 d G H r dx Z x ow Zo y k) {n : Str} {m : Msg} (h : look x.pu.ms n = some m) : (PyData.str n).canLay0 = true := mN_ok _ (W.di.nm _ (List.mem_map.mpr ⟨_, look_in h, rfl⟩))
theorem W4s.sameQ (W : W4s K p0 d G H r dx Z x ow Zo y k) : SameD K H (ents rf x.qu) (ents rf y.qu) := by
  have e1 : y.pu.qu = x.pu.qu := congrArg OS.qu W.ey
  have R := W.bd.b.rel
  have O := W.bd.b.own
  have ndx : (x.qu.map (·.1)).Nodup := by
    rw [← drop1_keys]
    exact W.di.I.ndQ W.sd.nd
  refine same_ents ?_ fun p hp => ?_
  · have h1 : x.pu.qu.length = x.qu.length := drop1_len _
    have h2 : y.pu.qu.length = y.qu.length := drop1_len _
    rw [e1] at h2
    omega
  · have l1 : look x.pu.qu p.1 = some p.2.2 := by rw [pu_qu, look_of ndx hp]; rfl
    obtain ⟨b, hb⟩ := look_un (cs := y.qu) (n := p.1) (v := p.2.2) (by rw [← ol_qu, e1]; exact l1)
    obtain ⟨_, _, hk⟩ := W.di.I.ql l1
    have ly : (PyData.list (p.2.2.map PyData.str)).canLay0 = true ∧ (PyData.list (p.2.2.map PyData.str)).depth ≤ 1 := lay_list (names_lay fun n hn => by
      obtain ⟨m, hm, _⟩ := hk n hn
      exact W.nms hm)
    exact ⟨_, _, hb, .lst (SqL.of (R.atQu hp)) (DpAll.strs _), .lst (SqL.of (O.atQu (look_in hb))) (DpAll.strs _), shaped_of ly (by decide), ly.1⟩
theorem W4s.sameM (W : W4s K p0 d G H r dx Z x ow Zo y k) : SameD K H (ents rf x.ms) (ents rf y.ms) := by
  have e1 : y.pu.ms = x.pu.ms := congrArg OS.ms W.ey
  have R := W.bd.b.rel
  have O := W.bd.b.own
  have ndx : (x.ms.map (·.1)).Nodup := by
    rw [← drop1_keys]
    exact W.di.I.mnd
  refine same_ents ?_ fun p hp => ?_
  · have h1 : x.pu.ms.length = x.ms.length := drop1_len _
    have h2 : y.pu.ms.length = y.ms.length := drop1_len _
    rw [e1] at h2
    omega
  · have l1 : look x.pu.ms p.1 = some p.2.2 := by rw [pu_ms, look_of ndx hp]; rfl
    obtain ⟨b, hb⟩ := look_un (cs := y.ms) (n := p.1) (v := p.2.2) (by rw [← ol_ms, e1]; exact l1)
    obtain ⟨h1, h2, _⟩ := W.di.I.me _ _ l1
    have ly := lay_msg W.tok h1 h2
    exact ⟨_, msgD p.2.2, hb, .lst (SqL.of (R.atMs hp)) (.cons (.str _) (.cons (.str _) (.cons (.int _) (.cons (.bl _) (.cons (.str _) .nil))))), .lst (SqL.of (O.atMs (look_in hb))) (.cons (.str _) (.cons (.str _) (.cons (.int _) (.cons (.bl _) (.cons (.str _) .nil))))), shaped_of ly (by decide), ly.1⟩
theorem W4s.sameF (W : W4s K p0 d G H r dx Z x ow Zo y k) : SameD K H (ents V.int x.fog) (ents V.int y.fog) := by
  have e1 : y.fog = x.fog := congrArg OS.fog W.ey
  rw [e1]
  refine same_ents rfl fun p hp => ⟨p.2, .int p.2, look_of W.di.I.fnd hp, .int _, .int _, rfl, rfl⟩
theorem drop1_filter (x : RA) : sends x.pu.bz = drop1 (bzF x) := by
  unfold sends drop1 bzF
  show (List.map _ x.bz).filter _ = _
  rw [List.filter_map]
  rfl
theorem W4s.sameB (W : W4s K p0 d G H r dx Z x ow Zo y k) : SameD K H (ents rf (bzF x)) (ents rf y.sd) := by
  have e1 : y.pu.sd = sdOf x.pu.bz := congrArg OS.sd W.ey
  have R := W.bd.b.rel
  have O := W.bd.b.own
  have ndx := W.bznd
  refine same_ents ?_ fun p hp => ?_
  · have h1 := congrArg List.length (sdOf_keys x.pu.bz)
    rw [List.length_map, List.length_map, drop1_filter] at h1
    have h2 : (drop1 (bzF x)).length = (bzF x).length := drop1_len _
    have h3 : y.pu.sd.length = y.sd.length := drop1_len _
    rw [e1] at h3
    omega
  · obtain ⟨hp1, hp2⟩ := List.mem_filter.mp hp
    obtain ⟨t, a, n, oo, l⟩ := p
    cases oo with
    | none => cases hp2
    | some o =>
      have l1 : look x.pu.bz t = some (n, some o, l) := by rw [pu_bz, look_of ndx hp1]; rfl
      have l2 : look y.pu.sd t = some (n, o, l) := by
        rw [e1, look_sdOf W.di.I.bz.nd, l1]
        rfl
      obtain ⟨b, hb⟩ := look_un (cs := y.sd) (n := t) (v := (n, o, l)) (by rw [← ol_sd]; exact l2)
      obtain ⟨m, hm, _⟩ := W.di.I.pm n (List.mem_append_right _ (List.mem_map.mpr ⟨_, look_sends l1, rfl⟩))
      obtain ⟨o1, o2, o3⟩ := W.di.I.bz.other l1
      have ly : (PyData.tuple [.str n, .str o, .int l]).canLay0 = true ∧ (PyData.tuple [.str n, .str o, .int l]).depth ≤ 1 := lay_tuple (n := 0) fun d hd => by
        simp only [List.mem_cons, List.not_mem_nil, or_false] at hd
        rcases hd with rfl | rfl | rfl
        · exact ⟨W.nms hm, Nat.le_refl _⟩
        · exact ⟨W.tok _ (W.di.I.bt o o2), Nat.le_refl _⟩
        · exact ⟨rfl, Nat.le_refl _⟩
      exact ⟨_, _, hb, .tup (SqT.of (R.bzt _ hp1)) (.cons (.str _) (.cons (.str _) (.cons (.int _) .nil))), .tup (SqT.of (O.sdt _ (look_in hb))) (.cons (.str _) (.cons (.str _) (.cons (.int _) .nil))), shaped_of ly (by decide), ly.1⟩
end
variable {p0 d : Addr}
theorem fs4 (C : Ctx K mg base) (hr : Room 11 (XL P w K mg base f cd A outer s H0 E).A) {k : Nat} : Step (XL P w K mg base f cd A outer s H0 E) (fl 5 4) (W4 K p0 d k) (W4 K p0 d k) := by
  have nn := sc_law.nd
  have hv := hu_of hr
  refine ⟨_, ps_if (PW.pt (pw_or (pt_cmpR (op_neD hr.units) (pe_fld (pv 8) rfl) (pe_dget hv (pv 9) pe_str (fun _ _ => rfl)) (nomark _))
    (pw_or (pt_cmpR (op_ne_dictD (hu65 hr)) (pe_fld (pv 8) rfl) (pe_dget hv (pv 9) pe_str (fun _ _ => rfl)) (nomark _))
    (pw_or (pt_cmpR op_ne (pe_fld (pv 8) rfl) (pe_dget hv (pv 9) pe_str (fun _ _ => rfl)) (nomark _))
    (pw_or1 (pt_cmpR (op_ne_dictD (hu65 hr)) (pe_fld (pv 8) rfl) (pe_dget hv (pv 9) pe_str (fun _ _ => rfl)) (nomark _))))))) (pss_one (ps_ret pe_bl)) pss_nil, fun D σ H hM hq => ?_⟩
  obtain ⟨G, r, dx, Z, x, ow, Zo, y, hl, h1, h2, h7, h8, h9, W⟩ := hM
  have R := W.bd.b.rel
  have O := W.bd.b.own
  have e1 : x.rw.map (·.2) = y.rw.map (·.2) := (congrArg OS.rw W.ey).symm
  have ly := lay_rows W.tok W.di.ro
  have dy := dp_rows (K := K) O.rwt
  rw [← e1] at dy
  refine ⟨_, h8, r, _, dx, _, _, rfl, R.atR, C.t.c_Relay, C.t.a_Relay_rows, rfl, _, h9, ow, _, rfl, O.get "rows" _ rfl, _, _, .lst (SqL.of R.atRo) (dp_rows R.rwt), .lst (SqL.of O.atRo) dy, shaped_of ly (by decide), shaped_of ly (by decide), _, rfl, ?_⟩
  have ev : PyData.eqv (.list ((x.rw.map (·.2)).map rowD)) (.list ((x.rw.map (·.2)).map rowD)) = true := SeqAt.eqv_refl _ ly.1
  rw [ev]
  refine iteF ⟨_, h8, r, _, dx, _, _, rfl, R.atR, C.t.c_Relay, C.t.a_Relay_fog, rfl, _, h9, ow, _, rfl, O.get "fog" _ rfl, x.fo, y.fo, _, _, rfl, rfl, R.atFo, O.atFo, W.sameF, _, rfl, iteF ?_⟩
  have em : y.mi = x.mi := congrArg OS.mi W.ey
  refine ⟨_, h8, r, _, dx, _, _, rfl, R.atR, C.t.c_Relay, C.t.a_Relay_minute, rfl, _, h9, ow, _, rfl, O.get "minute" _ rfl, rfl, _, rfl, iteNS (by rw [em]) ?_⟩
  exact ⟨_, h8, r, _, dx, _, _, rfl, R.atR, C.t.c_Relay, C.t.a_Relay_messages, rfl, _, h9, ow, _, rfl, O.get "messages" _ rfl, x.me, y.me, _, _, rfl, rfl, R.atMe, O.atMe, W.sameM, _, rfl, iteF (hq _ _ ⟨G, r, dx, Z, x, ow, Zo, y, hl, h1, h2, h7, h8, h9, W⟩)⟩
theorem fs3 (C : Ctx K mg base) (hr : Room 11 (XL P w K mg base f cd A outer s H0 E).A) {k : Nat} : Step (XL P w K mg base f cd A outer s H0 E) (fl 5 3) (D2 K p0 d k) (W4 K p0 d k) := by
  have nn := sc_law.nd
  have hv := hu_of hr
  refine ⟨_, ps_if (PW.pt (pw_or (pt_cmpR (op_ne_dictD (hu65 hr)) (pe_fld (pv 8) rfl) (pe_dget hv (pv 9) pe_str (fun _ _ => rfl)) (nomark _))
    (pw_or (pt_cmpR (op_ne_dictD (hu65 hr)) (pv 10) (pe_dget hv (pv 9) pe_str (fun _ _ => rfl)) (nomark _))
    (pw_or (pt_cmpR (op_neD hr.units) (pe_callB (call_sortedD rfl) (by rfl) C.t.b_sorted (by decide +kernel) (pa_cons (pe_fld (pv 8) rfl) pa_nil)) (pe_callB cr_sortedS (by rfl) C.t.b_sorted (by decide +kernel) (pa_cons (pv 11) pa_nil)) (nomark _))
    (pw_or1 (pt_cmpR op_ne (pe_callB call_lenD (by rfl) C.t.b_len PySem.boot_len (pa_cons (pe_callTy (call_dictP rfl) (by rfl) C.t.b_dict (by decide +kernel) (pa_cons (pe_lc (own := [("tower", 21)]) (g := gName 21) rfl nn (pi_list (pv 11)) (blkOk_by (N := n_law) (sc := defScope s_law) (by decide +kernel)) (fun _ _ _ _ _ => (pg_name (i := 21) nn rfl (by first | exact Or.inl rfl | exact Or.inr rfl))) (fun _ _ _ _ _ => pts_nil) (fun _ _ _ _ _ => (pe_tup (pa_cons (pv 21) (pa_cons pe_int pa_nil))))) pa_nil)) pa_nil)) (pe_callB call_len_seq (by rfl) C.t.b_len PySem.boot_len (pa_cons (pv 11) pa_nil)) (nomark _))))))) (pss_one (ps_ret pe_bl)) pss_nil, fun D σ H hM hq => ?_⟩
  obtain ⟨G, r, dx, Z, x, ow, Zo, y, bd, bo, hl, h1, h2, h7, h8, h9, h10, h11, W, hbd, hbo⟩ := hM
  have R := W.bd.b.rel
  have O := W.bd.b.own
  refine ⟨_, h8, r, _, dx, _, _, rfl, R.atR, C.t.c_Relay, C.t.a_Relay_queues, rfl, _, h9, ow, _, rfl, O.get "queues" _ rfl, x.qs, y.qs, _, _, rfl, rfl, R.atQs, O.atQs, W.sameQ, _, rfl, iteF ?_⟩
  refine ⟨_, h10, _, h9, ow, _, rfl, O.get "sends" _ rfl, bd, y.se, _, _, rfl, rfl, hbd, O.atSe, W.sameB, _, rfl, iteF ?_⟩
  have pm := busy_perm W.di.I.bz
  have esd : y.pu.sd = sdOf x.pu.bz := congrArg OS.sd W.ey
  rw [← esd] at pm
  have kbz : x.pu.bz.map (·.1) = x.bz.map (·.1) := drop1_keys _
  rw [kbz] at pm
  have lbo : (busyOf y.pu.sd).length ≤ 5 := by
    rw [← pm.length_eq, List.length_map]
    exact W.bzl
  have ndb : (busyOf y.pu.sd).Nodup := pm.nodup_iff.mp W.bznd
  generalize busyOf y.pu.sd = both at pm lbo ndb hbo
  refine ⟨_, h8, r, _, dx, _, _, rfl, R.atR, C.t.c_Relay, C.t.a_Relay_busy, rfl, x.bu, _, x.bz.map (·.1), rfl, .inl R.atBu, by unfold ents; rw [List.map_map, List.map_map]; rfl, by rw [List.length_map]; have := W.bzl; omega, fun ys p1 hys sys hp1 => ?_⟩
  have L1 := (Le.refl R.tab).new (o := .lst (ys.map V.str)) hp1
  refine ⟨_, h11, bo, both, rfl, SqL.of (L1.at hbo), by omega, fun zs p2 hzs szs hp2 => ?_⟩
  have L2 := L1.new (o := .lst (zs.map V.str)) hp2
  have e12 : upd (upd H p1 (.lst (ys.map V.str))) p2 (.lst (zs.map V.str)) p1 = some (.lst (ys.map V.str)) := (upd_ne (ne_of_none upd_same hp2)).trans upd_same
  have e22 : upd (upd H p1 (.lst (ys.map V.str))) p2 (.lst (zs.map V.str)) p2 = some (.lst (zs.map V.str)) := upd_same
  generalize upd (upd H p1 (.lst (ys.map V.str))) p2 (.lst (zs.map V.str)) = H2 at L2 e12 e22 ⊢
  obtain rfl : ys = zs := sorted_uniq sys szs (hys.trans (pm.trans hzs.symm))
  have ly : (PyData.list (ys.map PyData.str)).canLay0 = true ∧ (PyData.list (ys.map PyData.str)).depth ≤ 1 := lay_list (names_lay fun n hn => by
    have h1 := hys.mem_iff.mp hn
    rw [← kbz] at h1
    exact W.tok n (W.di.I.bt n h1))
  refine ⟨_, _, .lst (SqL.of e12) (DpAll.strs _), .lst (SqL.of e22) (DpAll.strs _), shaped_of ly (by decide), shaped_of ly (by decide), _, rfl, ?_⟩
  rw [SeqAt.eqv_refl _ ly.1]
  have hbo2 := L2.at hbo
  refine iteF ⟨_, h11, bo, rfl, ⟨_, SqL.of hbo2⟩, fun D1 hD => ?_⟩
  refine lc_pairs (K := K) (TT := T K) (xs := both) (f := V.str) (fun _ => true) (fun t => [.str t, .int 1]) (walksVL (SqL.of hbo2)) L2.tab hD (by omega) (fun p hp H3 Y N L3 hY hN => ?_) (fun H3 P L3 h3 hP eP => ?_)
  · obtain ⟨a0, a1, a2, a3, a4, a5, a6, a7, a8, a9, a10, a11, a12, a13, a14, a15, a16, a17, a18, a19, a20, a21, a22, rfl⟩ := ex23 hl
    exact ⟨rfl, yes_ (iteT ⟨_, rfl, by show 2 ≤ sizeLine; decide, fun q hqn => hY _ q (Le.refl L3.tab) hqn rfl⟩)⟩
  rw [List.filter_eq_self.mpr fun _ _ => rfl] at eP
  have pe := paired_ents (K := K) (H := H3) (f := V.int) (c := fun t : Str => (t, 1)) hP
  have ePc : (P.map fun q => ((q.2, 1) : Str × Int)) = both.map fun t => (t, 1) := by rw [← eP, List.map_map]; rfl
  rw [ePc] at pe
  refine ⟨D1, P.map (fun q : Addr × Str => q.1), ents V.int (both.map fun t => ((t, 1) : Str × Int)), rfl, SqL.of (by rw [List.map_map]; exact h3), pe, fun dd hdd => ?_⟩
  rw [merge0 (by rw [List.map_map]; exact (List.map_id both).symm ▸ ndb)]
  have L4 := (L2.trans L3).new (o := .dK (ents V.int (both.map fun t => ((t, 1) : Str × Int)))) hdd
  refine ⟨dd, _, rfl, upd_same, _, h11, bo, _, rfl, .inl (SqL.of (L4.at hbo)), rfl, _, rfl, ?_⟩
  rw [ents_len, List.length_map, List.length_map]
  exact iteNS rfl (hq _ _ ⟨G, r, dx, Z, x, ow, Zo, y, hl, h1, h2, h7, h8, h9, W.to L4⟩)
end
end K6

-- text K6Le
set_option maxRecDepth 100000
set_option maxHeartbeats 4000000
namespace K6
open PySem PySem.Spec PyProof.Rows L2 LamX GX
section
variable {P : Program} {w : World} {K : PySem.W.Frag} {mg : Str → Option Value} {base : Heap}
variable {f : Addr} {cd : Value} {A : Around} {outer : List Env} {s : Shared} {H0 : Hp} {E : XK}
/-! ### the days, and the routes behind them -/
def WX (K : PySem.W.Frag) (p0 d : Addr) (G : Hp) (r dx : Addr) (Z : Sta) (x : RA) (ow : Addr) (Zo : Sta) (y : OA) (k : Nat) (σ : L2.St) (H : Hp) : Prop := σ.length = 23 ∧ At σ 1 (.ref d) ∧ At σ 2 (.ref Zo.tw) ∧ At σ 7 (.int Zo.hold) ∧ At σ 8 (.ref r) ∧ At σ 9 (.ref ow) ∧ W4s K p0 d G H r dx Z x ow Zo y k
section
variable {p0 d : Addr} {G : Hp} {r dx : Addr} {Z : Sta} {x : RA} {ow : Addr} {Zo : Sta} {y : OA} {k : Nat} {σ : L2.St} {H H' : Hp}
theorem WX.set (h : WX K p0 d G r dx Z x ow Zo y k σ H) {j : Nat} {v : Option V} (hj : j ≠ 1 ∧ j ≠ 2 ∧ j ≠ 7 ∧ j ≠ 8 ∧ j ≠ 9) : WX K p0 d G r dx Z x ow Zo y k (σ.set j v) H := by
  obtain ⟨a, b, c, e, g, m, W⟩ := h
  exact ⟨by rw [List.length_set]; exact a, at_set b (Ne.symm hj.1), at_set c (Ne.symm hj.2.1), at_set e (Ne.symm hj.2.2.1), at_set g (Ne.symm hj.2.2.2.1), at_set m (Ne.symm hj.2.2.2.2), W⟩
theorem WX.to (h : WX K p0 d G r dx Z x ow Zo y k σ H) (l : Le (T K) H H') : WX K p0 d G r dx Z x ow Zo y k σ H' := by
  obtain ⟨a, b, c, e, g, m, W⟩ := h
  exact ⟨a, b, c, e, g, m, W.to l⟩
end
variable {p0 d : Addr}
theorem W4.set {k : Nat} {σ : L2.St} {H : Hp} (h : W4 K p0 d k σ H) {j : Nat} {v : Option V} (hj : j ≠ 1 ∧ j ≠ 2 ∧ j ≠ 7 ∧ j ≠ 8 ∧ j ≠ 9) : W4 K p0 d k (σ.set j v) H := by
  obtain ⟨G, r, dx, Z, x, ow, Zo, y, h⟩ := h
  exact ⟨G, r, dx, Z, x, ow, Zo, y, WX.set (K := K) h hj⟩
theorem fday (C : Ctx K mg base) (hr : Room 11 (XL P w K mg base f cd A outer s H0 E).A) : ∃ t, PSs (XL P w K mg base f cd A outer s H0 E) (forB (sl 5)) t ∧ ∀ (k : Nat), k ≤ 100 → ∀ (D : Ends) (σ : L2.St) (H : Hp), W4 K p0 d k σ H → (∀ σ' H', W4 K p0 d (k + 1) σ' H' → D.nx σ' H') → t D σ H := by
  have hb := fun i : {k : Nat // k ≤ 100} => (show Steps (XL P w K mg base f cd A outer s H0 E) (forB (sl 5)) (W4 K p0 d i.1) (W4 K p0 d (i.1 + 1)) from (fs0 C hr i.2).cons ((fs1 C hr).cons ((fs2 C hr).cons ((fs3 C hr).cons ((fs4 C hr).cons .nil)))))
  exact ⟨_, pss_ex fun i => (Classical.choose_spec (hb i)).1, fun k hk D σ H hM hq => ⟨⟨k, hk⟩, (Classical.choose_spec (hb ⟨k, hk⟩)).2 D σ H hM hq⟩⟩
def W5 (K : PySem.W.Frag) (p0 d : Addr) : L2.St → Hp → Prop := fun σ H => ∃ k, k ≤ 21 ∧ W4 K p0 d k σ H
theorem ls5 (C : Ctx K mg base) (hr : Room 11 (XL P w K mg base f cd A outer s H0 E).A) : Step (XL P w K mg base f cd A outer s H0 E) (sl 5) (W4 K p0 d 0) (W5 K p0 d) := by
  have nn := sc_law.nd
  obtain ⟨tb, hb1, hb2⟩ := fday (P := P) (w := w) (p0 := p0) (d := d) C hr
  refine ⟨_, ps_for (body := forB (sl 5)) ownsA rfl (pi_range1 (by rfl) C.t.b_range (pa_cons (pe_cx (ok_roll (P := P) (w := w) C) hr (by decide) rfl passA (pa_cons (pv 1) (pa_cons pe_int pa_nil))) pa_nil)) (pg_name (i := 4) nn rfl (by first | exact Or.inl rfl | exact Or.inr rfl)) hb1, fun D σ H hM hq => ?_⟩
  obtain ⟨G, r, dx, Z, x, ow, Zo, y, hl, h1, h2, h7, h8, h9, W⟩ := hM
  obtain ⟨qx, qy, qz, qd⟩ := W.bd.dice
  refine ⟨_, h1, d, qx, qy, qz, _, rfl, qd, by decide, by decide, fun qx qy qz qr q0 q1 => ?_⟩
  obtain ⟨m, hm, rfl⟩ : ∃ k : Nat, k < 21 ∧ qr = (k : Int) := ⟨qr.toNat, by omega, by omega⟩
  refine ⟨_, rfl, by omega, by omega, ?_⟩
  rw [show ((m : Nat) : Int).toNat = m by omega]
  exact for_range (lo := 0) (n := m) (fun i σ' H' => W4 K p0 d i σ' H') ⟨G, r, dx, Z, x, ow, Zo, y, hl, h1, h2, h7, h8, h9, ⟨W.bd.roll _ _ _, W.sm, W.sd, W.di, W.ey, W.lp, W.tok⟩⟩
    (fun i σ' H' hi hP => hb2 i (by omega) _ _ _ (hP.set (by decide)) fun σ'' H'' h => h) (fun σ' H' hP => hq _ _ ⟨m, by omega, hP⟩)
theorem ls6 (C : Ctx K mg base) (hr : Room 11 (XL P w K mg base f cd A outer s H0 E).A) : Step (XL P w K mg base f cd A outer s H0 E) (sl 6) (W5 K p0 d) (W5 K p0 d) := by
  have nn := sc_law.nd
  obtain ⟨fN, fdN, FN, bN, mN', cN⟩ := ok_near (P := P) (w := w) C
  obtain ⟨fR, fdR, FR, bR, mR, cR⟩ := ok_route (P := P) (w := w) C
  refine ⟨_, ps_for ownsA rfl (pi_list (pv 2)) (pg_name (i := 5) nn rfl (by first | exact Or.inl rfl | exact Or.inr rfl)) (pss_cons (ps_if (pt_cmpR (op_neD hr.units) (pe_callTy call_list_of (by rfl) C.t.b_list (by decide +kernel) (pa_cons (pe_meth (pv 8) cN mN' FN (hr.mono (by decide)) bN .nil passA (pa_cons (pv 5) pa_nil)) pa_nil)) (pe_cx (ok_lnear (P := P) (w := w) C) hr (by decide) rfl passA (pa_cons (pv 9) (pa_cons (pv 5) pa_nil))) (nomark _)) (pss_one (ps_ret pe_bl)) pss_nil)
    (pss_one (ps_for ownsA rfl (pi_list (pv 2)) (pg_name (i := 6) nn rfl (by first | exact Or.inl rfl | exact Or.inr rfl)) (pss_cons (ps_set (i := 12) nn rfl (by first | exact Or.inl rfl | exact Or.inr rfl) (pe_cx (ok_lroute (P := P) (w := w) C) hr (by decide) rfl passA (pa_cons (pv 9) (pa_cons (pv 5) (pa_cons (pv 6) pa_nil)))))
      (pss_one (ps_if (pt_cmpR (op_neD hr.units) (pe_meth (pv 8) cR mR FR (hr.mono (by decide)) bR .nil passA (pa_cons (pv 5) (pa_cons (pv 6) pa_nil))) (pe_ifExp (pt_cmp (pc_notN (pv 12))) (pe_callTy call_tuple_of (by rfl) C.t.b_tuple (by decide +kernel) (pa_cons (pv 12) pa_nil)) pe_non) (nomark _)) (pss_one (ps_ret pe_bl)) pss_nil)))))), fun D σ H hM hq => ?_⟩
  obtain ⟨k, hk, G, r, dx, Z, x, ow, Zo, y, hX⟩ := hM
  have hX : WX K p0 d G r dx Z x ow Zo y k σ H := hX
  obtain ⟨hl, h1, h2, h7, h8, h9, W⟩ := id hX
  have twa : ∀ {σ : L2.St} {H' : Hp}, WX K p0 d G r dx Z x ow Zo y k σ H' → H' Zo.tw = some (.lst (Zo.ts.map V.str)) := fun h => h.2.2.2.2.2.2.bd.b.own.st.tw
  have ef : y.fog = x.pu.fog := congrArg OS.fog W.ey
  have eN : ∀ s : Str, nearF Zo.ts Zo.lp y.fog s = nearF Z.ts Z.lp x.fog s := fun s => by rw [W.sm.ts, W.sm.lp, ef]; rfl
  have eF : nearF Zo.ts Zo.lp y.fog = nearF Z.ts Z.lp x.fog := funext eN
  have tok := W.tok
  have tsz := W.sm.ts
  refine ⟨_, h2, Zo.tw, rfl, ⟨_, SqL.of (twa hX)⟩, ?_⟩
  refine for_list (xs := Zo.ts.map V.str) (fun i σ' H' => WX K p0 d G r dx Z x ow Zo y k σ' H') hX (fun i σ' H' _ hP => SqL.of (twa hP)) (fun i v σ1 H1 hv hP => ?_) (fun σ1 H1 hP => hq _ _ ⟨k, hk, G, r, dx, Z, x, ow, Zo, y, hP⟩)
  obtain ⟨one, h1e, rfl⟩ := GX.get_map hv
  have m1 : one ∈ Z.ts := by rw [← tsz]; exact List.mem_of_getElem? h1e
  have hP1 := hP.set (j := 5) (v := some (V.str one)) (by decide)
  have a5 : At (σ1.set 5 (some (V.str one))) 5 (.str one) := at_self (by rw [hP.1]; decide)
  clear hP
  obtain ⟨hl, h1, h2, h7, h8, h9, W⟩ := id hP1
  have R := W.bd.b.rel
  refine ⟨_, h8, r, dx, _, rfl, R.atR, rfl, _, a5, _, r, dx, Z, x, one, rfl, R, fun hm H2 t L2 _ ht => ?_, fun hno => absurd m1 hno⟩
  refine ⟨t, _, rfl, .inr (SqT.of ht), fun c hc => ?_⟩
  have X3 := (hP1.to L2).to ((Le.refl L2.tab).new (o := .lst ((nearF Z.ts Z.lp x.fog one).map V.str)) hc)
  have hc3 : upd H2 c (.lst ((nearF Z.ts Z.lp x.fog one).map V.str)) c = some (.lst ((nearF Z.ts Z.lp x.fog one).map V.str)) := upd_same
  generalize upd H2 c (.lst ((nearF Z.ts Z.lp x.fog one).map V.str)) = H3 at X3 hc3 ⊢
  refine ⟨_, h9, _, a5, _, ow, Zo, y, one, rfl, X3.2.2.2.2.2.2.bd.b.own, by rw [tsz]; exact m1, fun H4 p L4 hp => ?_⟩
  rw [eN] at hp
  have ly : (PyData.list ((nearF Z.ts Z.lp x.fog one).map PyData.str)).canLay0 = true ∧ (PyData.list ((nearF Z.ts Z.lp x.fog one).map PyData.str)).depth ≤ 1 := lay_list (names_lay fun n hn => tok n (nearF_sub one n hn))
  refine ⟨_, _, .lst (SqL.of (L4.at hc3)) (DpAll.strs _), .lst (SqL.of hp) (DpAll.strs _), shaped_of ly (by decide), shaped_of ly (by decide), _, rfl, ?_⟩
  rw [SeqAt.eqv_refl _ ly.1]
  refine iteF ?_
  have X4 := X3.to L4
  clear X3 hc3 hp hc ht L2 hP1 W R
  refine ⟨_, h2, Zo.tw, rfl, ⟨_, SqL.of (twa X4)⟩, ?_⟩
  refine for_list (xs := Zo.ts.map V.str) (fun i σ' H' => WX K p0 d G r dx Z x ow Zo y k σ' H' ∧ At σ' 5 (.str one)) ⟨X4, a5⟩ (fun i σ' H' _ hP => SqL.of (twa hP.1)) (fun i v σ3 H5 hv hP => ?_) (fun σ3 H5 hP => hP.1)
  obtain ⟨oth, h2e, rfl⟩ := GX.get_map hv
  have m2 : oth ∈ Z.ts := by rw [← tsz]; exact List.mem_of_getElem? h2e
  have hP5 := hP.1.set (j := 6) (v := some (V.str oth)) (by decide)
  have b5 : At (σ3.set 6 (some (V.str oth))) 5 (.str one) := at_set hP.2 (by decide)
  have b6 : At (σ3.set 6 (some (V.str oth))) 6 (.str oth) := at_self (by rw [hP.1.1]; decide)
  clear hP X4 a5 h1e h2e
  obtain ⟨hl, h1, h2, h7, h8, h9, W⟩ := id hP5
  refine ⟨_, h9, _, b5, _, b6, _, ow, Zo, y, one, oth, rfl, W.bd.b.own, by rw [tsz]; exact m1, fun H6 L6 => ?_⟩
  rw [eF, tsz]
  have go : ∀ {H7 : Hp} {v : V}, Le (T K) H6 H7 → WX K p0 d G r dx Z x ow Zo y k ((σ3.set 6 (some (V.str oth))).set 12 (some v)) H7 ∧ At ((σ3.set 6 (some (V.str oth))).set 12 (some v)) 5 (.str one) := fun l => ⟨((hP5.set (by decide)).to L6).to l, at_set b5 (by decide)⟩
  have R6 := (W.to L6).bd.b.rel
  refine ⟨fun hw => ?_, fun t wy hw ht => ?_⟩
  · refine ⟨_, at_set h8 (by decide), r, dx, _, rfl, R6.atR, rfl, _, at_set b5 (by decide), _, at_set b6 (by decide), _, r, dx, Z, x, one, oth, rfl, R6, fun _ _ H7 L7 => ⟨fun _ => ?_, fun t' w' hw' => (by rw [hw] at hw'; cases hw')⟩, fun z => absurd ⟨m1, m2⟩ z⟩
    refine ⟨_, at_self (by rw [hl]; decide), _, rfl, iteF ?_⟩
    exact ⟨.none, .none, .non, .non, rfl, rfl, _, rfl, iteF (go L7)⟩
  · refine ⟨_, at_set h8 (by decide), r, dx, _, rfl, R6.atR, rfl, _, at_set b5 (by decide), _, at_set b6 (by decide), _, r, dx, Z, x, one, oth, rfl, R6, fun _ _ H7 L7 => ⟨fun hw' => (by rw [hw] at hw'; cases hw'), fun t' w' hw' ht' => ?_⟩, fun z => absurd ⟨m1, m2⟩ z⟩
    obtain rfl : wy = w' := by rw [hw] at hw'; exact Option.some.inj hw'
    refine ⟨_, at_self (by rw [hl]; decide), _, rfl, iteT ?_⟩
    refine ⟨_, at_self (by rw [hl]; decide), t, _, rfl, .inl ⟨SqL.of (L7.at ht), fun c hc => ?_⟩⟩
    have L8 := L7.new (o := .tup (wy.map V.str)) hc
    have ht8 := (upd_ne (o := .tup (wy.map V.str)) (ne_of_none ht' hc)).trans ht'
    obtain ⟨Wy, hla⟩ := routeL_ok nearF_sub m1 hw
    have ly : (PyData.tuple (wy.map PyData.str)).canLay0 = true ∧ (PyData.tuple (wy.map PyData.str)).depth ≤ 1 := lay_tuple (names_lay fun n hn => tok n (Way.all Wy m1 n hn))
    refine ⟨_, _, .tup (SqT.of ht8) (DpAll.strs _), .tup (SqT.of upd_same) (DpAll.strs _), shaped_of ly (by decide), shaped_of ly (by decide), _, rfl, ?_⟩
    rw [SeqAt.eqv_refl _ ly.1]
    exact iteF (go L8)
end
end K6

-- text K6Lf
set_option maxRecDepth 100000
set_option maxHeartbeats 4000000
namespace K6
open PySem PySem.Spec PyProof.Rows L2 LamX GX
section
variable {P : Program} {w : World} {K : PySem.W.Frag} {mg : Str → Option Value} {base : Heap}
/-! ### the law's table, its messages locked: what is read of it -/
structure OV (K : PySem.W.Frag) (B H : Hp) (ow : Addr) (Z : Sta) (y : OA) : Prop where
  le : Le (T K) B H
  atO : H ow = some (.dK (ownF Z y))
  atFo : H y.fo = some (.dK (ents V.int y.fog))
  atMe : Rd H y.me (.dK (ents rf y.ms))
  atQs : H y.qs = some (.dK (ents rf y.qu))
  atSe : H y.se = some (.dK (ents rf y.sd))
  atRo : H y.ro = some (.lst (y.rw.map rf))
  atMs : ∀ {q : Str × Addr × Msg}, q ∈ y.ms → H q.2.1 = some (.lst (msgV q.2.2))
  atQu : ∀ {q : Str × Addr × List Str}, q ∈ y.qu → H q.2.1 = some (.lst (q.2.2.map V.str))
  sdt : ∀ p ∈ y.sd, H p.2.1 = some (.tup (sdV p.2.2))
  rwt : ∀ x ∈ y.rw, H x.1 = some (.tup (rowV x.2))
  st : OStaOk H Z
  ow_ne : ow ≠ y.fo ∧ ow ≠ y.se
section
variable {B H H' : Hp} {ow : Addr} {Z : Sta} {y : OA}
theorem OV.tab (h : OV K B H ow Z y) : Tabs (T K) H := h.le.tab
theorem OV.to (h : OV K B H ow Z y) (l : Le (T K) H H') : OV K B H' ow Z y := ⟨h.le.trans l, l.at h.atO, l.at h.atFo, (by
  rcases h.atMe with e | ⟨o, e⟩
  · exact .inl (l.at e)
  · exact .inr ⟨o, l.at e⟩), l.at h.atQs, l.at h.atSe, l.at h.atRo, fun hq => l.at (h.atMs hq), fun hq => l.at (h.atQu hq), fun p hp => l.at (h.sdt p hp), fun p hp => l.at (h.rwt p hp), h.st.to l, h.ow_ne⟩
theorem OV.get (h : OV K B H ow Z y) (f : Str) (v : V) (e : valV (ownF Z y) (Sum.inr f) = some v) : DGet H ow (.str f) (some v) := by
  have := DGet.k (k := Sum.inr f) h.atO
  rwa [e] at this
theorem OR.view (h : OR K B H ow Z y) : OV K B H ow Z y := ⟨h.le, h.atO, h.atFo, .inl h.atMe, h.atQs, h.atSe, h.atRo, h.atMs, h.atQu, h.sdt, h.rwt, h.st, h.ow_ne⟩
end
def spVNear (K : PySem.W.Frag) : Sp := fun vs H Q E => ∃ B ow Z y n, vs = [.ref ow, .str n] ∧ OV K B H ow Z y ∧ n ∈ Z.ts ∧ (∀ H' p, Le (T K) H H' → H' p = some (.lst ((nearF Z.ts Z.lp y.fog n).map V.str)) → Q (.ref p) H')
theorem ok_vnear (C : Ctx K mg base) : CalX P w K mg base 1 "_law_near" ["own", "name"] (spVNear K) := by
  obtain ⟨fd, F⟩ := C.d.d_l_near
  refine ⟨_, fd, ?_, F.funD.bindsN fun _ _ _ _ _ _ us hl => (match us, hl with | [_, _], _ => rfl), F.kp, C.t.m_l_near⟩
  refine F.ok sc_l_near (fun vs H Q E h => ?_) (fun A outer s H vs Q E hr h => ?_)
  · obtain ⟨B, ow, Z, y, n, rfl, _⟩ := h
    rfl
  · obtain ⟨B, ow, Z, y, n, rfl, R, hm, hq⟩ := h
    have nn := sc_l_near.nd
    have hu := hu65 hr
    refine ⟨_, pss_one (ps_ret (pe_lc (own := [("other", 2)]) (g := gName 2) rfl nn (pi_list (pe_dget (hu_of hr) (pv 0) pe_str (fun _ _ => rfl))) (blkOk_by (N := n_l_near) (sc := defScope s_l_near) (by decide +kernel))
      (fun _ _ _ _ _ => (pg_name (i := 2) nn rfl (by first | exact Or.inl rfl | exact Or.inr rfl))) (fun _ _ _ _ _ => pts_one (PW.pt (pw_and (pt_mid (PW.pt (pw_or (pt_cmpR (r := rInD K) (op_inD hu) (pe_tup (pa_cons (pv 1) (pa_cons (pv 2) pa_nil))) (pe_dget (hu_of hr) (pv 0) pe_str (fun _ _ => rfl)) rfl) (pw_or1 (pt_cmpR (r := rInD K) (op_inD hu) (pe_tup (pa_cons (pv 2) (pa_cons (pv 1) pa_nil))) (pe_dget (hu_of hr) (pv 0) pe_str (fun _ _ => rfl)) rfl)))))
        (pw_and (pt_cmp (pc_dnotin (hu_of hr) (pv 1) (pe_dget (hu_of hr) (pv 0) pe_str (fun _ _ => rfl)))) (pw_and1 (pt_cmp (pc_dnotin (hu_of hr) (pv 2) (pe_dget (hu_of hr) (pv 0) pe_str (fun _ _ => rfl)))))))))
      (fun _ _ _ _ _ => pv 2))), ?_⟩
    have Z0 := R.st
    refine ⟨_, rfl, ow, _, rfl, R.get "towers" _ rfl, Z.tw, rfl, ⟨_, SqL.of Z0.tw⟩, fun D hD => ?_⟩
    refine lc_pick (K := K) (T := T K) (xs := Z.ts) (f := V.str) (nearP Z.lp y.fog n) V.str (walksVL (SqL.of Z0.tw)) R.tab hD (Nat.le_trans Z0.l60 (by decide)) (fun o ho H3 Y N L3 hY hN => ⟨rfl, ?_⟩) (fun H3 L3 h3 => hq _ _ L3 h3)
    have R3 := R.to L3
    have okn := Z0.ok n hm
    have oko := Z0.ok o ho
    have shL : SeqAt.shaped (.list (Z.lp.map lkD)) = true := shaped_of (n := 2) (lay_list fun d hd => by
      obtain ⟨q, hq, rfl⟩ := List.mem_map.mp hd
      obtain ⟨y, hy, rfl⟩ := List.mem_map.mp hq
      exact lay_lk (Z0.lok y hy).1 (Z0.lok y hy).2) (by decide)
    have pe : nearP Z.lp y.fog n o = (linked Z.lp n o && (!inK y.fog n && !inK y.fog o)) := rfl
    have hN' : ∀ {H4 : Hp}, Le (T K) H3 H4 → nearP Z.lp y.fog n o = false → N H4 := fun L e => hN _ L e
    refine ⟨fun b H' => b = linked Z.lp n o ∧ Le (T K) H3 H', ?_, ?_⟩
    · refine ⟨_, rfl, _, rfl, by show 2 ≤ sizeLine; decide, fun q hqn => ?_⟩
      have L4 := (Le.refl L3.tab).new (o := .tup [.str n, .str o]) hqn
      have q4 : upd H3 q (.tup [.str n, .str o]) q = some (.tup [.str n, .str o]) := upd_same
      generalize upd H3 q (.tup [.str n, .str o]) = H4 at L4 q4 ⊢
      have R4 := R3.to L4
      refine ⟨_, rfl, ow, _, rfl, R4.get "links" _ rfl, lkD (n, o), Z.lp.map lkD, .tup (SqT.of q4) (.cons (.str _) (.cons (.str _) .nil)), .lst (SqL.of R4.st.lk) (dp_lk R4.st.lt), shaped_of (lay_lk okn oko) (by decide), shL, _, rfl, ?_⟩
      rw [any_lk]
      by_cases c1 : (n, o) ∈ Z.lp
      · rw [decide_eq_true c1]
        exact iteT ⟨by unfold linked; rw [decide_eq_true c1]; rfl, L4⟩
      · rw [decide_eq_false c1]
        refine iteF ⟨_, rfl, _, rfl, by show 2 ≤ sizeLine; decide, fun q' hqn' => ?_⟩
        have L5 := L4.new (o := .tup [.str o, .str n]) hqn'
        have q5 : upd H4 q' (.tup [.str o, .str n]) q' = some (.tup [.str o, .str n]) := upd_same
        generalize upd H4 q' (.tup [.str o, .str n]) = H5 at L5 q5 ⊢
        have R5 := R3.to L5
        refine ⟨_, rfl, ow, _, rfl, R5.get "links" _ rfl, lkD (o, n), Z.lp.map lkD, .tup (SqT.of q5) (.cons (.str _) (.cons (.str _) .nil)), .lst (SqL.of R5.st.lk) (dp_lk R5.st.lt), shaped_of (lay_lk oko okn) (by decide), shL, _, rfl, ?_⟩
        rw [any_lk]
        exact ⟨by unfold linked; rw [decide_eq_false c1, Bool.false_or], L5⟩
    · rintro b H4 ⟨rfl, L4⟩
      have R4 := R3.to L4
      cases hl : linked Z.lp n o with
      | false =>
        rw [hl] at pe
        exact iteF (iteF (hN' L4 pe))
      | true =>
        rw [hl, Bool.true_and] at pe
        refine iteT ⟨_, rfl, _, rfl, ow, _, rfl, R4.get "fog" _ rfl, y.fo, _, rfl, DGet.k (k := Sum.inr n) R4.atFo, _, rfl, ?_⟩
        rw [valV_ents, Option.isSome_map]
        show (if (!inK y.fog n) = true then _ else _)
        cases f1 : inK y.fog n with
        | true =>
          rw [f1] at pe
          exact iteF (iteF (hN' L4 pe))
        | false =>
          rw [f1] at pe
          refine iteT ⟨_, rfl, _, rfl, ow, _, rfl, R4.get "fog" _ rfl, y.fo, _, rfl, DGet.k (k := Sum.inr o) R4.atFo, _, rfl, ?_⟩
          rw [valV_ents, Option.isSome_map]
          show (if (!inK y.fog o) = true then _ else _)
          cases f2 : inK y.fog o with
          | true =>
            rw [f2] at pe
            exact iteF (hN' L4 pe)
          | false =>
            rw [f2] at pe
            exact iteT ⟨_, rfl, hY _ L4 pe⟩
def spVRoute (K : PySem.W.Frag) : Sp := fun vs H Q E => ∃ B ow Z y s e, vs = [.ref ow, .str s, .str e] ∧ OV K B H ow Z y ∧ s ∈ Z.ts ∧
  (∀ H', Le (T K) H H' → (routeL Z.ts (nearF Z.ts Z.lp y.fog) s e = none → Q .non H') ∧ ∀ t w, routeL Z.ts (nearF Z.ts Z.lp y.fog) s e = some w → H' t = some (.lst (w.map V.str)) → Q (.ref t) H')
theorem ok_vroute (C : Ctx K mg base) : CalX P w K mg base 2 "_law_route" ["own", "start", "end"] (spVRoute K) := by
  obtain ⟨fd, F⟩ := C.d.d_l_route
  refine ⟨_, fd, ?_, F.funD.bindsN fun _ _ _ _ _ _ us hl => (match us, hl with | [_, _, _], _ => rfl), F.kp, C.t.m_l_route⟩
  refine F.ok sc_l_route (fun vs H Q E h => ?_) (fun A outer s H vs Q E hr h => ?_)
  · obtain ⟨B, ow, Z, y, s, e, rfl, _⟩ := h
    rfl
  · obtain ⟨B, ow, Z, y, st, en, rfl, R, hm, hq⟩ := h
    have nn := sc_l_route.nd
    refine ⟨_, pss_cons (ps_par (i := 3) (j := 4) (by rfl) nn rfl rfl (by decide) rfl rfl (pa_cons (pe_lst (pa_cons (pe_lst (pa_cons (pv 1) pa_nil)) pa_nil)) (pa_cons (pe_lst (pa_cons (pv 1) pa_nil)) pa_nil)) (by rfl))
      (pss_cons (ps_while ownsA (pt_cmpR (op_neD hr.units) (pv 3) (pe_lst pa_nil) (nomark _))
        (pss_cons (ps_setLc (i := 5) (own := [("way", 7)]) (g := gName 7) rfl nn rfl rfl (sw_true rfl rfl rfl (by decide +kernel)) (pi_list (pv 3)) (blkOk_by (N := n_l_route) (sc := defScope s_l_route) (by decide +kernel)) (fun _ _ _ _ _ => (pg_name (i := 7) nn rfl (by first | exact Or.inl rfl | exact Or.inr rfl)))
          (fun _ _ _ _ _ => pts_one (pt_cmpR op_eq (pe_ix (r := rIxL K) ix_list (pv 7) (pe_op op_sub (pe_callB (r := rLenO K) (call_lenK rfl) (by rfl) C.t.b_len PySem.boot_len (pa_cons (pv 7) pa_nil)) pe_int) (fun _ _ => rfl)) (pv 2) (nomark _))) (fun _ _ _ _ _ => pv 7))
        (pss_cons (ps_if (pt_cmpR (op_neD hr.units) (pv 5) (pe_lst pa_nil) (nomark _)) (pss_one (ps_ret (pe_ix ix_list (pv 5) pe_int (fun _ _ => rfl)))) pss_nil)
        (pss_cons (ps_set (i := 6) nn rfl (by first | exact Or.inl rfl | exact Or.inr rfl) (pe_lst pa_nil))
        (pss_cons (ps_for ownsA rfl (pi_list (pv 3)) (pg_name (i := 7) nn rfl (by first | exact Or.inl rfl | exact Or.inr rfl))
          (pss_one (ps_for ownsA rfl (pi_list (pe_cx (ok_vnear (P := P) (w := w) C) hr (by decide) rfl passA (pa_cons (pv 0) (pa_cons (pe_ix ix_list (pv 7) (pe_op op_sub (pe_callB call_len_seq (by rfl) C.t.b_len PySem.boot_len (pa_cons (pv 7) pa_nil)) pe_int) (fun _ _ => rfl)) pa_nil)))) (pg_name (i := 8) nn rfl (by first | exact Or.inl rfl | exact Or.inr rfl))
            (pss_one (ps_if (pt_cmpR op_notIn_seq (pv 8) (pv 4) rfl)
              (pss_one (ps_par (i := 4) (j := 6) (by rfl) nn rfl rfl (by decide) rfl rfl (pa_cons (pe_op op_cat (pv 4) (pe_lst (pa_cons (pv 8) pa_nil))) (pa_cons (pe_op op_cat (pv 6) (pe_lst (pa_cons (pe_op op_cat (pv 7) (pe_lst (pa_cons (pv 8) pa_nil))) pa_nil))) pa_nil)) (by rfl))) pss_nil)))))
        (pss_one (ps_set (i := 3) nn rfl (by first | exact Or.inl rfl | exact Or.inr rfl) (pv 6))))))))
      (pss_one (ps_ret pe_non))), ?_⟩
    have Z0 := R.st
    have okn : ∀ {w : List Str} {b : Nat}, Way Z.ts st b w → ∀ n ∈ w, (PyData.str n).canLay0 = true := fun hw n hn' => Z0.ok n (hw.all hm n hn')
    have nfs : ∀ n, ∀ o ∈ nearF Z.ts Z.lp y.fog n, o ∈ Z.ts := nearF_sub
    generalize hnf : nearF Z.ts Z.lp y.fog = nf at hq nfs
    have atl : ∀ {w : List Str} {b : Nat}, Way Z.ts st b w → atI (w.map V.str) ((((w.map V.str).length : Nat) : Int) - 1) = some (V.str (lastS w)) := fun {w b} hw => by
      obtain ⟨p, e⟩ := hw.last
      rw [List.length_map]
      have hl : w.length = p.length + 1 := by
        have := congrArg List.length e
        rw [List.length_append] at this
        exact this
      rw [hl, show ((p.length + 1 : Nat) : Int) - 1 = (p.length : Nat) by omega]
      refine atI_nat ?_
      rw [List.getElem?_map]
      have : w[p.length]? = some (lastS w) := by
        conv => lhs; rw [e]
        rw [List.getElem?_append_right (Nat.le_refl _), Nat.sub_self]
        rfl
      rw [this]
      rfl
    refine ⟨_, rfl, by show 1 ≤ sizeLine; decide, fun p hp => ⟨by show 1 ≤ sizeLine; decide, fun wl hwl => ⟨_, rfl, by show 1 ≤ sizeLine; decide, fun sl hsl => ⟨_, _, rfl, ?_⟩⟩⟩⟩
    generalize hRR : routeL Z.ts nf st en = RR at hq
    have L0 := (((Le.refl R.tab).new (o := .lst [.str st]) hp).new (o := .lst [.ref p]) hwl).new (o := .lst [.str st]) hsl
    have hp1 : upd H p (.lst [.str st]) p = some (.lst ([st].map V.str)) := upd_same
    have hp2 := (upd_ne (o := .lst [.ref p]) (ne_of_none hp1 hwl)).trans hp1
    have hp3 := (upd_ne (o := .lst [.str st]) (ne_of_none hp2 hsl)).trans hp2
    have hw2 : upd (upd H p (.lst [.str st])) wl (.lst [.ref p]) wl = some (.lst ([(p, [st])].map rf)) := upd_same
    have hw3 := (upd_ne (o := .lst [.str st]) (ne_of_none hw2 hsl)).trans hw2
    have hs3 : upd (upd (upd H p (.lst [.str st])) wl (.lst [.ref p])) sl (.lst [.str st]) sl = some (.lst ([st].map V.str)) := upd_same
    generalize upd (upd (upd H p (.lst [.str st])) wl (.lst [.ref p])) sl (.lst [.str st]) = H0 at L0 hp3 hw3 hs3 ⊢
    clear hp1 hp2 hw2 hp hwl hsl
    refine ⟨fun n σ H' => ∃ (wl sl : Addr) (ws : List WA) (seen : List Str) (a5 a6 a7 a8 : Option V), σ = [some (.ref ow), some (.str st), some (.str en), some (.ref wl), some (.ref sl), a5, a6, a7, a8] ∧ Le (T K) H H' ∧ H' wl = some (.lst (ws.map rf)) ∧ lAt H' ws ∧ H' sl = some (.lst (seen.map V.str)) ∧
      RtI Z.ts st (ws.map (·.2)) seen ∧ (ws.map (·.2) = [] ∨ Z.ts.length + 1 ≤ seen.length + n) ∧ routeF nf en n (ws.map (·.2)) seen = RR, ⟨Z.ts.length + 1, wl, sl, [(p, [st])], [st], none, none, none, none, rfl, L0, hw3, (fun y hy => by rw [List.mem_singleton.mp hy]; exact hp3), hs3, RtI.one hm, .inr (by simp), hRR⟩, ?_⟩
    clear L0 hp3 hw3 hs3 H0 hRR wl sl p
    rintro n σ H1 ⟨wl, sl, ws, seen, a5, a6, a7, a8, rfl, L1, hw1, hl1, hs1, I, hk, hR⟩
    refine ⟨_, rfl, by show 0 ≤ sizeLine; decide, fun e he => ⟨.list ((ws.map (·.2)).map lstW), .list [], .lst (SqL.of ((upd_ne (ne_of_none hw1 he)).trans hw1)) (dp_lways fun y hy => (upd_ne (ne_of_none (hl1 y hy) he)).trans (hl1 y hy)), .lst (SqL.of upd_same) .nil, sh_lways (fun w hw => okn (I.way w hw)), rfl, _, rfl, ?_⟩⟩
    rw [eqv_nilL]
    have L2 := (Le.refl L1.tab).new (o := .lst []) he
    have L1 := L1.trans L2
    have hw2 := L2.at hw1
    have hl2 := hl1.to L2
    have hs2 := L2.at hs1
    clear hw1 hl1 hs1
    generalize upd H1 e (.lst []) = H2 at L1 hw2 hl2 hs2 ⊢
    clear L2 he
    by_cases hws : ws = []
    · subst hws
      refine iteF ?_
      have hR : routeF nf en n [] seen = RR := hR
      rw [routeF_nil] at hR
      exact (hq _ L1).1 hR.symm
    refine iteDN (by simpa using hws) ?_
    obtain ⟨n, rfl⟩ := fuel_go I (by simpa using hws) hk
    have hk : Z.ts.length + 1 ≤ seen.length + (n + 1) := by
      rcases hk with z | z
      · exact absurd z (by simpa using hws)
      · exact z
    refine ⟨fun σ' H' => ∃ m, m < n + 1 ∧ ∃ (wl sl : Addr) (ws : List WA) (seen : List Str) (a5 a6 a7 a8 : Option V), σ' = [some (.ref ow), some (.str st), some (.str en), some (.ref wl), some (.ref sl), a5, a6, a7, a8] ∧ Le (T K) H H' ∧ H' wl = some (.lst (ws.map rf)) ∧ lAt H' ws ∧ H' sl = some (.lst (seen.map V.str)) ∧
      RtI Z.ts st (ws.map (·.2)) seen ∧ (ws.map (·.2) = [] ∨ Z.ts.length + 1 ≤ seen.length + m) ∧ routeF nf en m (ws.map (·.2)) seen = RR, fun _ _ h => h, ?_⟩
    have wl60 : ws.length ≤ 60 := by
      have h1 := I.len
      have h2 := I.le
      rw [List.length_map] at h1
      have := Z0.l60
      omega
    refine ⟨_, rfl, wl, rfl, ⟨_, SqL.of hw2⟩, fun dl hdl => ?_⟩
    refine lc_pick (K := K) (T := T K) (xs := ws) (f := rf) (fun y => decide (lastS y.2 = en)) rf (walksVL (SqL.of hw2)) L1.tab hdl (Nat.le_trans wl60 (by decide)) (fun y hy H3 Y N L3 hY hN => ⟨rfl, ?_⟩) (fun H3 L3 h3 => ?_)
    · have Wy := I.way y.2 (List.mem_map.mpr ⟨y, hy, rfl⟩)
      have hy3 := L3.at (hl2 y hy)
      refine ⟨_, rfl, _, rfl, y.1, _, rfl, .inl (SqL.of hy3), _, _, rfl, rfl, y.1, _, _, _, rfl, rfl, SqL.of hy3, atl Wy, _, rfl, rfl, _, rfl, ?_⟩
      by_cases c : lastS y.2 = en
      · exact iteDT (congrArg V.str c) ⟨_, rfl, hY _ (Le.refl L3.tab) (decide_eq_true c)⟩
      · exact iteDF (fun z => c (V.str.inj z)) (hN _ (Le.refl L3.tab) (decide_eq_false c))
    have hfind : (ws.map (·.2)).find? (fun w => decide (lastS w = en)) = ((ws.filter fun y => decide (lastS y.2 = en)).head?).map (·.2) := by
      rw [List.head?_filter, List.find?_map]
      rfl
    have L13 := L1.trans L3
    have hw3 := L3.at hw2
    have hl3 := hl2.to L3
    have hs3 := L3.at hs2
    have hlF : lAt H3 (ws.filter fun y => decide (lastS y.2 = en)) := fun y hy => hl3 y (List.mem_filter.mp hy).1
    have waF : ∀ w ∈ (ws.filter fun y => decide (lastS y.2 = en)).map (·.2), Way Z.ts st seen.length w := fun w hw => by
      obtain ⟨y, hy, rfl⟩ := List.mem_map.mp hw
      exact I.way _ (List.mem_map.mpr ⟨y, (List.mem_filter.mp hy).1, rfl⟩)
    generalize hdn : (ws.filter fun y => decide (lastS y.2 = en)) = dn at hfind hlF waF h3
    clear L3 hw2 hl2 hs2 hdl
    refine ⟨_, rfl, by show 0 ≤ sizeLine; decide, fun e he => ⟨.list ((dn.map (·.2)).map lstW), .list [], .lst (SqL.of ((upd_ne (ne_of_none h3 he)).trans h3)) (dp_lways fun y hy => (upd_ne (ne_of_none (hlF y hy) he)).trans (hlF y hy)), .lst (SqL.of upd_same) .nil, sh_lways (fun w hw => okn (waF w hw)), rfl, _, rfl, ?_⟩⟩
    rw [eqv_nilL]
    have L4 := (Le.refl L13.tab).new (o := .lst []) he
    have L14 := L13.trans L4
    have hw4 := L4.at hw3
    have hl4 := hl3.to L4
    have hs4 := L4.at hs3
    have h4 := L4.at h3
    have hlF4 := hlF.to L4
    generalize upd H3 e (.lst []) = H4 at L14 hw4 hl4 hs4 h4 hlF4 ⊢
    clear L4 he hw3 hl3 hs3 h3 hlF L13
    match dn, hdn, hfind, waF, h4, hlF4 with
    | y0 :: rest, hdn, hfind, waF, h4, hlF4 =>
      refine iteDN (by simp) ⟨_, rfl, dl, _, _, _, rfl, rfl, SqL.of h4, atI_nat (j := 0) rfl, ?_⟩
      have hfind : (ws.map (·.2)).find? (fun w => decide (lastS w = en)) = some y0.2 := hfind
      refine (hq _ L14).2 y0.1 y0.2 ?_ (hlF4 y0 List.mem_cons_self)
      unfold routeF at hR
      rw [hfind] at hR
      exact hR.symm
    | [], hdn, hfind, waF, h4, hlF4 =>
      refine iteF ?_
      have hfind : (ws.map (·.2)).find? (fun w => decide (lastS w = en)) = none := hfind
      clear hlF4 waF hdn
      refine ⟨by show 0 ≤ sizeLine; decide, fun fl hfl => ?_⟩
      have L5 := (Le.refl L14.tab).new (o := .lst []) hfl
      have L15 := L14.trans L5
      have hw5 := L5.at hw4
      have hl5 := hl4.to L5
      have hs5 := L5.at hs4
      have hf5 : upd H4 fl (.lst []) fl = some (.lst (([] : List WA).map rf)) := upd_same
      generalize upd H4 fl (.lst []) = H5 at L15 hw5 hl5 hs5 hf5 ⊢
      clear L5 hw4 hl4 hs4 h4 hfl L14
      have J0 := I.to
      refine ⟨_, rfl, wl, rfl, ⟨_, SqL.of hw5⟩, ?_⟩
      refine for_list (xs := ws.map rf) (fun i σ H' => ∃ sl' seen' fl' fs a7 a8, σ = [some (.ref ow), some (.str st), some (.str en), some (.ref wl), some (.ref sl'), some (.ref dl), some (.ref fl'), a7, a8] ∧ Le (T K) H5 H' ∧ H' sl' = some (.lst (seen'.map V.str)) ∧ H' fl' = some (.lst (fs.map rf)) ∧ lAt H' fs ∧ ((ws.map (·.2)).take i).foldl (expW nf) (seen, []) = (seen', fs.map (·.2)))
        ⟨sl, seen, fl, [], a7, a8, rfl, Le.refl L15.tab, hs5, hf5, (fun y hy => by cases hy), rfl⟩ (fun i σ H' _ ⟨_, _, _, _, _, _, _, L, _⟩ => SqL.of (L.at hw5)) (fun i v σ H6 hv ⟨sl', seen', fl', fs, a7, a8, hσ, L6, hs6, hf6, hfs6, ef⟩ => ?_) (fun σ H6 ⟨sl', seen', fl', fs, a7, a8, hσ, L6, hs6, hf6, hfs6, ef⟩ => ?_)
      · subst hσ
        obtain ⟨y, hy, rfl⟩ := GX.get_map hv
        have hyw := List.mem_of_getElem? hy
        have Wy := I.way y.2 (List.mem_map.mpr ⟨y, hyw, rfl⟩)
        have hy2 : (ws.map (·.2))[i]? = some y.2 := by rw [List.getElem?_map, hy]; rfl
        have J6 : RtJ Z.ts st seen.length (seen', fs.map (·.2)) := by
          rw [← ef]
          exact RtJ.waysF nfs _ _ J0 fun w hw => I.way w (List.mem_of_mem_take hw)
        have esn : ((ws.map (·.2)).take (i + 1)).foldl (expW nf) (seen, []) = expW nf (seen', fs.map (·.2)) y.2 := by
          rw [GX.take_snoc hy2, List.foldl_append, ef]
          rfl
        have hy6 := L6.at (hl5 y hyw)
        have hlt : lastS y.2 ∈ Z.ts := Wy.lastIn hm
        refine ⟨_, rfl, _, rfl, _, rfl, y.1, _, rfl, .inl (SqL.of hy6), _, _, rfl, rfl, y.1, _, _, _, rfl, rfl, SqL.of hy6, atl Wy, B, ow, Z, _, lastS y.2, rfl, R.to (L15.trans L6), hlt, fun H7 nl L7 h7 => ?_⟩
        rw [hnf] at h7
        refine ⟨nl, rfl, ⟨_, SqL.of h7⟩, ?_⟩
        refine for_list (xs := (nf (lastS y.2)).map V.str) (fun j σ H' => ∃ sl2 seen2 fl2 fs2 a8, σ = [some (.ref ow), some (.str st), some (.str en), some (.ref wl), some (.ref sl2), some (.ref dl), some (.ref fl2), some (rf y), a8] ∧ Le (T K) H7 H' ∧ H' sl2 = some (.lst (seen2.map V.str)) ∧ H' fl2 = some (.lst (fs2.map rf)) ∧ lAt H' fs2 ∧ ((nf (lastS y.2)).take j).foldl (exp1 y.2) (seen', fs.map (·.2)) = (seen2, fs2.map (·.2)))
          ⟨sl', seen', fl', fs, a8, rfl, Le.refl L7.tab, L7.at hs6, L7.at hf6, hfs6.to L7, rfl⟩ (fun j σ H' _ ⟨_, _, _, _, _, _, L, _⟩ => SqL.of (L.at h7)) (fun j v σ H8 hv ⟨sl2, seen2, fl2, fs2, a8, hσ, L8, hs8, hf8, hfs8, ej⟩ => ?_) (fun σ H8 ⟨sl2, seen2, fl2, fs2, a8, hσ, L8, hs8, hf8, hfs8, ej⟩ => ?_)
        · subst hσ
          obtain ⟨o, ho, rfl⟩ := GX.get_map hv
          have J8 : RtJ Z.ts st seen.length (seen2, fs2.map (·.2)) := by
            rw [← ej]
            exact RtJ.steps Wy _ _ J6 fun z hz => nfs _ _ (List.mem_of_mem_take hz)
          have esj : ((nf (lastS y.2)).take (j + 1)).foldl (exp1 y.2) (seen', fs.map (·.2)) = exp1 y.2 (seen2, fs2.map (·.2)) o := by
            rw [GX.take_snoc ho, List.foldl_append, ej]
            rfl
          have s60 : seen2.length ≤ 60 := Nat.le_trans (nodup_sub J8.nd J8.sub) Z0.l60
          have f60 : fs2.length ≤ 60 := by
            have h1 := J8.len
            rw [List.length_map] at h1
            have h1 : seen2.length = seen.length + fs2.length := h1
            omega
          have y60 : y.2.length ≤ 60 := by
            obtain ⟨tl, _, _, _, z⟩ := Wy
            have := I.le
            have := Z0.l60
            omega
          have hy8 := L8.at (L7.at hy6)
          refine ⟨_, rfl, _, rfl, sl2, _, rfl, .inl (SqL.of hs8), rfl, flat_strs' _, _, rfl, ?_⟩
          show (if (!inV (.str o) (seen2.map V.str)) = true then _ else _)
          rw [inV_strs]
          by_cases ci : o ∈ seen2
          · rw [decide_eq_true ci]
            exact iteF ⟨sl2, seen2, fl2, fs2, _, rfl, L8, hs8, hf8, hfs8, by rw [esj]; unfold exp1; rw [if_pos ci]⟩
          · refine iteDN ci ?_
            have eso : seen2.map V.str ++ [V.str o] = (seen2 ++ [o]).map V.str := by rw [List.map_append]; rfl
            have eyo : y.2.map V.str ++ [V.str o] = (y.2 ++ [o]).map V.str := by rw [List.map_append]; rfl
            refine ⟨_, rfl, _, rfl, by show 1 ≤ sizeLine; decide, fun p1 hp1 => ?_⟩
            have M1 := (Le.refl L8.tab).new (o := .lst [.str o]) hp1
            refine ⟨sl2, p1, _, _, rfl, rfl, M1.at hs8, upd_same, by rw [List.length_map]; exact Nat.le_trans (Nat.add_le_add_right s60 _) (show 61 ≤ sizeLine by decide), fun p2 hp2 => ?_⟩
            rw [eso]
            have M2 := M1.new (o := .lst ((seen2 ++ [o]).map V.str)) hp2
            have k2 : upd (upd H8 p1 (.lst [.str o])) p2 (.lst ((seen2 ++ [o]).map V.str)) p2 = some (.lst ((seen2 ++ [o]).map V.str)) := upd_same
            generalize upd (upd H8 p1 (.lst [.str o])) p2 (.lst ((seen2 ++ [o]).map V.str)) = H9 at M2 k2 ⊢
            clear M1 hp1 hp2
            refine ⟨_, rfl, _, rfl, _, rfl, by show 1 ≤ sizeLine; decide, fun p3 hp3 => ?_⟩
            have M3 := (Le.refl M2.tab).new (o := .lst [.str o]) hp3
            refine ⟨y.1, p3, _, _, rfl, rfl, (M2.trans M3).at hy8, upd_same, by rw [List.length_map]; exact Nat.le_trans (Nat.add_le_add_right y60 _) (show 61 ≤ sizeLine by decide), fun p4 hp4 => ?_⟩
            rw [eyo]
            have M4 := M3.new (o := .lst ((y.2 ++ [o]).map V.str)) hp4
            have k4 : upd (upd H9 p3 (.lst [.str o])) p4 (.lst ((y.2 ++ [o]).map V.str)) p4 = some (.lst ((y.2 ++ [o]).map V.str)) := upd_same
            generalize upd (upd H9 p3 (.lst [.str o])) p4 (.lst ((y.2 ++ [o]).map V.str)) = H10 at M4 k4 ⊢
            clear M3 hp3 hp4
            refine ⟨by show 1 ≤ sizeLine; decide, fun p5 hp5 => ?_⟩
            have M5 := M4.new (o := .lst [.ref p4]) hp5
            have k4' := (upd_ne (o := .lst [.ref p4]) (ne_of_none k4 hp5)).trans k4
            refine ⟨fl2, p5, _, _, rfl, rfl, (M2.trans M5).at hf8, upd_same, by rw [List.length_map]; exact Nat.le_trans (Nat.add_le_add_right f60 _) (show 61 ≤ sizeLine by decide), fun p6 hp6 => ?_⟩
            have efo : fs2.map rf ++ [V.ref p4] = (fs2 ++ [(p4, y.2 ++ [o])]).map rf := by rw [List.map_append]; rfl
            rw [efo]
            have M6 := M5.new (o := .lst ((fs2 ++ [(p4, y.2 ++ [o])]).map rf)) hp6
            have k4'' := (upd_ne (o := .lst ((fs2 ++ [(p4, y.2 ++ [o])]).map rf)) (ne_of_none k4' hp6)).trans k4'
            have MM := M2.trans M6
            refine ⟨_, _, rfl, p2, seen2 ++ [o], p6, fs2 ++ [(p4, y.2 ++ [o])], _, rfl, L8.trans MM, M6.at k2, upd_same, fun z hz => ?_, ?_⟩
            · rcases List.mem_append.mp hz with hz | hz
              · exact MM.at (hfs8 z hz)
              · rw [List.mem_singleton.mp hz]; exact k4''
            · rw [esj]
              unfold exp1
              rw [if_neg ci, List.map_append]
              rfl
        · subst hσ
          rw [List.length_map, List.take_of_length_le (Nat.le_refl _)] at ej
          exact ⟨sl2, seen2, fl2, fs2, _, _, rfl, L6.trans (L7.trans L8), hs8, hf8, hfs8, esn.trans ej⟩
      · subst hσ
        rw [List.length_map, List.take_of_length_le (by rw [List.length_map]; exact Nat.le_refl _)] at ef
        have J6 : RtJ Z.ts st seen.length (seen', fs.map (·.2)) := by
          rw [← ef]
          exact RtJ.waysF nfs _ _ J0 I.way
        refine ⟨_, rfl, n, Nat.lt_succ_self n, fl', sl', fs, seen', _, _, _, _, rfl, L15.trans L6, hf6, hfs6, hs6, J6.to I.pos, fuel_next I J6 hk, ?_⟩
        rw [← hR]
        show _ = match (ws.map (·.2)).find? fun w => decide (lastS w = en) with | some w => some w | none => _
        rw [hfind, ef]

def spVWhere (K : PySem.W.Frag) : Sp := fun vs H Q E => ∃ B ow Z y x n m u, vs = [.ref ow, .str n] ∧ OV K B H ow Z y ∧ y.pu = ownOf x ∧ RInv Z.ts x ∧ look x.ms n = some m ∧ whereP Z.ts x n = some u ∧
  (∀ H' p, Le (T K) H H' → H' p = some (.tup [.str u.1, .str u.2]) → Q (.ref p) H')
theorem ok_vwhere (C : Ctx K mg base) : CalX P w K mg base 1 "_law_where" ["own", "name"] (spVWhere K) := by
  obtain ⟨fd, F⟩ := C.d.d_l_where
  refine ⟨_, fd, ?_, F.funD.bindsN fun _ _ _ _ _ _ us hl => (match us, hl with | [_, _], _ => rfl), F.kp, C.t.m_l_where⟩
  refine F.ok sc_l_where (fun vs H Q E h => ?_) (fun A outer s H vs Q E hr h => ?_)
  · obtain ⟨B, ow, Z, y, x, n, m, u, rfl, _⟩ := h
    rfl
  · obtain ⟨B, ow, Z, y, x, n, m, u, rfl, R, ey, I, hm, hu, hq⟩ := h
    have nn := sc_l_where.nd
    have hv := hu_of hr
    refine ⟨_, pss_cons (ps_if (pt_cmpR op_eq (pe_ix ix_list (pe_dget hv (pe_dget hv (pv 0) pe_str (fun _ _ => rfl)) (pv 1) (fun _ _ => rfl)) pe_int (fun _ _ => rfl)) pe_str (nomark _))
        (pss_one (ps_ret (pe_tup (pa_cons pe_str (pa_cons (pe_ix ix_list (pe_dget hv (pe_dget hv (pv 0) pe_str (fun _ _ => rfl)) (pv 1) (fun _ _ => rfl)) pe_int (fun _ _ => rfl)) pa_nil))))) pss_nil)
      (pss_cons (ps_for ownsA rfl (pi_list (pe_dget hv (pv 0) pe_str (fun _ _ => rfl))) (pg_name (i := 2) nn rfl (by first | exact Or.inl rfl | exact Or.inr rfl))
        (pss_one (ps_if (pt_cmpR op_in_seq (pv 1) (pe_dget hv (pe_dget hv (pv 0) pe_str (fun _ _ => rfl)) (pv 2) (fun _ _ => rfl)) rfl) (pss_one (ps_ret (pe_tup (pa_cons pe_str (pa_cons (pv 2) pa_nil))))) pss_nil)))
      (pss_one (ps_ret (pe_tup (pa_cons pe_str (pa_cons (pe_ix ix_list (pe_lock (pe_lc (own := [("tower", 2)]) (g := gName 2) rfl nn (pi_keys (pe_dget hv (pv 0) pe_str (fun _ _ => rfl))) (blkOk_by (N := n_l_where) (sc := defScope s_l_where) (by decide +kernel))
          (fun _ _ _ _ _ => (pg_name (i := 2) nn rfl (by first | exact Or.inl rfl | exact Or.inr rfl))) (fun _ _ _ _ _ => pts_one (pt_cmpR op_eq (pe_ix (r := rIxT K) ix_tup (pe_dget hv (pe_dget hv (pv 0) pe_str (fun _ _ => rfl)) (pv 2) (fun _ _ => rfl)) pe_int (fun _ _ => rfl)) (pv 1) (nomark _))) (fun _ _ _ _ _ => pv 2))) pe_int (fun _ _ => rfl)) pa_nil)))))), ?_⟩
    have z2 : y.pu.ms = x.ms := congrArg OS.ms ey
    have z3 : y.pu.qu = x.qu := congrArg OS.qu ey
    have esd : y.pu.sd = sdOf x.bz := congrArg OS.sd ey
    obtain ⟨ma, hma⟩ := look_un (cs := y.ms) (n := n) (v := m) (by rw [← ol_ms, z2]; exact hm)
    have dm : DGet H y.me (.str n) (some (.ref ma)) := dget_rd (f := rf) R.atMe hma
    have am := R.atMs (look_in hma)
    have ew : whereP Z.ts x n = if m.th = true then some (("there" : Str), m.e) else
        match Z.ts.find? fun t => decide (n ∈ qOf x.qu t) with
        | some t => some (("waits" : Str), t)
        | none => match sendN x.bz n with
          | s :: _ => some (("sent" : Str), s)
          | [] => none := by
      unfold whereP
      rw [hm]
      try rfl
    rw [ew] at hu
    refine ⟨_, rfl, ow, _, rfl, R.get "messages" _ rfl, _, rfl, y.me, _, rfl, dm, ma, _, _, _, rfl, rfl, SqL.of am, atI_nat (j := 4) rfl, rfl, _, rfl, ?_⟩
    cases hth : m.th with
    | true =>
      rw [hth, if_pos rfl] at hu
      obtain rfl := Option.some.inj hu
      refine iteDT rfl ?_
      exact ⟨_, rfl, ow, _, rfl, R.get "messages" _ rfl, _, rfl, y.me, _, rfl, dm, ma, _, _, _, rfl, rfl, SqL.of am, atI_nat (j := 1) rfl, by show 2 ≤ sizeLine; decide, fun p hp => hq _ p ((Le.refl R.tab).new hp) upd_same⟩
    | false =>
    rw [hth, if_neg (by decide)] at hu
    refine iteDF (fun z => absurd (V.str.inj z) (by decide)) ?_
    refine ⟨_, rfl, ow, _, rfl, R.get "towers" _ rfl, Z.tw, rfl, ⟨_, SqL.of R.st.tw⟩, ?_⟩
    refine for_list (xs := Z.ts.map V.str) (fun i σ H' => (∃ a2, σ = [some (.ref ow), some (.str n), a2]) ∧ H' = H ∧ ∀ t ∈ Z.ts.take i, decide (n ∈ qOf x.qu t) = false)
      ⟨⟨_, rfl⟩, rfl, fun t ht => absurd ht List.not_mem_nil⟩ (fun i σ H' _ hP => by rw [hP.2.1]; exact SqL.of R.st.tw) (fun i v σ H1 hv ⟨⟨a2, hσ⟩, h1, hnt⟩ => ?_) (fun σ H1 ⟨⟨a2, hσ⟩, h1, hnt⟩ => ?_)
    · subst hσ
      subst h1
      obtain ⟨t, ht, rfl⟩ := GX.get_map hv
      obtain ⟨q, hqx⟩ := I.q (List.mem_of_getElem? ht)
      obtain ⟨ca, hqt⟩ := look_un (cs := y.qu) (n := t) (v := q) (by rw [← ol_qu, z3]; exact hqx)
      have eq : qOf x.qu t = q := by unfold qOf; rw [hqx]; rfl
      have dq : DGet H1 y.qs (.str t) (some (.ref ca)) := by
        have := DGet.k (k := Sum.inr t) R.atQs
        rwa [valV_ents, hqt] at this
      refine ⟨_, rfl, _, rfl, ow, _, rfl, R.get "queues" _ rfl, _, rfl, y.qs, _, rfl, dq, ca, _, rfl, .inl (SqL.of (R.atQu (look_in hqt))), rfl, flat_strs' q, _, rfl, ?_⟩
      show (if inV (.str n) (q.map V.str) = true then _ else _)
      rw [inV_strs]
      by_cases c : n ∈ q
      · refine iteDT c ⟨_, rfl, by show 2 ≤ sizeLine; decide, fun p hp => ?_⟩
        rw [find_at ht hnt (by rw [eq]; exact decide_eq_true c)] at hu
        obtain rfl := Option.some.inj hu
        exact hq _ p ((Le.refl R.tab).new hp) upd_same
      · refine iteDF c ⟨⟨_, rfl⟩, rfl, fun y hy => ?_⟩
        rw [GX.take_snoc ht] at hy
        rcases List.mem_append.mp hy with hy | hy
        · exact hnt y hy
        · rw [List.mem_singleton.mp hy, eq]; exact decide_eq_false c
    · subst hσ
      subst h1
      rw [List.length_map, List.take_length] at hnt
      rw [List.find?_eq_none.mpr fun y hy => by rw [hnt y hy]; decide] at hu
      have hu : (match sendN x.bz n with | s :: _ => some (("sent" : Str), s) | [] => none) = some u := hu
      have ndS : (y.sd.map (·.1)).Nodup := by
        rw [← drop1_keys]
        show (y.pu.sd.map (·.1)).Nodup
        rw [esd, sdOf_keys]
        exact (List.nodup_append.mp I.bz.sn).1
      have lsd : y.sd.length ≤ 100000 := by
        have h1 := nodup_sub ndS (m := Z.ts) fun k hk => by
          rw [← drop1_keys] at hk
          have hk : k ∈ y.pu.sd.map (·.1) := hk
          rw [esd, sdOf_keys] at hk
          exact I.bt k (I.bz.pm.mem_iff.mpr (List.mem_append_left _ hk))
        rw [List.length_map] at h1
        have := R.st.l60
        omega
      refine ⟨y.se, _, R.atSe, trivial, fun od => ?_⟩
      have TL := tabs_lock (o := od) R.tab R.atSe trivial
      have hO1 := at_lock (o := od) (u := .dK (ents rf y.sd)) R.atO R.ow_ne.2
      have gO : ∀ {H4 : Hp}, Le (T K) (upd H1 y.se (.frz od (.dK (ents rf y.sd)))) H4 → DGet H4 ow (.str "sends") (some (.ref y.se)) := fun L => DGet.k (k := Sum.inr "sends") (L.at hO1)
      have ht1 : ∀ p ∈ y.sd, upd H1 y.se (.frz od (.dK (ents rf y.sd))) p.2.1 = some (.tup (sdV p.2.2)) := fun p hp => at_lock (R.sdt p hp) fun z => by
        have := R.sdt p hp
        rw [z, R.atSe] at this
        cases this
      refine ⟨_, rfl, ow, _, rfl, gO (Le.refl TL), y.se, od, rfl, .inl ⟨_, upd_same, fun D hD => ?_⟩⟩
      refine lc_pick (K := K) (T := T K) (xs := y.sd) (f := fun p => V.str p.1) (fun p => decide (p.2.2.1 = n)) (fun p => V.str p.1) (walksVK upd_same) TL hD lsd (fun p hp H3 Y N L3 hY hN => ⟨rfl, ?_⟩) (fun H3 L3 h3 => ?_)
      · refine ⟨_, rfl, ow, _, rfl, gO L3, _, rfl, y.se, _, rfl, dget_rd (f := rf) (.inr ⟨od, L3.at upd_same⟩) (look_of ndS hp), p.2.1, _, _, _, rfl, rfl, SqT.of (L3.at (ht1 p hp)), atI_nat (j := 0) rfl, _, rfl, rfl, _, rfl, ?_⟩
        by_cases c : p.2.2.1 = n
        · exact iteDT (congrArg V.str c) ⟨_, rfl, hY _ (Le.refl L3.tab) (decide_eq_true c)⟩
        · exact iteDF (fun z => c (V.str.inj z)) (hN _ (Le.refl L3.tab) (decide_eq_false c))
      · have L4 : Le (T K) H1 (upd H3 y.se (.dK (ents rf y.sd))) := Le.unlock R.atSe trivial L3
        have hD4 := (upd_ne (o := .dK (ents rf y.sd)) (fun z : D = y.se => by rw [z, upd_same] at hD; cases hD)).trans h3
        refine ⟨L3.at upd_same, ?_⟩
        generalize upd H3 y.se (.dK (ents rf y.sd)) = H4 at L4 hD4 ⊢
        have es : sendN x.bz n = (y.sd.filter fun p => decide (p.2.2.1 = n)).map (·.1) := by
          rw [sendN_sd, ← esd]
          show (((y.sd.map fun p => (p.1, p.2.2)).filter _)).map _ = _
          rw [List.filter_map, List.map_map]
          rfl
        rw [es] at hu
        cases hS : (y.sd.filter fun p => decide (p.2.2.1 = n)) with
        | nil => rw [hS] at hu; cases hu
        | cons s0 rest =>
          rw [hS] at hu hD4
          obtain rfl : (("sent" : Str), s0.1) = u := Option.some.inj hu
          exact ⟨D, _, _, _, rfl, rfl, SqL.of hD4, atI_nat (j := 0) rfl, by show 2 ≤ sizeLine; decide, fun p hp => hq _ p (L4.new hp) upd_same⟩

end
end K6

-- text K6Lg
set_option maxRecDepth 100000
set_option maxHeartbeats 4000000
namespace K6
open PySem PySem.Spec PyProof.Rows L2 LamX GX
section
variable {P : Program} {w : World} {K : PySem.W.Frag} {mg : Str → Option Value} {base : Heap}
variable {f : Addr} {cd : Value} {A : Around} {outer : List Env} {s : Shared} {H0 : Hp} {E : XK}
/-! ### the messages behind the days: the law's table with its messages locked -/
theorem whereP_some {ts : List Str} {x : RS} {n : Str} {m : Msg} (I : RInv ts x) (ndt : ts.Nodup) (hm : look x.ms n = some m) : ∃ u, whereP ts x n = some u ∧ (m.th = true → u = (("there" : Str), m.e)) ∧ (m.th = false → u.1 ≠ "there") ∧ u.1 ∈ (["there", "waits", "sent"] : List Str) ∧ u.2 ∈ ts := by
  unfold whereP
  rw [hm]
  show ∃ u, (if m.th = true then some (("there" : Str), m.e) else _) = some u ∧ _
  cases hth : m.th with
  | true =>
    rw [if_pos rfl]
    exact ⟨_, rfl, fun _ => rfl, (fun z => by cases z), (by decide : ("there" : Str) ∈ (["there", "waits", "sent"] : List Str)), (I.me n m hm).2.1⟩
  | false =>
    rw [if_neg (by decide)]
    cases hf : ts.find? fun t => decide (n ∈ qOf x.qu t) with
    | some t => exact ⟨(("waits" : Str), t), rfl, (fun z => by cases z), fun _ => (by decide : ("waits" : Str) ≠ "there"), (by decide : ("waits" : Str) ∈ (["there", "waits", "sent"] : List Str)), List.mem_of_find?_eq_some hf⟩
    | none =>
      have hp := I.pa n m hm hth
      have hs : ∃ s r, sendN x.bz n = s :: r ∧ s ∈ ts := by
        rcases List.mem_append.mp hp with z | z
        · exfalso
          obtain ⟨⟨t, q⟩, hq, hn⟩ := List.mem_flatMap.mp z
          have ht : t ∈ ts := by rw [← I.qk]; exact List.mem_map.mpr ⟨_, hq, rfl⟩
          have h1 := List.find?_eq_none.mp hf t ht
          obtain ⟨q', hq'⟩ := I.q ht
          apply h1
          have : look x.qu t = some q := look_of (I.ndQ ndt) hq
          unfold qOf
          rw [this]
          exact decide_eq_true hn
        · obtain ⟨⟨t, k, oo, l⟩, hq, hn⟩ := List.mem_map.mp z
          obtain ⟨h1, h2⟩ := List.mem_filter.mp hq
          have hn : k = n := hn
          have hmem : t ∈ sendN x.bz n := List.mem_map.mpr ⟨_, List.mem_filter.mpr ⟨h1, by
            show (decide (k = n) && oo.isSome) = true
            rw [decide_eq_true hn]
            exact h2⟩, rfl⟩
          cases hS : sendN x.bz n with
          | nil => rw [hS] at hmem; cases hmem
          | cons s r =>
            refine ⟨s, r, rfl, ?_⟩
            have hs : s ∈ sendN x.bz n := by rw [hS]; exact List.mem_cons_self
            obtain ⟨p, hp, rfl⟩ := List.mem_map.mp hs
            exact I.bt _ (List.mem_map.mpr ⟨p, (List.mem_filter.mp hp).1, rfl⟩)
      obtain ⟨s, r, e, hs⟩ := hs
      show ∃ u, (match sendN x.bz n with | s :: _ => some (("sent" : Str), s) | [] => none) = some u ∧ _
      rw [e]
      exact ⟨_, rfl, (fun z => by cases z), fun _ => (by decide : ("sent" : Str) ≠ "there"), (by decide : ("sent" : Str) ∈ (["there", "waits", "sent"] : List Str)), hs⟩
/-- both relays when the law's messages are locked -/
theorem lockMe {G H : Hp} {r dx : Addr} {Z : Sta} {x : RA} {ow : Addr} {Zo : Sta} {y : OA} (h : Both K G H r dx Z x ow Zo y) (od : Obj) :
    OV K (upd H y.me (.frz od (.dK (ents rf y.ms)))) (upd H y.me (.frz od (.dK (ents rf y.ms)))) ow Zo y ∧ Rel K (hid (upd H y.me (.frz od (.dK (ents rf y.ms)))) (rcs K r dx Z x)) (upd H y.me (.frz od (.dK (ents rf y.ms)))) r dx Z x := by
  have O := h.own
  have R := h.rel
  have TL := tabs_lock (o := od) O.tab O.atMe trivial
  have nd : (ow :: y.fo :: y.me :: y.qs :: y.se :: y.ro :: (omL y.ms ++ oqL y.qu).map (·.1)).Nodup := O.o.nd
  have n1 : ow ≠ y.me := fun z => (List.nodup_cons.mp nd).1 (by rw [z]; simp)
  have nd2 := (List.nodup_cons.mp nd).2
  have n2 : y.fo ≠ y.me := fun z => (List.nodup_cons.mp nd2).1 (by rw [z]; simp)
  have nd3 := (List.nodup_cons.mp nd2).2
  have n3 : y.qs ≠ y.me := fun z => (List.nodup_cons.mp nd3).1 (by rw [← z]; simp)
  have n4 : y.se ≠ y.me := fun z => (List.nodup_cons.mp nd3).1 (by rw [← z]; simp)
  have keep : ∀ {a : Addr} {xs : List V}, H a = some (.tup xs) → upd H y.me (.frz od (.dK (ents rf y.ms))) a = some (.tup xs) := fun ha => at_lock ha fun z => by rw [z, O.atMe] at ha; cases ha
  have keepL : ∀ {a : Addr} {xs : List V}, H a = some (.lst xs) → upd H y.me (.frz od (.dK (ents rf y.ms))) a = some (.lst xs) := fun ha => at_lock ha fun z => by rw [z, O.atMe] at ha; cases ha
  have S := O.st
  have meO : y.me ∈ ocs ow Zo y := List.mem_map.mpr ⟨(y.me, .dK (ents rf y.ms)), by unfold oc; simp, rfl⟩
  refine ⟨⟨Le.refl TL, at_lock O.atO n1, at_lock O.atFo n2, .inr ⟨od, upd_same⟩, at_lock O.atQs n3, at_lock O.atSe n4, keepL O.atRo, fun hq => keepL (O.atMs hq), fun hq => keepL (O.atQu hq), fun p hp => keep (O.sdt p hp), fun p hp => keep (O.rwt p hp), ⟨keepL S.tw, keepL S.lk, fun z hz => keep (S.lt z hz), S.nd, S.ok, S.lok, S.l60, S.ll⟩, O.ow_ne⟩,
    ⟨hid_le TL, R.nd, fun c hc => at_lock (R.at_ c hc) fun z => h.dj c.1 (List.mem_map.mpr ⟨c, hc, rfl⟩) (by rw [z]; exact meO), fun c hc => hid_no (List.mem_map.mpr ⟨c, hc, rfl⟩), fun p hp => keep (R.bzt p hp), fun p hp => keep (R.rwt p hp), ?_⟩⟩
  have s := R.sta
  have up : ∀ {a : Addr} {xs : List V}, hid H (rcs K r dx Z x) a = some (.tup xs) → hid (upd H y.me (.frz od (.dK (ents rf y.ms)))) (rcs K r dx Z x) a = some (.tup xs) := fun ha => hid_at (keep (hid_sub ha).1) (hid_sub ha).2
  exact ⟨up s.tw, up s.lk, fun q hq => up (s.lt q hq), s.nd, s.ok, s.lok, s.l60, s.ll⟩
end
end K6

-- text K6Lh
set_option maxRecDepth 100000
set_option maxHeartbeats 4000000
namespace K6
open PySem PySem.Spec PyProof.Rows L2 LamX GX
section
variable {P : Program} {w : World} {K : PySem.W.Frag} {mg : Str → Option Value} {base : Heap}
variable {f : Addr} {cd : Value} {A : Around} {outer : List Env} {s : Shared} {H0 : Hp} {E : XK}
/-! ### each message is asked of both -/
structure Lq (K : PySem.W.Frag) where
  r : Addr
  dx : Addr
  Z : Sta
  x : RA
  ow : Addr
  Zo : Sta
  y : OA
  k : Nat
  B : Hp
  H1 : Hp
  n : Str
  m : Msg
  ma : Addr
  Vw : OV K H1 H1 ow Zo y
  R : Rel K B H1 r dx Z x
  sm : Same Z Zo
  sd : DSta Z
  di : DInv Z x.pu (3000 * k)
  k21 : k ≤ 21
  ey : y.pu = ownOf x.pu
  tok : ∀ t ∈ Z.ts, (PyData.str t).canLay0 = true
  hma : look y.ms n = some (ma, m)
section
variable {q : Lq K}
theorem Lq.hm (q : Lq K) : look q.x.pu.ms q.n = some q.m := by
  have e : q.y.pu.ms = q.x.pu.ms := congrArg OS.ms q.ey
  rw [← e, ol_ms, q.hma]
  rfl
def Lq.way (q : Lq K) : Option (List Str) := routeL q.Z.ts (nearF q.Z.ts q.Z.lp q.x.fog) q.m.s q.m.e
def Lq.tm (q : Lq K) : List Int := (tms q.x.pu.rw q.n).map (·.1)
def WayV (H : Hp) (o : Option (List Str)) (v : V) : Prop := match o with
  | none => v = .non
  | some w => ∃ t, v = .ref t ∧ H t = some (.lst (w.map V.str))
theorem WayV.to {TT : List (Addr × Str)} {H H' : Hp} {o : Option (List Str)} {v : V} (h : WayV H o v) (l : Le TT H H') : WayV H' o v := by
  cases o with
  | none => exact h
  | some w =>
    obtain ⟨t, e, h⟩ := h
    exact ⟨t, e, l.at h⟩
/-- how long it took, as both tell it -/
def Lq.tk (q : Lq K) : V := if q.m.th = true then .int ((q.tm[1]?.getD 0) - (q.tm[0]?.getD 0)) else .non
end
def MX (K : PySem.W.Frag) (d : Addr) (q : Lq K) (σ : L2.St) (H : Hp) : Prop := σ.length = 23 ∧ At σ 1 (.ref d) ∧ At σ 2 (.ref q.Zo.tw) ∧ At σ 7 (.int q.Zo.hold) ∧ At σ 8 (.ref q.r) ∧ At σ 9 (.ref q.ow) ∧ Le (T K) q.H1 H
def MA (K : PySem.W.Frag) (d : Addr) (q : Lq K) (σ : L2.St) (H : Hp) : Prop := MX K d q σ H ∧ At σ 13 (.str q.n)
def MB (K : PySem.W.Frag) (d : Addr) (q : Lq K) (σ : L2.St) (H : Hp) : Prop := MA K d q σ H ∧ At σ 14 (.str q.m.s) ∧ At σ 15 (.str q.m.e) ∧ At σ 16 (.int q.m.n) ∧ At σ 18 (.str (stV q.m.th))
def MC (K : PySem.W.Frag) (d : Addr) (q : Lq K) (σ : L2.St) (H : Hp) : Prop := MB K d q σ H ∧ ∃ wv tr, At σ 12 wv ∧ WayV H q.way wv ∧ At σ 19 (.ref tr) ∧ H tr = some (.lst (q.tm.map V.int))
def MD (K : PySem.W.Frag) (d : Addr) (q : Lq K) (σ : L2.St) (H : Hp) : Prop := MB K d q σ H ∧ (∃ wv, At σ 12 wv ∧ WayV H q.way wv) ∧ At σ 20 q.tk
variable {d : Addr}
theorem gs0 (C : Ctx K mg base) (hr : Room 11 (XL P w K mg base f cd A outer s H0 E).A) (q : Lq K) : Step (XL P w K mg base f cd A outer s H0 E) (fl 7 0) (MA K d q) (MB K d q) := by
  have nn := sc_law.nd
  have hv := hu_of hr
  refine ⟨_, ps_asg (pe_dget hv (pe_dget hv (pv 9) pe_str (fun _ _ => rfl)) (pv 13) (fun _ _ => rfl)) (pg_lst rfl (pgs_cons (pg_name (i := 14) nn rfl (by first | exact Or.inl rfl | exact Or.inr rfl)) (pgs_cons (pg_name (i := 15) nn rfl (by first | exact Or.inl rfl | exact Or.inr rfl)) (pgs_cons (pg_name (i := 16) nn rfl (by first | exact Or.inl rfl | exact Or.inr rfl)) (pgs_cons (pg_name (i := 17) nn rfl (by first | exact Or.inl rfl | exact Or.inr rfl)) (pgs_cons (pg_name (i := 18) nn rfl (by first | exact Or.inl rfl | exact Or.inr rfl)) pgs_nil)))))), fun D σ H hM hq => ?_⟩
  obtain ⟨⟨hl, h1, h2, h7, h8, h9, L⟩, h13⟩ := hM
  obtain ⟨a0, a1, a2, a3, a4, a5, a6, a7, a8, a9, a10, a11, a12, a13, a14, a15, a16, a17, a18, a19, a20, a21, a22, rfl⟩ := ex23 hl
  cases h1; cases h2; cases h7; cases h8; cases h9; cases h13
  have Vx := q.Vw.to L
  refine ⟨_, rfl, q.ow, _, rfl, Vx.get "messages" _ rfl, _, rfl, q.y.me, _, rfl, dget_rd (f := rf) Vx.atMe q.hma, q.ma, _, rfl, SqL.of (Vx.atMs (look_in q.hma)), rfl, _, _, rfl, _, _, rfl, _, _, rfl, _, _, rfl, _, _, rfl, rfl, ?_⟩
  exact hq _ _ ⟨⟨⟨rfl, rfl, rfl, rfl, rfl, rfl, L⟩, rfl⟩, rfl, rfl, rfl, rfl⟩
theorem isGT_in (w : Str) : decide (w ∈ (["given", "there"] : List Str)) = isGT w := by
  unfold isGT
  rw [Bool.eq_iff_iff]
  simp
theorem Lq.times (q : Lq K) : (q.y.rw.filter fun z => decide (z.2.2.2.2 = q.n) && isGT z.2.2.1).map (fun z => V.int z.2.1) = q.tm.map V.int := by
  have e : q.y.rw.map (·.2) = q.x.pu.rw := congrArg OS.rw q.ey
  unfold Lq.tm tms
  rw [← e, List.filter_map, List.map_map, List.map_map, List.map_map]
  rfl
theorem gs1 (C : Ctx K mg base) (hr : Room 11 (XL P w K mg base f cd A outer s H0 E).A) (q : Lq K) : Step (XL P w K mg base f cd A outer s H0 E) (fl 7 1) (MB K d q) (MC K d q) := by
  have nn := sc_law.nd
  have hv := hu_of hr
  refine ⟨_, ps_par (i := 12) (j := 19) (by rfl) nn rfl rfl (by decide) rfl rfl (pa_cons (pe_cx (ok_vroute (P := P) (w := w) C) hr (by decide) rfl passA (pa_cons (pv 9) (pa_cons (pv 14) (pa_cons (pv 15) pa_nil))))
    (pa_cons (pe_lc (own := [("row", 22)]) (g := gName 22) rfl nn (pi_list (pe_dget hv (pv 9) pe_str (fun _ _ => rfl))) (blkOk_by (N := n_law) (sc := defScope s_law) (by decide +kernel)) (fun _ _ _ _ _ => (pg_name (i := 22) nn rfl (by first | exact Or.inl rfl | exact Or.inr rfl)))
      (fun _ _ _ _ _ => pts_one (PW.pt (pw_and (pt_cmpR op_eq (pe_ix (r := rIxT K) ix_tup (pv 22) pe_int (fun _ _ => rfl)) (pv 13) (nomark _)) (pw_and1 (pt_cmpR (r := rIn K false) op_in_seq (pe_ix (r := rIxT K) ix_tup (pv 22) pe_int (fun _ _ => rfl)) (pe_lst (pa_cons pe_str (pa_cons pe_str pa_nil))) rfl)))))
      (fun _ _ _ _ _ => (pe_ix (r := rIxT K) ix_tup (pv 22) pe_int (fun _ _ => rfl)))) pa_nil)) (by rfl), fun D σ H hM hq => ?_⟩
  obtain ⟨⟨⟨hl, h1, h2, h7, h8, h9, L⟩, h13⟩, h14, h15, h16, h18⟩ := hM
  obtain ⟨a0, a1, a2, a3, a4, a5, a6, a7, a8, a9, a10, a11, a12, a13, a14, a15, a16, a17, a18, a19, a20, a21, a22, rfl⟩ := ex23 hl
  cases h1; cases h2; cases h7; cases h8; cases h9; cases h13; cases h14; cases h15; cases h16; cases h18
  have Vx := q.Vw.to L
  have ef : q.y.fog = q.x.fog := congrArg OS.fog q.ey
  have eF : nearF q.Zo.ts q.Zo.lp q.y.fog = nearF q.Z.ts q.Z.lp q.x.fog := by rw [q.sm.ts, q.sm.lp, ef]
  obtain ⟨hs, he, _⟩ := q.di.I.me _ _ q.hm
  have lrw : q.y.rw.length ≤ 100000 := by
    have e : q.y.rw.map (·.2) = q.x.pu.rw := congrArg OS.rw q.ey
    have h1 := congrArg List.length e
    rw [List.length_map] at h1
    have := q.di.rw
    have := q.k21
    omega
  refine ⟨_, rfl, _, rfl, _, rfl, _, q.ow, q.Zo, q.y, q.m.s, q.m.e, rfl, Vx, by rw [q.sm.ts]; exact hs, fun H6 L6 => ?_⟩
  rw [eF, q.sm.ts]
  have V6 := Vx.to L6
  refine ⟨fun hw => ?_, fun t wy hw ht => ?_⟩
  · refine ⟨_, rfl, q.ow, _, rfl, V6.get "rows" _ rfl, q.y.ro, rfl, ⟨_, SqL.of V6.atRo⟩, fun D1 hD => ?_⟩
    refine lc_pick (K := K) (T := T K) (xs := q.y.rw) (f := rf) (fun z => decide (z.2.2.2.2 = q.n) && isGT z.2.2.1) (fun z => V.int z.2.1) (walksVL (SqL.of V6.atRo)) L6.tab hD lrw (fun z hz H3 Y N L3 hY hN => ⟨rfl, ?_⟩) (fun H4 L4 h4 => ?_)
    · have tz := L3.at (V6.rwt z hz)
      refine ⟨_, rfl, z.1, _, _, _, rfl, rfl, SqT.of tz, atI_nat (j := 3) rfl, _, rfl, rfl, _, rfl, ?_⟩
      by_cases c : z.2.2.2.2 = q.n
      rotate_left
      · exact iteDF (fun h => c (V.str.inj h)) (iteF (hN _ (Le.refl L3.tab) (by rw [decide_eq_false c]; rfl)))
      refine iteDT (congrArg V.str c) ⟨_, rfl, z.1, _, _, _, rfl, rfl, SqT.of tz, atI_nat (j := 1) rfl, by show 2 ≤ sizeLine; decide, fun e he => ⟨e, _, rfl, .inl (SqL.of upd_same), rfl, flat_strs' ["given", "there"], _, rfl, ?_⟩⟩
      have L7 := (Le.refl L3.tab).new (o := .lst [.str "given", .str "there"]) he
      have tz7 := L7.at tz
      show (if inV (.str z.2.2.1) ((["given", "there"] : List Str).map V.str) = true then _ else _)
      rw [inV_strs, isGT_in]
      cases hg : isGT z.2.2.1 with
      | true => exact iteT ⟨_, rfl, z.1, _, _, _, rfl, rfl, SqT.of tz7, atI_nat (j := 0) rfl, hY _ L7 (by rw [decide_eq_true c, hg]; rfl)⟩
      | false => exact iteF (hN _ L7 (by rw [hg, Bool.and_false]))
    · rw [q.times] at h4
      refine ⟨_, _, rfl, hq _ _ ⟨⟨⟨⟨rfl, rfl, rfl, rfl, rfl, rfl, (L.trans L6).trans L4⟩, rfl⟩, rfl, rfl, rfl, rfl⟩, _, D1, rfl, ?_, rfl, h4⟩⟩
      unfold Lq.way
      rw [hw]
      exact rfl
  · refine ⟨_, rfl, q.ow, _, rfl, V6.get "rows" _ rfl, q.y.ro, rfl, ⟨_, SqL.of V6.atRo⟩, fun D1 hD => ?_⟩
    refine lc_pick (K := K) (T := T K) (xs := q.y.rw) (f := rf) (fun z => decide (z.2.2.2.2 = q.n) && isGT z.2.2.1) (fun z => V.int z.2.1) (walksVL (SqL.of V6.atRo)) L6.tab hD lrw (fun z hz H3 Y N L3 hY hN => ⟨rfl, ?_⟩) (fun H4 L4 h4 => ?_)
    · have tz := L3.at (V6.rwt z hz)
      refine ⟨_, rfl, z.1, _, _, _, rfl, rfl, SqT.of tz, atI_nat (j := 3) rfl, _, rfl, rfl, _, rfl, ?_⟩
      by_cases c : z.2.2.2.2 = q.n
      rotate_left
      · exact iteDF (fun h => c (V.str.inj h)) (iteF (hN _ (Le.refl L3.tab) (by rw [decide_eq_false c]; rfl)))
      refine iteDT (congrArg V.str c) ⟨_, rfl, z.1, _, _, _, rfl, rfl, SqT.of tz, atI_nat (j := 1) rfl, by show 2 ≤ sizeLine; decide, fun e he => ⟨e, _, rfl, .inl (SqL.of upd_same), rfl, flat_strs' ["given", "there"], _, rfl, ?_⟩⟩
      have L7 := (Le.refl L3.tab).new (o := .lst [.str "given", .str "there"]) he
      have tz7 := L7.at tz
      show (if inV (.str z.2.2.1) ((["given", "there"] : List Str).map V.str) = true then _ else _)
      rw [inV_strs, isGT_in]
      cases hg : isGT z.2.2.1 with
      | true => exact iteT ⟨_, rfl, z.1, _, _, _, rfl, rfl, SqT.of tz7, atI_nat (j := 0) rfl, hY _ L7 (by rw [decide_eq_true c, hg]; rfl)⟩
      | false => exact iteF (hN _ L7 (by rw [hg, Bool.and_false]))
    · rw [q.times] at h4
      refine ⟨_, _, rfl, hq _ _ ⟨⟨⟨⟨rfl, rfl, rfl, rfl, rfl, rfl, (L.trans L6).trans L4⟩, rfl⟩, rfl, rfl, rfl, rfl⟩, _, D1, rfl, ?_, rfl, h4⟩⟩
      unfold Lq.way
      rw [hw]
      exact ⟨t, rfl, L4.at ht⟩
theorem gs2 (C : Ctx K mg base) (hr : Room 11 (XL P w K mg base f cd A outer s H0 E).A) (q : Lq K) : Step (XL P w K mg base f cd A outer s H0 E) (fl 7 2) (MC K d q) (MD K d q) := by
  have nn := sc_law.nd
  refine ⟨_, ps_set (i := 20) nn rfl (by first | exact Or.inl rfl | exact Or.inr rfl) (pe_ifExp (pt_cmpR op_eq (pv 18) pe_str (nomark _)) (pe_op op_sub (pe_ix ix_list (pv 19) (pe_op op_sub (pe_callB call_len_seq (by rfl) C.t.b_len PySem.boot_len (pa_cons (pv 19) pa_nil)) pe_int) (fun _ _ => rfl)) (pe_ix ix_list (pv 19) pe_int (fun _ _ => rfl))) pe_non), fun D σ H hM hq => ?_⟩
  obtain ⟨⟨⟨⟨hl, h1, h2, h7, h8, h9, L⟩, h13⟩, h14, h15, h16, h18⟩, wv, tr, h12, hw, h19, htr⟩ := hM
  obtain ⟨a0, a1, a2, a3, a4, a5, a6, a7, a8, a9, a10, a11, a12, a13, a14, a15, a16, a17, a18, a19, a20, a21, a22, rfl⟩ := ex23 hl
  cases h1; cases h2; cases h7; cases h8; cases h9; cases h13; cases h14; cases h15; cases h16; cases h18; cases h12; cases h19
  refine ⟨_, rfl, rfl, _, rfl, ?_⟩
  cases hth : q.m.th with
  | false =>
    refine iteDF (fun z => absurd (V.str.inj z) (by decide)) ?_
    refine hq _ _ ⟨⟨⟨⟨rfl, rfl, rfl, rfl, rfl, rfl, L⟩, rfl⟩, rfl, rfl, rfl, by rw [hth]; rfl⟩, ⟨_, rfl, hw⟩, ?_⟩
    show some (some V.non) = some (some q.tk)
    unfold Lq.tk
    rw [hth]
    rfl
  | true =>
    obtain ⟨g, a, e1, e2⟩ := q.di.t.dn _ _ q.hm hth
    have et : q.tm = [g, a] := by unfold Lq.tm; rw [e1]; rfl
    rw [et] at htr
    refine iteDT rfl ?_
    refine ⟨_, rfl, _, rfl, tr, _, rfl, .inl (SqL.of htr), _, _, rfl, rfl, tr, _, _, _, rfl, rfl, SqL.of htr, atI_nat (j := 1) rfl, _, rfl, tr, _, _, _, rfl, rfl, SqL.of htr, atI_nat (j := 0) rfl, _, _, rfl, rfl, ?_⟩
    refine hq _ _ ⟨⟨⟨⟨rfl, rfl, rfl, rfl, rfl, rfl, L⟩, rfl⟩, rfl, rfl, rfl, by rw [hth]; rfl⟩, ⟨_, rfl, hw⟩, ?_⟩
    show some (some (V.int (a - g))) = some (some q.tk)
    unfold Lq.tk
    rw [hth, et]
    rfl
theorem gs4 (C : Ctx K mg base) (hr : Room 11 (XL P w K mg base f cd A outer s H0 E).A) (q : Lq K) : Step (XL P w K mg base f cd A outer s H0 E) (fl 7 4) (MD K d q) (MX K d q) := by
  have nn := sc_law.nd
  refine ⟨_, ps_if (PW.pt (pw_and (pt_cmp (pc_notN (pv 20))) (pw_and1 (pt_cmpR op_lt (pv 20) (pe_op op_add (pe_op op_mul (pv 7) (pv 16)) pe_int) (nomark _))))) (pss_one (ps_ret pe_bl)) pss_nil, fun D σ H hM hq => ?_⟩
  obtain ⟨⟨⟨⟨hl, h1, h2, h7, h8, h9, L⟩, h13⟩, h14, h15, h16, h18⟩, ⟨wv, h12, hw⟩, h20⟩ := hM
  refine ⟨_, h20, _, rfl, ?_⟩
  unfold Lq.tk at h20 ⊢
  cases hth : q.m.th with
  | false =>
    rw [hth] at h20
    exact iteF (iteF (hq _ _ ⟨hl, h1, h2, h7, h8, h9, L⟩))
  | true =>
    rw [hth] at h20
    obtain ⟨g, a, e1, e2⟩ := q.di.t.dn _ _ q.hm hth
    have et : q.tm = [g, a] := by unfold Lq.tm; rw [e1]; rfl
    rw [et] at h20
    have eh : q.Zo.hold = q.Z.hold := q.sm.hold
    obtain ⟨_, _, k3, k4⟩ := q.di.I.me _ _ q.hm
    refine iteT ⟨_, h20, _, h7, _, h16, _, _, rfl, rfl, .inr ⟨by omega, by omega⟩, _, _, rfl, rfl, _, _, rfl, rfl, _, rfl, ?_⟩
    refine iteDF ?_ (hq _ _ ⟨hl, h1, h2, h7, h8, h9, L⟩)
    show ¬ a - g < q.Zo.hold * q.m.n + 1
    rw [eh]
    omega
theorem gs3 (C : Ctx K mg base) (hr : Room 11 (XL P w K mg base f cd A outer s H0 E).A) (q : Lq K) : Step (XL P w K mg base f cd A outer s H0 E) (fl 7 3) (MD K d q) (MD K d q) := by
  have nn := sc_law.nd
  obtain ⟨fW, fdW, FW, bW, mW, cW⟩ := ok_where (P := P) (w := w) C
  obtain ⟨fT, fdT, FT, bT, mT, cT⟩ := ok_took (P := P) (w := w) C
  obtain ⟨fL, fdL, FL, bL, mL, cL⟩ := ok_least (P := P) (w := w) C
  refine ⟨_, ps_if (PW.pt (pw_or (pt_cmpR (op_neD hr.units) (pe_meth (pv 8) cW mW FW (hr.mono (by decide)) bW .nil passA (pa_cons (pv 13) pa_nil)) (pe_cx (ok_vwhere (P := P) (w := w) C) hr (by decide) rfl passA (pa_cons (pv 9) (pa_cons (pv 13) pa_nil))) (nomark _))
    (pw_or (pt_cmpR op_ne (pe_meth (pv 8) cT mT FT (hr.mono (by decide)) bT .nil passA (pa_cons (pv 13) pa_nil)) (pv 20) (nomark _))
    (pw_or1 (pt_cmpR op_ne (pe_meth (pv 8) cL mL FL (hr.mono (by decide)) bL .nil passA (pa_cons (pv 13) pa_nil)) (pe_ifExp (pt_cmp (pc_notN (pv 12))) (pe_op op_add (pe_op op_mul (pe_op op_mul (pe_op op_sub (pe_callB call_len_seq (by rfl) C.t.b_len PySem.boot_len (pa_cons (pv 12) pa_nil)) pe_int) (pv 7)) (pv 16)) pe_int) pe_non) (nomark _)))))) (pss_one (ps_ret pe_bl)) pss_nil, fun D σ H hM hq => ?_⟩
  obtain ⟨⟨⟨⟨hl, h1, h2, h7, h8, h9, L⟩, h13⟩, h14, h15, h16, h18⟩, ⟨wv, h12, hw⟩, h20⟩ := hM
  have hm := q.hm
  have I := q.di.I
  have ndt := q.sd.nd
  obtain ⟨u, hu, u1, u2, u3, u4⟩ := whereP_some I ndt hm
  obtain ⟨ma, hxm⟩ := look_un (cs := q.x.ms) (n := q.n) (v := q.m) (by rw [← pu_ms]; exact hm)
  have R := q.R.to L
  have lbz : q.x.bz.length ≤ 200 := by
    have h1 := I.bzl
    have h2 : q.x.pu.bz.length = q.x.bz.length := drop1_len _
    have := q.sd.l5
    omega
  have ndb : (q.x.bz.map (·.1)).Nodup := by
    rw [← drop1_keys]
    exact I.bz.nd
  have hqu : ∀ t ∈ q.Z.ts, ∃ a l, look q.x.qu t = some (a, l) := fun t ht => by
    obtain ⟨l, hl⟩ := I.q ht
    obtain ⟨a, ha⟩ := look_un (cs := q.x.qu) (n := t) (v := l) (by rw [← pu_qu]; exact hl)
    exact ⟨a, l, ha⟩
  refine ⟨_, h8, q.r, q.dx, _, rfl, R.atR, rfl, _, h13, _, q.r, q.dx, q.Z, q.x, q.n, rfl, R, lbz, ndb, hqu, (fun z => by rw [hxm] at z; cases z), fun v hv => ⟨u, hu, fun H2 p L2 hp => ?_⟩⟩
  have V2 := q.Vw.to (L.trans L2)
  have huo : whereP q.Zo.ts q.x.pu q.n = some u := by rw [q.sm.ts]; exact hu
  refine ⟨_, h9, _, h13, _, q.ow, q.Zo, q.y, q.x.pu, q.n, q.m, u, rfl, V2, q.ey, by rw [q.sm.ts]; exact I, hm, huo, fun H3 p2 L3 hp2 => ?_⟩
  have lu : (PyData.tuple [.str u.1, .str u.2]).canLay0 = true ∧ (PyData.tuple [.str u.1, .str u.2]).depth ≤ 1 := lay_tuple (n := 0) fun d hd => by
    simp only [List.mem_cons, List.not_mem_nil, or_false] at hd
    rcases hd with rfl | rfl
    · refine ⟨?_, Nat.le_refl _⟩
      have : ∀ s ∈ (["there", "waits", "sent"] : List Str), (PyData.str s).canLay0 = true := by decide +kernel
      exact this _ u3
    · exact ⟨q.tok _ u4, Nat.le_refl _⟩
  refine ⟨_, _, .tup (SqT.of (L3.at hp)) (.cons (.str _) (.cons (.str _) .nil)), .tup (SqT.of hp2) (.cons (.str _) (.cons (.str _) .nil)), shaped_of lu (by decide), shaped_of lu (by decide), _, rfl, ?_⟩
  rw [SeqAt.eqv_refl _ lu.1]
  refine iteF ?_
  have L3' := (L.trans L2).trans L3
  have R3 := q.R.to L3'
  have lrw : q.x.rw.length ≤ 100000 := by
    have h1 : q.x.pu.rw.length = q.x.rw.length := List.length_map _
    have := q.di.rw
    have := q.k21
    omega
  have fin : ∀ H5, Le (T K) q.H1 H5 → WayV H5 q.way wv → D.nx σ H5 := fun H5 L5 hw5 => hq _ _ ⟨⟨⟨⟨hl, h1, h2, h7, h8, h9, L5⟩, h13⟩, h14, h15, h16, h18⟩, ⟨wv, h12, hw5⟩, h20⟩
  have hw3 := hw.to (L2.trans L3)
  clear hp hp2 hw
  -- took: what both tell is one
  refine ⟨_, h8, q.r, q.dx, _, rfl, R3.atR, rfl, _, h13, _, q.r, q.dx, q.Z, q.x, q.n, rfl, R3, lbz, ndb, lrw, hqu, (fun z => by rw [hxm] at z; cases z), fun v hv => ⟨u, hu, fun hne H4 L4 => ?_, fun he => ?_⟩⟩
  · have hth : q.m.th = false := by
      cases h : q.m.th with
      | false => rfl
      | true => exact absurd (by rw [u1 h]) hne
    have et : q.tk = .non := by unfold Lq.tk; rw [hth]; rfl
    rw [et] at h20
    refine ⟨_, h20, rfl, _, rfl, iteNS rfl ?_⟩
    have L4' := L3'.trans L4
    have R4 := q.R.to L4'
    have hw4 := hw3.to L4
    refine ⟨_, h8, q.r, q.dx, _, rfl, R4.atR, rfl, _, h13, _, q.r, q.dx, q.Z, q.x, q.n, rfl, R4, q.sd.h1, q.sd.h3, (fun z => by rw [hxm] at z; cases z), fun a m' hv' => ?_⟩
    obtain rfl : m' = q.m := by rw [hxm] at hv'; exact (Prod.ext_iff.mp (Option.some.inj hv')).2.symm
    obtain ⟨k1, k2, k3, k4⟩ := I.me _ _ hm
    refine ⟨k1, k2, k3, k4, fun H5 L5 => ?_⟩
    have hw5 := hw4.to L5
    have L5' := L4'.trans L5
    have eh : q.Zo.hold = q.Z.hold := q.sm.hold
    have sh1 := q.sd.h1
    have sh3 := q.sd.h3
    have er : q.x.pu.rt q.Z.ts q.Z.lp q.m.s q.m.e = q.way := rfl
    rw [er]
    cases hway : q.way with
    | none =>
      rw [hway] at hw5
      obtain rfl : wv = .non := hw5
      refine ⟨_, h12, _, rfl, iteF ⟨rfl, _, rfl, iteNS rfl (fin _ L5' (by rw [hway]; rfl))⟩⟩
    | some wy =>
      rw [hway] at hw5
      obtain ⟨t, rfl, ht⟩ := id hw5
      refine ⟨_, h12, _, rfl, iteT ⟨_, h12, t, _, rfl, .inl (SqL.of ht), _, _, rfl, rfl, _, h7, _, _, rfl, rfl, .inr ⟨by omega, by omega⟩, _, h16, _, _, rfl, rfl, .inr ⟨by omega, by omega⟩, _, _, rfl, rfl, rfl, _, rfl, iteNS ?_ (fin _ L5' (by rw [hway]; exact hw5))⟩⟩
      rw [List.length_map, q.sm.hold]
  · have hth : q.m.th = true := by
      cases h : q.m.th with
      | false => exact absurd he (u2 h)
      | true => rfl
    obtain ⟨g, a, e1, e2⟩ := q.di.t.dn _ _ hm hth
    have et : q.tk = .int (a - g) := by unfold Lq.tk Lq.tm; rw [hth, e1]; rfl
    rw [et] at h20
    refine ⟨g, [], a, [], by rw [mins_tms _ (by decide), e1]; rfl, by rw [mins_tms _ (by decide), e1]; rfl, fun H4 L4 => ?_⟩
    refine ⟨_, h20, rfl, _, rfl, iteNS rfl ?_⟩
    have L4' := L3'.trans L4
    have R4 := q.R.to L4'
    have hw4 := hw3.to L4
    refine ⟨_, h8, q.r, q.dx, _, rfl, R4.atR, rfl, _, h13, _, q.r, q.dx, q.Z, q.x, q.n, rfl, R4, q.sd.h1, q.sd.h3, (fun z => by rw [hxm] at z; cases z), fun a m' hv' => ?_⟩
    obtain rfl : m' = q.m := by rw [hxm] at hv'; exact (Prod.ext_iff.mp (Option.some.inj hv')).2.symm
    obtain ⟨k1, k2, k3, k4⟩ := I.me _ _ hm
    refine ⟨k1, k2, k3, k4, fun H5 L5 => ?_⟩
    have hw5 := hw4.to L5
    have L5' := L4'.trans L5
    have eh : q.Zo.hold = q.Z.hold := q.sm.hold
    have sh1 := q.sd.h1
    have sh3 := q.sd.h3
    have er : q.x.pu.rt q.Z.ts q.Z.lp q.m.s q.m.e = q.way := rfl
    rw [er]
    cases hway : q.way with
    | none =>
      rw [hway] at hw5
      obtain rfl : wv = .non := hw5
      refine ⟨_, h12, _, rfl, iteF ⟨rfl, _, rfl, iteNS rfl (fin _ L5' (by rw [hway]; rfl))⟩⟩
    | some wy =>
      rw [hway] at hw5
      obtain ⟨t, rfl, ht⟩ := id hw5
      refine ⟨_, h12, _, rfl, iteT ⟨_, h12, t, _, rfl, .inl (SqL.of ht), _, _, rfl, rfl, _, h7, _, _, rfl, rfl, .inr ⟨by omega, by omega⟩, _, h16, _, _, rfl, rfl, .inr ⟨by omega, by omega⟩, _, _, rfl, rfl, rfl, _, rfl, iteNS ?_ (fin _ L5' (by rw [hway]; exact hw5))⟩⟩
      rw [List.length_map, q.sm.hold]
end
end K6

-- text K6Li
set_option maxRecDepth 100000
set_option maxHeartbeats 4000000
namespace K6
open PySem PySem.Spec PyProof.Rows L2 LamX GX
section
variable {P : Program} {w : World} {K : PySem.W.Frag} {mg : Str → Option Value} {base : Heap}
variable {f : Addr} {cd : Value} {A : Around} {outer : List Env} {s : Shared} {H0 : Hp} {E : XK}
/-! ### one round of the law -/
theorem ents_at' {α : Type} {f : α → V} {cs : SD α} {i : Nat} {k : L2.Key} {v : V} (h : (ents f cs)[i]? = some (k, v)) : ∃ p, cs[i]? = some p ∧ k = Sum.inr p.1 ∧ v = f p.2 := by
  unfold ents at h
  rw [List.getElem?_map] at h
  obtain ⟨p, hp, e⟩ := Option.map_eq_some_iff.mp h
  cases e
  exact ⟨p, hp, rfl, rfl⟩
variable {p0 d : Addr}
def W6 (K : PySem.W.Frag) (p0 d : Addr) : L2.St → Hp → Prop := fun σ H => σ.length = 23 ∧ Tabs (T K) H ∧ H p0 = some (.lst [.ref d])
theorem fmsg (C : Ctx K mg base) (hr : Room 11 (XL P w K mg base f cd A outer s H0 E).A) : ∃ t, PSs (XL P w K mg base f cd A outer s H0 E) (forB (sl 7)) t ∧ ∀ (q : Lq K) (D : Ends) (σ : L2.St) (H : Hp), MA K d q σ H → (∀ σ' H', MX K d q σ' H' → D.nx σ' H') → t D σ H := by
  have hb := fun q : Lq K => (show Steps (XL P w K mg base f cd A outer s H0 E) (forB (sl 7)) (MA K d q) (MX K d q) from (gs0 C hr q).cons ((gs1 C hr q).cons ((gs2 C hr q).cons ((gs3 C hr q).cons ((gs4 C hr q).cons .nil)))))
  exact ⟨_, pss_ex fun i => (Classical.choose_spec (hb i)).1, fun q D σ H hM hq => ⟨q, (Classical.choose_spec (hb q)).2 D σ H hM hq⟩⟩
theorem ls7 (C : Ctx K mg base) (hr : Room 11 (XL P w K mg base f cd A outer s H0 E).A) : Step (XL P w K mg base f cd A outer s H0 E) (sl 7) (W5 K p0 d) (W6 K p0 d) := by
  have nn := sc_law.nd
  have hv := hu_of hr
  obtain ⟨tb, hb1, hb2⟩ := fmsg (P := P) (w := w) (d := d) C hr
  refine ⟨_, ps_lock (ps_for (body := forB (sl 7)) ownsA rfl (pi_keys (pe_dget hv (pv 9) pe_str (fun _ _ => rfl))) (pg_name (i := 13) nn rfl (by first | exact Or.inl rfl | exact Or.inr rfl)) hb1), fun D σ H hM hq => ?_⟩
  obtain ⟨k, hk, G, r, dx, Z, x, ow, Zo, y, hl, h1, h2, h7, h8, h9, W⟩ := hM
  have O := W.bd.b.own
  refine ⟨y.me, _, O.atMe, trivial, fun od => ?_⟩
  obtain ⟨Vx, R1⟩ := lockMe W.bd.b od
  have ndm : (y.ms.map (·.1)).Nodup := by
    rw [← drop1_keys]
    have e : y.pu.ms = x.pu.ms := congrArg OS.ms W.ey
    show (y.pu.ms.map (·.1)).Nodup
    rw [e]
    exact W.di.I.mnd
  have e1 : upd H y.me (.frz od (.dK (ents rf y.ms))) y.me = some (.frz od (.dK (ents rf y.ms))) := upd_same
  refine ⟨_, h9, ow, _, rfl, Vx.get "messages" _ rfl, y.me, od, rfl, .inl ⟨_, e1, ?_⟩⟩
  refine for_n y.ms.length (fun i σ H' => σ.length = 23 ∧ At σ 1 (.ref d) ∧ At σ 2 (.ref Zo.tw) ∧ At σ 7 (.int Zo.hold) ∧ At σ 8 (.ref r) ∧ At σ 9 (.ref ow) ∧ Le (T K) (upd H y.me (.frz od (.dK (ents rf y.ms)))) H') ⟨hl, h1, h2, h7, h8, h9, Le.refl Vx.tab⟩
    (fun i σ H1 hi ⟨hl, h1, h2, h7, h8, h9, L1⟩ => ⟨⟨L1.at e1, by rw [ents_len]; exact hi⟩, ?_⟩)
    (fun σ H1 ⟨hl, h1, h2, h7, h8, h9, L1⟩ => ⟨⟨L1.at e1, by rw [ents_len]; exact Nat.le_refl _⟩, L1.at e1, ?_⟩)
  · rintro z H2 ⟨rfl, kk, v, hkk, rfl⟩
    obtain ⟨p, hp, rfl, rfl⟩ := ents_at' hkk
    refine hb2 ⟨r, dx, Z, x, ow, Zo, y, k, _, _, p.1, p.2.2, p.2.1, Vx, R1, W.sm, W.sd, W.di, hk, W.ey, W.tok, look_of ndm (List.mem_of_getElem? hp)⟩ _ _ _ ⟨⟨by rw [List.length_set]; exact hl, at_set h1 (by decide), at_set h2 (by decide), at_set h7 (by decide), at_set h8 (by decide), at_set h9 (by decide), L1⟩, at_self (by rw [hl]; decide)⟩ fun σ' H' h => h
  · have L2 := Le.unlock O.atMe trivial L1
    exact hq _ _ ⟨hl, L2.tab, (W.bd.b.le.trans L2).at W.lp⟩
theorem lround (C : Ctx K mg base) (hr : Room 11 (XL P w K mg base f cd A outer s H0 E).A) : Steps (XL P w K mg base f cd A outer s H0 E) [sl 0, sl 1, sl 2, sl 3, sl 4, sl 5, sl 6, sl 7] (W0 K p0 d) (W6 K p0 d) :=
  (ls0 C hr).cons ((ls1 C hr).cons ((ls2 C hr).cons ((ls3 C hr).cons ((ls4 C hr).cons ((ls5 C hr).cons ((ls6 C hr).cons ((ls7 C hr).cons .nil)))))))
theorem LB_eq : LB = [sl 0, sl 1, sl 2, sl 3, sl 4, sl 5, sl 6, sl 7] := by rfl
theorem lround_ex (C : Ctx K mg base) (hr : Room 11 (XL P w K mg base f cd A outer s H0 E).A) : ∃ t, PSs (XL P w K mg base f cd A outer s H0 E) LB t ∧ ∀ (p0 d : Addr) (D : Ends) (σ : L2.St) (H : Hp), W0 K p0 d σ H → (∀ σ' H', W6 K p0 d σ' H' → D.nx σ' H') → t D σ H := by
  have hb := fun x : Addr × Addr => lround (P := P) (w := w) (f := f) (cd := cd) (A := A) (outer := outer) (s := s) (H0 := H0) (E := E) (p0 := x.1) (d := x.2) C hr
  have h1 : ∀ x : Addr × Addr, PSs (XL P w K mg base f cd A outer s H0 E) LB (Classical.choose (hb x)) := fun x => by rw [LB_eq]; exact (Classical.choose_spec (hb x)).1
  refine ⟨_, pss_ex h1, fun p0 d D σ H hM hq => ⟨(p0, d), (Classical.choose_spec (hb (p0, d))).2 D σ H hM hq⟩⟩
end
end K6

-- text K6Pa
set_option maxRecDepth 100000
set_option maxHeartbeats 4000000
namespace K6
open PySem PySem.Spec PyProof.Rows L2 LamX GX
section
variable {P : Program} {w : World} {K : PySem.W.Frag} {mg : Str → Option Value} {base : Heap}
variable {f : Addr} {cd : Value} {A : Around} {outer : List Env} {s : Shared} {H0 : Hp} {E : XK}
/-! ### the law's plain part: what cannot be -/
abbrev XQ (P : Program) (w : World) (K : PySem.W.Frag) (mg : Str → Option Value) (base : Heap) (f : Addr) (cd : Value) (A : Around) (outer : List Env) (s : Shared) (H : Hp) (E : XK) : Cx := XA P w K mg base n_l_plain "_law_plain" (defScope s_l_plain) f cd A outer s H E
def pl (i : Nat) : Stmt := ((defBody s_l_plain)[i]?).getD (.Pass default)
theorem pl_len : (defBody s_l_plain).length = 7 := by decide +kernel
def eltsL : Stmt → List Expr
  | .Assign _ (.List es _) _ => es
  | _ => []
def lamE (i : Nat) : Expr := (eltsL (pl 1))[i]?.getD (.Constant .none 0 default)
def pqr : List Str := ["p", "q", "r"]
def pqL : List (Str × Str) := [("p", "q"), ("q", "r")]
structure Pls (K : PySem.W.Frag) (H : Hp) (B : Hp) (r dx : Addr) (Z : Sta) (x : RA) : Prop where
  R : Rel K B H r dx Z x
  ts : Z.ts = pqr
  zl : Z.lp = pqL
  zh : Z.hold = 2
  xp : x.pu = RS.new pqr
/-- the plain relay stands -/
def Pln (K : PySem.W.Frag) (σ : L2.St) (H : Hp) : Prop := ∃ B r dx Z x, σ[0]? = some (some (.ref r)) ∧ Pls K H B r dx Z x
theorem Pls.to {H H' B : Hp} {r dx : Addr} {Z : Sta} {x : RA} (h : Pls K H B r dx Z x) (l : Le (T K) H H') : Pls K H' B r dx Z x := ⟨h.R.to l, h.ts, h.zl, h.zh, h.xp⟩
theorem Pln.to {σ : L2.St} {H H' : Hp} (h : Pln K σ H) (l : Le (T K) H H') : Pln K σ H' := by
  obtain ⟨B, r, dx, Z, x, h0, h⟩ := h
  exact ⟨B, r, dx, Z, x, h0, h.to l⟩
theorem Pln.tab {σ : L2.St} {H : Hp} (h : Pln K σ H) : Tabs (T K) H := by
  obtain ⟨B, r, dx, Z, x, h0, h⟩ := h
  exact h.R.tab
section
variable {H B : Hp} {r dx : Addr} {Z : Sta} {x : RA}
theorem Pls.ms (h : Pls K H B r dx Z x) (n : Str) : look x.ms n = none := by
  have e : x.pu.ms = [] := by rw [h.xp]; rfl
  have e2 := pu_ms (x := x) n
  rw [e] at e2
  rcases look_or x.ms n with z | ⟨v, z⟩
  · exact z
  · rw [z] at e2; cases e2
theorem Pls.bz (h : Pls K H B r dx Z x) : x.bz = [] := by
  have e : x.pu.bz = [] := by rw [h.xp]; rfl
  exact List.map_eq_nil_iff.mp e
theorem Pls.rw (h : Pls K H B r dx Z x) : x.rw = [] := by
  have e : x.pu.rw = [] := by rw [h.xp]; rfl
  exact List.map_eq_nil_iff.mp e
theorem Pls.fog (h : Pls K H B r dx Z x) : x.fog = [] := by
  have e : x.pu.fog = [] := by rw [h.xp]; rfl
  exact e
theorem Pls.I (h : Pls K H B r dx Z x) : RInv Z.ts x.pu := by rw [h.ts, h.xp]; exact RInv.new (by decide)
theorem Pls.ndq (h : Pls K H B r dx Z x) : (x.qu.map (·.1)).Nodup := by
  rw [← drop1_keys]
  exact h.I.ndQ (by rw [h.ts]; decide)
theorem Pls.qu (h : Pls K H B r dx Z x) {t : Str} (ht : t ∈ Z.ts) : ∃ a q, look x.qu t = some (a, q) ∧ q.length ≤ 200 ∧ ∀ m ∈ q, (look x.ms m).isSome = true := by
  obtain ⟨q, hq⟩ := h.I.q ht
  obtain ⟨a, ha⟩ := look_un (cs := x.qu) (n := t) (v := q) (by rw [← pu_qu]; exact hq)
  obtain ⟨_, lq, hk⟩ := h.I.ql hq
  refine ⟨a, q, ha, by omega, fun m hm => ?_⟩
  obtain ⟨mm, e, _⟩ := hk m hm
  obtain ⟨b, hb⟩ := look_un (cs := x.ms) (n := m) (v := mm) (by rw [← pu_ms]; exact e)
  rw [hb]
  rfl
theorem Pls.qu2 (h : Pls K H B r dx Z x) : ∀ t ∈ Z.ts, ∃ a q, look x.qu t = some (a, q) := fun t ht => by
  obtain ⟨a, q, e, _⟩ := h.qu ht
  exact ⟨a, q, e⟩
theorem no_z : ("z" : Str) ∉ pqr := by decide
end
/-- the lambda lets an error of the relay out -/
def LamR (K : PySem.W.Frag) (X : Cx) (e : Expr) : Prop := match e with
  | .Lambda params body scope _ => ∃ t : XK → TE, LamOk X 6 ⟨params, body, scope, t⟩ ∧ ∀ (E : XK) (σ : L2.St) (H : Hp) (Q : VK), Pln K σ H → (∀ c, c = aRE K ∨ c = aUE K → ∀ H', Le (T K) H H' → E (.ref c) none H') → t E σ H Q
  | _ => False
theorem mkr_bad {H1 : Hp} {a b : Addr} {ts : List Str} {L : List LkA} {h : Int} {Q : VK} {E : XK} (hT : Tabs (T K) H1) (ha : SqL K H1 a (ts.map V.str)) (hb : SqL K H1 b (L.map rf)) (hl : ∀ x ∈ L, H1 x.1 = some (.tup [.str x.2.1, .str x.2.2])) (lt : ts.length ≤ 60) (ll : L.length ≤ 1000)
    (ok : ∀ t ∈ ts, (PyData.str t).canLay0 = true) (okl : ∀ x ∈ L, (PyData.str x.2.1).canLay0 = true ∧ (PyData.str x.2.2).canLay0 = true) (hbad : ¬ goodRel ts (L.map (·.2)) h) (hE : ∀ H', Le (T K) H1 H' → E (.ref (aRE K)) none H') :
    ∀ x dx, H1 x = none → H1 dx = none → dx ≠ x → spInit K (.ref x :: ([.ref a, .ref b, .int h] ++ [])) (upd (upd H1 dx (.own x)) x (.ins (aRl K) dx [])) Q E := fun x dx hx hdx hne => by
  have L1 := (Le.refl hT).new (o := .own x) hdx
  have hx1 : upd H1 dx (.own x) x = none := (upd_ne (Ne.symm hne)).trans hx
  exact ⟨x, a, b, dx, ts, L, h, H1, rfl, upd_same, hx, L1.new hx1, ha, hb, hl, lt, ll, ok, okl, fun _ => hE, fun z => absurd z hbad⟩
theorem lam0 (C : Ctx K mg base) : LamR K (XQ P w K mg base f cd A outer s H0 E) (lamE 0) := by
  obtain ⟨fR, fdR, FR, bR, mkR, mgR⟩ := ok_init (P := P) (w := w) C
  refine ⟨fun E => _, ⟨lamS_by (sc := defScope s_l_plain) (by rfl), fun _ _ _ _ _ => rfl, fun A2 outer2 s2 H2 E2 f2 c2 hr2 => pe_make mkR FR (hr2.mono (by decide)) (by rfl) mgR bR .nil passLm (pa_cons (pe_lst pa_nil) (pa_cons (pe_lst pa_nil) (pa_cons pe_int pa_nil)))⟩, fun E σ H Q hP hE => ?_⟩
  obtain ⟨B, r, dx, Z, x, h0, S⟩ := hP
  have R := S.R
  have hT := R.tab
  refine ⟨by show 0 ≤ sizeLine; decide, fun a ha => ?_⟩
  have U := (Le.refl hT).new (o := .lst (([] : List Str).map V.str)) ha
  have ea : upd H a (.lst (([] : List Str).map V.str)) a = some (.lst (([] : List Str).map V.str)) := upd_same
  generalize hG : upd H a (.lst (([] : List Str).map V.str)) = G1 at U ea
  have hG : upd H a (.lst []) = G1 := hG
  rw [hG]
  refine ⟨by show 0 ≤ sizeLine; decide, fun b hb => ?_⟩
  have U2 := U.new (o := .lst []) hb
  have ea2 := (upd_ne (o := .lst []) (ne_of_none ea hb)).trans ea
  intro y dy hy hdy hne
  exact mkr_bad (ts := []) (L := []) U2.tab (SqL.of ea2) (SqL.of upd_same) (fun z hz => by cases hz) (by decide) (by decide) (by decide +kernel) (fun z hz => by cases hz) (fun z => z.1 rfl) (fun H' L => hE _ (.inl rfl) _ (U2.trans L)) y dy hy hdy hne
theorem lam1 (C : Ctx K mg base) : LamR K (XQ P w K mg base f cd A outer s H0 E) (lamE 1) := by
  obtain ⟨fR, fdR, FR, bR, mkR, mgR⟩ := ok_init (P := P) (w := w) C
  refine ⟨fun E => _, ⟨lamS_by (sc := defScope s_l_plain) (by rfl), fun _ _ _ _ _ => rfl, fun A2 outer2 s2 H2 E2 f2 c2 hr2 => pe_make mkR FR (hr2.mono (by decide)) (by rfl) mgR bR .nil passLm (pa_cons (pe_lst (pa_cons pe_str (pa_cons pe_str pa_nil))) (pa_cons (pe_lst pa_nil) (pa_cons pe_int pa_nil)))⟩, fun E σ H Q hP hE => ?_⟩
  obtain ⟨B, r, dx, Z, x, h0, S⟩ := hP
  have R := S.R
  have hT := R.tab
  refine ⟨by show 2 ≤ sizeLine; decide, fun a ha => ?_⟩
  have U := (Le.refl hT).new (o := .lst ((["p", "p"] : List Str).map V.str)) ha
  have ea : upd H a (.lst ((["p", "p"] : List Str).map V.str)) a = some (.lst ((["p", "p"] : List Str).map V.str)) := upd_same
  generalize hG : upd H a (.lst ((["p", "p"] : List Str).map V.str)) = G1 at U ea
  have hG : upd H a (.lst [.str "p", .str "p"]) = G1 := hG
  rw [hG]
  refine ⟨by show 0 ≤ sizeLine; decide, fun b hb => ?_⟩
  have U2 := U.new (o := .lst []) hb
  have ea2 := (upd_ne (o := .lst []) (ne_of_none ea hb)).trans ea
  intro y dy hy hdy hne
  exact mkr_bad (ts := ["p", "p"]) (L := []) U2.tab (SqL.of ea2) (SqL.of upd_same) (fun z hz => by cases hz) (by decide) (by decide) (by decide +kernel) (fun z hz => by cases hz) (fun z => absurd z.2.1 (by decide)) (fun H' L => hE _ (.inl rfl) _ (U2.trans L)) y dy hy hdy hne
theorem lam2 (C : Ctx K mg base) : LamR K (XQ P w K mg base f cd A outer s H0 E) (lamE 2) := by
  obtain ⟨fR, fdR, FR, bR, mkR, mgR⟩ := ok_init (P := P) (w := w) C
  refine ⟨fun E => _, ⟨lamS_by (sc := defScope s_l_plain) (by rfl), fun _ _ _ _ _ => rfl, fun A2 outer2 s2 H2 E2 f2 c2 hr2 => pe_make mkR FR (hr2.mono (by decide)) (by rfl) mgR bR .nil passLm (pa_cons (pe_lst (pa_cons pe_str pa_nil)) (pa_cons (pe_lst (pa_cons (pe_tup (pa_cons pe_str (pa_cons pe_str pa_nil))) pa_nil)) (pa_cons pe_int pa_nil)))⟩, fun E σ H Q hP hE => ?_⟩
  obtain ⟨B, r, dx, Z, x, h0, S⟩ := hP
  have R := S.R
  have hT := R.tab
  refine ⟨by show 1 ≤ sizeLine; decide, fun a ha => ?_⟩
  have U := (Le.refl hT).new (o := .lst ((["p"] : List Str).map V.str)) ha
  have ea : upd H a (.lst ((["p"] : List Str).map V.str)) a = some (.lst ((["p"] : List Str).map V.str)) := upd_same
  generalize hG : upd H a (.lst ((["p"] : List Str).map V.str)) = G1 at U ea
  have hG : upd H a (.lst [.str "p"]) = G1 := hG
  rw [hG]
  refine ⟨by show 2 ≤ sizeLine; decide, fun u hu => ⟨by show 1 ≤ sizeLine; decide, fun b hb => ?_⟩⟩
  have U1 := U.new (o := .tup [.str "p", .str "z"]) hu
  have ea1 := (upd_ne (o := .tup [.str "p", .str "z"]) (ne_of_none ea hu)).trans ea
  have eu1 : upd G1 u (.tup [.str "p", .str "z"]) u = some (.tup [.str "p", .str "z"]) := upd_same
  have U2 := U1.new (o := .lst [.ref u]) hb
  have ea2 := (upd_ne (o := .lst [.ref u]) (ne_of_none ea1 hb)).trans ea1
  have eu2 := (upd_ne (o := .lst [.ref u]) (ne_of_none eu1 hb)).trans eu1
  intro y dy hy hdy hne
  refine mkr_bad (ts := ["p"]) (L := [(u, "p", "z")]) U2.tab (SqL.of ea2) (SqL.of upd_same) (fun z hz => ?_) (by decide) (by show 1 ≤ 1000; decide) (by decide +kernel) (fun z hz => ?_) (fun z => absurd (z.2.2.2.2 ("p", "z") List.mem_cons_self).2.1 (by decide)) (fun H' L => hE _ (.inl rfl) _ (U2.trans L)) y dy hy hdy hne
  · rw [List.mem_singleton.mp hz]; exact eu2
  · rw [List.mem_singleton.mp hz]; exact ⟨(by decide +kernel : (PyData.str "p").canLay0 = true), (by decide +kernel : (PyData.str "z").canLay0 = true)⟩
theorem lam3 (C : Ctx K mg base) : LamR K (XQ P w K mg base f cd A outer s H0 E) (lamE 3) := by
  obtain ⟨fR, fdR, FR, bR, mkR, mgR⟩ := ok_init (P := P) (w := w) C
  refine ⟨fun E => _, ⟨lamS_by (sc := defScope s_l_plain) (by rfl), fun _ _ _ _ _ => rfl, fun A2 outer2 s2 H2 E2 f2 c2 hr2 => pe_make mkR FR (hr2.mono (by decide)) (by rfl) mgR bR .nil passLm (pa_cons (pe_lst (pa_cons pe_str pa_nil)) (pa_cons (pe_lst (pa_cons (pe_tup (pa_cons pe_str (pa_cons pe_str pa_nil))) pa_nil)) (pa_cons pe_int pa_nil)))⟩, fun E σ H Q hP hE => ?_⟩
  obtain ⟨B, r, dx, Z, x, h0, S⟩ := hP
  have R := S.R
  have hT := R.tab
  refine ⟨by show 1 ≤ sizeLine; decide, fun a ha => ?_⟩
  have U := (Le.refl hT).new (o := .lst ((["p"] : List Str).map V.str)) ha
  have ea : upd H a (.lst ((["p"] : List Str).map V.str)) a = some (.lst ((["p"] : List Str).map V.str)) := upd_same
  generalize hG : upd H a (.lst ((["p"] : List Str).map V.str)) = G1 at U ea
  have hG : upd H a (.lst [.str "p"]) = G1 := hG
  rw [hG]
  refine ⟨by show 2 ≤ sizeLine; decide, fun u hu => ⟨by show 1 ≤ sizeLine; decide, fun b hb => ?_⟩⟩
  have U1 := U.new (o := .tup [.str "p", .str "p"]) hu
  have ea1 := (upd_ne (o := .tup [.str "p", .str "p"]) (ne_of_none ea hu)).trans ea
  have eu1 : upd G1 u (.tup [.str "p", .str "p"]) u = some (.tup [.str "p", .str "p"]) := upd_same
  have U2 := U1.new (o := .lst [.ref u]) hb
  have ea2 := (upd_ne (o := .lst [.ref u]) (ne_of_none ea1 hb)).trans ea1
  have eu2 := (upd_ne (o := .lst [.ref u]) (ne_of_none eu1 hb)).trans eu1
  intro y dy hy hdy hne
  refine mkr_bad (ts := ["p"]) (L := [(u, "p", "p")]) U2.tab (SqL.of ea2) (SqL.of upd_same) (fun z hz => ?_) (by decide) (by show 1 ≤ 1000; decide) (by decide +kernel) (fun z hz => ?_) (fun z => (z.2.2.2.2 ("p", "p") List.mem_cons_self).2.2 rfl) (fun H' L => hE _ (.inl rfl) _ (U2.trans L)) y dy hy hdy hne
  · rw [List.mem_singleton.mp hz]; exact eu2
  · rw [List.mem_singleton.mp hz]; exact ⟨(by decide +kernel : (PyData.str "p").canLay0 = true), (by decide +kernel : (PyData.str "p").canLay0 = true)⟩
theorem lam4 (C : Ctx K mg base) : LamR K (XQ P w K mg base f cd A outer s H0 E) (lamE 4) := by
  obtain ⟨fR, fdR, FR, bR, mkR, mgR⟩ := ok_init (P := P) (w := w) C
  refine ⟨fun E => _, ⟨lamS_by (sc := defScope s_l_plain) (by rfl), fun _ _ _ _ _ => rfl, fun A2 outer2 s2 H2 E2 f2 c2 hr2 => pe_make mkR FR (hr2.mono (by decide)) (by rfl) mgR bR .nil passLm (pa_cons (pe_lst (pa_cons pe_str pa_nil)) (pa_cons (pe_lst pa_nil) (pa_cons pe_int pa_nil)))⟩, fun E σ H Q hP hE => ?_⟩
  obtain ⟨B, r, dx, Z, x, h0, S⟩ := hP
  have R := S.R
  have hT := R.tab
  refine ⟨by show 1 ≤ sizeLine; decide, fun a ha => ?_⟩
  have U := (Le.refl hT).new (o := .lst ((["p"] : List Str).map V.str)) ha
  have ea : upd H a (.lst ((["p"] : List Str).map V.str)) a = some (.lst ((["p"] : List Str).map V.str)) := upd_same
  generalize hG : upd H a (.lst ((["p"] : List Str).map V.str)) = G1 at U ea
  have hG : upd H a (.lst [.str "p"]) = G1 := hG
  rw [hG]
  refine ⟨by show 0 ≤ sizeLine; decide, fun b hb => ?_⟩
  have U2 := U.new (o := .lst []) hb
  have ea2 := (upd_ne (o := .lst []) (ne_of_none ea hb)).trans ea
  intro y dy hy hdy hne
  exact mkr_bad (ts := ["p"]) (L := []) U2.tab (SqL.of ea2) (SqL.of upd_same) (fun z hz => by cases hz) (by decide) (by decide) (by decide +kernel) (fun z hz => by cases hz) (fun z => absurd z.2.2.1 (by decide)) (fun H' L => hE _ (.inl rfl) _ (U2.trans L)) y dy hy hdy hne
theorem lam5 (C : Ctx K mg base) : LamR K (XQ P w K mg base f cd A outer s H0 E) (lamE 5) := by
  obtain ⟨fR, fdR, FR, bR, mkR, mgR⟩ := ok_init (P := P) (w := w) C
  refine ⟨fun E => _, ⟨lamS_by (sc := defScope s_l_plain) (by rfl), fun _ _ _ _ _ => rfl, fun A2 outer2 s2 H2 E2 f2 c2 hr2 => pe_make mkR FR (hr2.mono (by decide)) (by rfl) mgR bR .nil passLm (pa_cons (pe_lst (pa_cons pe_str pa_nil)) (pa_cons (pe_lst pa_nil) (pa_cons pe_int pa_nil)))⟩, fun E σ H Q hP hE => ?_⟩
  obtain ⟨B, r, dx, Z, x, h0, S⟩ := hP
  have R := S.R
  have hT := R.tab
  refine ⟨by show 1 ≤ sizeLine; decide, fun a ha => ?_⟩
  have U := (Le.refl hT).new (o := .lst ((["p"] : List Str).map V.str)) ha
  have ea : upd H a (.lst ((["p"] : List Str).map V.str)) a = some (.lst ((["p"] : List Str).map V.str)) := upd_same
  generalize hG : upd H a (.lst ((["p"] : List Str).map V.str)) = G1 at U ea
  have hG : upd H a (.lst [.str "p"]) = G1 := hG
  rw [hG]
  refine ⟨by show 0 ≤ sizeLine; decide, fun b hb => ?_⟩
  have U2 := U.new (o := .lst []) hb
  have ea2 := (upd_ne (o := .lst []) (ne_of_none ea hb)).trans ea
  intro y dy hy hdy hne
  exact mkr_bad (ts := ["p"]) (L := []) U2.tab (SqL.of ea2) (SqL.of upd_same) (fun z hz => by cases hz) (by decide) (by decide) (by decide +kernel) (fun z hz => by cases hz) (fun z => absurd z.2.2.2.1 (by decide)) (fun H' L => hE _ (.inl rfl) _ (U2.trans L)) y dy hy hdy hne
theorem lam6 (C : Ctx K mg base) : LamR K (XQ P w K mg base f cd A outer s H0 E) (lamE 6) := by
  obtain ⟨fM, fdM, FM, bM, mM, cM⟩ := ok_near (P := P) (w := w) C
  refine ⟨fun E => _, ⟨lamS_by (sc := defScope s_l_plain) (by rfl), fun _ _ _ _ _ => rfl, fun A2 outer2 s2 H2 E2 f2 c2 hr2 => pe_meth (pv 0) cM mM FM (hr2.mono (by decide)) bM .nil passLm (pa_cons pe_str pa_nil)⟩, fun E σ H Q hP hE => ?_⟩
  obtain ⟨B, r, dx, Z, x, h0, S⟩ := hP
  have R := S.R
  exact ⟨_, h0, r, dx, _, rfl, R.atR, rfl, B, r, dx, Z, x, "z", rfl, R, fun hm => absurd (S.ts ▸ hm) no_z, fun _ => hE _ (.inl rfl)⟩
theorem lam7 (C : Ctx K mg base) : LamR K (XQ P w K mg base f cd A outer s H0 E) (lamE 7) := by
  obtain ⟨fM, fdM, FM, bM, mM, cM⟩ := ok_route (P := P) (w := w) C
  refine ⟨fun E => _, ⟨lamS_by (sc := defScope s_l_plain) (by rfl), fun _ _ _ _ _ => rfl, fun A2 outer2 s2 H2 E2 f2 c2 hr2 => pe_meth (pv 0) cM mM FM (hr2.mono (by decide)) bM .nil passLm (pa_cons pe_str (pa_cons pe_str pa_nil))⟩, fun E σ H Q hP hE => ?_⟩
  obtain ⟨B, r, dx, Z, x, h0, S⟩ := hP
  have R := S.R
  exact ⟨_, h0, r, dx, _, rfl, R.atR, rfl, B, r, dx, Z, x, "z", "p", rfl, R, fun hm => absurd (S.ts ▸ hm) no_z, fun _ => hE _ (.inl rfl)⟩
theorem lam8 (C : Ctx K mg base) : LamR K (XQ P w K mg base f cd A outer s H0 E) (lamE 8) := by
  obtain ⟨fM, fdM, FM, _, ⟨ds, vds, bM⟩, mM, cM⟩ := ok_send (P := P) (w := w) C
  refine ⟨fun E => _, ⟨lamS_by (sc := defScope s_l_plain) (by rfl), fun _ _ _ _ _ => rfl, fun A2 outer2 s2 H2 E2 f2 c2 hr2 => pe_meth (pv 0) cM mM FM (hr2.mono (by decide)) bM vds passLm (pa_cons pe_str (pa_cons pe_str (pa_cons pe_str (pa_cons pe_int pa_nil))))⟩, fun E σ H Q hP hE => ?_⟩
  obtain ⟨B, r, dx, Z, x, h0, S⟩ := hP
  have R := S.R
  exact ⟨_, h0, r, dx, _, rfl, R.atR, rfl, B, r, dx, Z, x, "m", "p", "p", 1, false, rfl, R, by rw [S.rw]; decide, S.ndq, fun hm => S.qu hm, fun hg => absurd hg (fun z => z.2.2.2.2.2.2.2 rfl), fun _ => hE⟩
theorem lam9 (C : Ctx K mg base) : LamR K (XQ P w K mg base f cd A outer s H0 E) (lamE 9) := by
  obtain ⟨fM, fdM, FM, _, ⟨ds, vds, bM⟩, mM, cM⟩ := ok_send (P := P) (w := w) C
  refine ⟨fun E => _, ⟨lamS_by (sc := defScope s_l_plain) (by rfl), fun _ _ _ _ _ => rfl, fun A2 outer2 s2 H2 E2 f2 c2 hr2 => pe_meth (pv 0) cM mM FM (hr2.mono (by decide)) bM vds passLm (pa_cons pe_str (pa_cons pe_str (pa_cons pe_str (pa_cons pe_int pa_nil))))⟩, fun E σ H Q hP hE => ?_⟩
  obtain ⟨B, r, dx, Z, x, h0, S⟩ := hP
  have R := S.R
  exact ⟨_, h0, r, dx, _, rfl, R.atR, rfl, B, r, dx, Z, x, "", "p", "q", 1, false, rfl, R, by rw [S.rw]; decide, S.ndq, fun hm => S.qu hm, fun hg => absurd hg (fun z => z.2.2.2.1 rfl), fun _ => hE⟩
theorem lam10 (C : Ctx K mg base) : LamR K (XQ P w K mg base f cd A outer s H0 E) (lamE 10) := by
  obtain ⟨fM, fdM, FM, _, ⟨ds, vds, bM⟩, mM, cM⟩ := ok_send (P := P) (w := w) C
  refine ⟨fun E => _, ⟨lamS_by (sc := defScope s_l_plain) (by rfl), fun _ _ _ _ _ => rfl, fun A2 outer2 s2 H2 E2 f2 c2 hr2 => pe_meth (pv 0) cM mM FM (hr2.mono (by decide)) bM vds passLm (pa_cons pe_str (pa_cons pe_str (pa_cons pe_str (pa_cons pe_int pa_nil))))⟩, fun E σ H Q hP hE => ?_⟩
  obtain ⟨B, r, dx, Z, x, h0, S⟩ := hP
  have R := S.R
  exact ⟨_, h0, r, dx, _, rfl, R.atR, rfl, B, r, dx, Z, x, "m", "p", "q", 51, false, rfl, R, by rw [S.rw]; decide, S.ndq, fun hm => S.qu hm, fun hg => absurd hg (fun z => absurd z.2.2.2.2.2.1 (by decide)), fun _ => hE⟩
theorem lam11 (C : Ctx K mg base) : LamR K (XQ P w K mg base f cd A outer s H0 E) (lamE 11) := by
  obtain ⟨fM, fdM, FM, bM, mM, cM⟩ := ok_fog (P := P) (w := w) C
  refine ⟨fun E => _, ⟨lamS_by (sc := defScope s_l_plain) (by rfl), fun _ _ _ _ _ => rfl, fun A2 outer2 s2 H2 E2 f2 c2 hr2 => pe_meth (pv 0) cM mM FM (hr2.mono (by decide)) bM .nil passLm (pa_cons pe_str (pa_cons pe_int pa_nil))⟩, fun E σ H Q hP hE => ?_⟩
  obtain ⟨B, r, dx, Z, x, h0, S⟩ := hP
  have R := S.R
  exact ⟨_, h0, r, dx, _, rfl, R.atR, rfl, B, r, dx, Z, x, "p", 601, rfl, R, by rw [S.fog]; decide, fun _ h1 h2 => absurd h2 (by decide), fun _ => hE _ (.inl rfl)⟩
theorem lam12 (C : Ctx K mg base) : LamR K (XQ P w K mg base f cd A outer s H0 E) (lamE 12) := by
  obtain ⟨fM, fdM, FM, bM, mM, cM⟩ := ok_fog (P := P) (w := w) C
  refine ⟨fun E => _, ⟨lamS_by (sc := defScope s_l_plain) (by rfl), fun _ _ _ _ _ => rfl, fun A2 outer2 s2 H2 E2 f2 c2 hr2 => pe_meth (pv 0) cM mM FM (hr2.mono (by decide)) bM .nil passLm (pa_cons pe_str (pa_cons (pe_un un_neg pe_int) pa_nil))⟩, fun E σ H Q hP hE => ?_⟩
  obtain ⟨B, r, dx, Z, x, h0, S⟩ := hP
  have R := S.R
  exact ⟨_, h0, r, dx, _, rfl, R.atR, rfl, _, rfl, B, r, dx, Z, x, "p", (-1), rfl, R, by rw [S.fog]; decide, fun _ h1 h2 => absurd h1 (by decide), fun _ => hE _ (.inl rfl)⟩
theorem lam13 (C : Ctx K mg base) : LamR K (XQ P w K mg base f cd A outer s H0 E) (lamE 13) := by
  obtain ⟨fM, fdM, FM, bM, mM, cM⟩ := ok_where (P := P) (w := w) C
  refine ⟨fun E => _, ⟨lamS_by (sc := defScope s_l_plain) (by rfl), fun _ _ _ _ _ => rfl, fun A2 outer2 s2 H2 E2 f2 c2 hr2 => pe_meth (pv 0) cM mM FM (hr2.mono (by decide)) bM .nil passLm (pa_cons pe_str pa_nil)⟩, fun E σ H Q hP hE => ?_⟩
  obtain ⟨B, r, dx, Z, x, h0, S⟩ := hP
  have R := S.R
  exact ⟨_, h0, r, dx, _, rfl, R.atR, rfl, B, r, dx, Z, x, "z", rfl, R, by rw [S.bz]; decide, by rw [S.bz]; exact List.nodup_nil, S.qu2, fun _ => hE _ (.inl rfl), fun v hv => absurd (hv.symm.trans (S.ms "z")) (by simp)⟩
theorem lam14 (C : Ctx K mg base) : LamR K (XQ P w K mg base f cd A outer s H0 E) (lamE 14) := by
  obtain ⟨fM, fdM, FM, bM, mM, cM⟩ := ok_took (P := P) (w := w) C
  refine ⟨fun E => _, ⟨lamS_by (sc := defScope s_l_plain) (by rfl), fun _ _ _ _ _ => rfl, fun A2 outer2 s2 H2 E2 f2 c2 hr2 => pe_meth (pv 0) cM mM FM (hr2.mono (by decide)) bM .nil passLm (pa_cons pe_str pa_nil)⟩, fun E σ H Q hP hE => ?_⟩
  obtain ⟨B, r, dx, Z, x, h0, S⟩ := hP
  have R := S.R
  exact ⟨_, h0, r, dx, _, rfl, R.atR, rfl, B, r, dx, Z, x, "z", rfl, R, by rw [S.bz]; decide, by rw [S.bz]; exact List.nodup_nil, by rw [S.rw]; decide, S.qu2, fun _ => hE _ (.inl rfl), fun v hv => absurd (hv.symm.trans (S.ms "z")) (by simp)⟩
theorem lam15 (C : Ctx K mg base) : LamR K (XQ P w K mg base f cd A outer s H0 E) (lamE 15) := by
  obtain ⟨fM, fdM, FM, bM, mM, cM⟩ := ok_least (P := P) (w := w) C
  refine ⟨fun E => _, ⟨lamS_by (sc := defScope s_l_plain) (by rfl), fun _ _ _ _ _ => rfl, fun A2 outer2 s2 H2 E2 f2 c2 hr2 => pe_meth (pv 0) cM mM FM (hr2.mono (by decide)) bM .nil passLm (pa_cons pe_str pa_nil)⟩, fun E σ H Q hP hE => ?_⟩
  obtain ⟨B, r, dx, Z, x, h0, S⟩ := hP
  have R := S.R
  exact ⟨_, h0, r, dx, _, rfl, R.atR, rfl, B, r, dx, Z, x, "z", rfl, R, by rw [S.zh]; decide, by rw [S.zh]; decide, fun _ => hE _ (.inl rfl), fun a m hv => absurd (hv.symm.trans (S.ms "z")) (by simp)⟩
end
end K6

-- text K6Pb
set_option maxRecDepth 100000
set_option maxHeartbeats 4000000
namespace K6
open PySem PySem.Spec PyProof.Rows L2 LamX GX
section
variable {P : Program} {w : World} {K : PySem.W.Frag} {mg : Str → Option Value} {base : Heap}
variable {f : Addr} {cd : Value} {A : Around} {outer : List Env} {s : Shared} {H0 : Hp} {E : XK}
/-! ### the law's plain part, walked -/
abbrev cdQ (K : PySem.W.Frag) : Value := .ref (He.cT K ("_law_plain", none)).1
def tLams (X : Cx) (T : List (Addr × Str)) : List LamD → TA
  | [] => tNil
  | d :: r => tCons (tLamV X T d.params d.body d.scope) (tLams X T r)
theorem lams_run {X : Cx} {T : List (Addr × Str)} : ∀ {ds : List LamD} {σ : L2.St} {H : Hp} {Q : List V → Hp → Prop}, Tabs T H →
    (∀ (fs : List (Addr × Addr)) (H' : Hp), Le T H H' → fs.length = ds.length → (∀ (i : Nat) (d : LamD) (p : Addr × Addr), ds[i]? = some d → fs[i]? = some p → H' p.1 = some (lamAt X d p.1 p.2) ∧ H' p.2 = some (CodeO p.2 (X.env.qual ++ "<lambda>"))) → Q (fs.map fun p => V.ref p.1) H') → tLams X T ds σ H Q
  | [], σ, H, Q, hT, h => h [] H (Le.refl hT) rfl fun i d p hd => by simp at hd
  | d :: r, σ, H, Q, hT, h => ⟨hT, fun f c' H1 L1 hf hl hc => lams_run L1.tab fun fs H2 L2 hlen hall => by
      refine h ((f, c') :: fs) H2 (L1.trans L2) (by rw [List.length_cons, List.length_cons, hlen]) fun i d2 p hd hp => ?_
      cases i with
      | zero =>
        cases Option.some.inj hd
        cases Option.some.inj hp
        exact ⟨L2.ext _ _ hl (fun ps z => by cases z), L2.ext _ _ hc (fun ps z => by cases z)⟩
      | succ i => exact hall i d2 p hd hp⟩
structure LamP (K : PySem.W.Frag) (X : Cx) (d : LamD) : Prop where
  ok : LamOk X 6 d
  r : ∀ (E : XK) (σ : L2.St) (H : Hp) (Q : VK), Pln K σ H → (∀ c, c = aRE K ∨ c = aUE K → ∀ H', Le (T K) H H' → E (.ref c) none H') → d.t E σ H Q
def hdefOf (X : Cx) (e : Expr) : Prop := match e with
  | .Lambda params _ _ _ => defaultsOf params X.env = ([], [])
  | _ => False
theorem lamP_of {X : Cx} {e : Expr} {c P : Addr} (h : LamR K X e) (hd : hdefOf X e) (TB : TabB X.base X.mg c P) (hcode : X.env.code = .ref c) (hmT : (P, X.env.qual ++ "<lambda>") ∈ T K) (hu : ∀ p ∈ T K, p.1 = P → p.2 = X.env.qual ++ "<lambda>") :
    ∃ d : LamD, LamP K X d ∧ PE X e (tLamV X (T K) d.params d.body d.scope) := by
  unfold LamR at h
  unfold hdefOf at hd
  split at h
  · obtain ⟨t, h1, h2⟩ := h
    exact ⟨_, ⟨h1, h2⟩, pe_lam TB hcode hmT hu h1.s hd⟩
  · exact h.elim
def tMidA (t : TA) : TA := fun σ H Q => ∃ Mid : List V → Hp → Prop, t σ H Mid ∧ ∀ vs H', Mid vs H' → Q vs H'
theorem pa_midA {X : Cx} {es : List Expr} {t : TA} (h : PA X es t) : PA X es (tMidA t) := by
  refine ⟨fun pos pins s σ H Q I ⟨Mid, hm, hq⟩ => thn (h.run pos pins s σ H Mid I hm) fun v s1 ⟨x, H1, I1, r1, q1⟩ => ⟨x, H1, I1, r1, hq x H1 q1⟩⟩
theorem pa_lam0 {X : Cx} {T : List (Addr × Str)} : PA X [] (tLams X T []) := pa_nil
theorem pa_lam {X : Cx} {T : List (Addr × Str)} {e : Expr} {es : List Expr} {d : LamD} {r : List LamD} (h : PE X e (tLamV X T d.params d.body d.scope)) (hr : PA X es (tLams X T r)) (hs : starEach (e :: es) X.env = (false, eval e X.env) :: starEach es X.env := by rfl) : PA X (e :: es) (tLams X T (d :: r)) := pa_cons h hr hs
def P0 (K : PySem.W.Frag) : L2.St → Hp → Prop := fun σ H => σ.length = 5 ∧ Tabs (T K) H
def P3 (K : PySem.W.Frag) : L2.St → Hp → Prop := fun σ H => σ.length = 5 ∧ Pln K σ H
theorem ex5 {σ : L2.St} (h : σ.length = 5) : ∃ a0 a1 a2 a3 a4, σ = a0 :: a1 :: a2 :: a3 :: a4 :: [] := by
  obtain ⟨a0, t0, rfl, h0⟩ := ex1 h
  obtain ⟨a1, t1, rfl, h1⟩ := ex1 h0
  obtain ⟨a2, t2, rfl, h2⟩ := ex1 h1
  obtain ⟨a3, t3, rfl, h3⟩ := ex1 h2
  obtain ⟨a4, t4, rfl, h4⟩ := ex1 h3
  have := List.length_eq_zero_iff.mp h4
  subst this
  exact ⟨a0, a1, a2, a3, a4, rfl⟩
theorem pl0 (C : Ctx K mg base) (hr : Room 8 (XQ P w K mg base f cd A outer s H0 E).A) : Step (XQ P w K mg base f cd A outer s H0 E) (pl 0) (P0 K) (P3 K) := by
  have nn := sc_l_plain.nd
  obtain ⟨fR, fdR, FR, bR, mkR, mgR⟩ := ok_init (P := P) (w := w) C
  refine ⟨_, ps_set (i := 0) nn rfl (by first | exact Or.inl rfl | exact Or.inr rfl) (pe_make mkR FR (hr.mono (by decide)) (by rfl) mgR bR .nil passA (pa_cons (pe_lst (pa_cons pe_str (pa_cons pe_str (pa_cons pe_str pa_nil)))) (pa_cons (pe_lst (pa_cons (pe_tup (pa_cons pe_str (pa_cons pe_str pa_nil))) (pa_cons (pe_tup (pa_cons pe_str (pa_cons pe_str pa_nil))) pa_nil))) (pa_cons pe_int pa_nil)))), fun D σ H hM hq => ?_⟩
  obtain ⟨hl, hT⟩ := hM
  refine ⟨by show 3 ≤ sizeLine; decide, fun a ha => ?_⟩
  have U0 := (Le.refl hT).new (o := .lst (pqr.map V.str)) ha
  have ea : upd H a (.lst (pqr.map V.str)) a = some (.lst (pqr.map V.str)) := upd_same
  generalize hG : upd H a (.lst (pqr.map V.str)) = G0 at U0 ea
  have hG : upd H a (.lst [.str "p", .str "q", .str "r"]) = G0 := hG
  rw [hG]
  refine ⟨by show 2 ≤ sizeLine; decide, fun t ht => ⟨by show 2 ≤ sizeLine; decide, fun u hu => ⟨by show 2 ≤ sizeLine; decide, fun b hb => ?_⟩⟩⟩
  have U1 := U0.new (o := .tup [.str "p", .str "q"]) ht
  have ea1 := (upd_ne (o := .tup [.str "p", .str "q"]) (ne_of_none ea ht)).trans ea
  have et1 : upd G0 t (.tup [.str "p", .str "q"]) t = some (.tup [.str "p", .str "q"]) := upd_same
  generalize upd G0 t (.tup [.str "p", .str "q"]) = G1 at U1 ea1 et1 hu hb ⊢
  have U2 := U1.new (o := .tup [.str "q", .str "r"]) hu
  have ea2 := (upd_ne (o := .tup [.str "q", .str "r"]) (ne_of_none ea1 hu)).trans ea1
  have et2 := (upd_ne (o := .tup [.str "q", .str "r"]) (ne_of_none et1 hu)).trans et1
  have eu2 : upd G1 u (.tup [.str "q", .str "r"]) u = some (.tup [.str "q", .str "r"]) := upd_same
  generalize upd G1 u (.tup [.str "q", .str "r"]) = G2 at U2 ea2 et2 eu2 hb ⊢
  have U3 := U2.new (o := .lst [.ref t, .ref u]) hb
  have ea3 := (upd_ne (o := .lst [.ref t, .ref u]) (ne_of_none ea2 hb)).trans ea2
  have et3 := (upd_ne (o := .lst [.ref t, .ref u]) (ne_of_none et2 hb)).trans et2
  have eu3 := (upd_ne (o := .lst [.ref t, .ref u]) (ne_of_none eu2 hb)).trans eu2
  have eb3 : upd G2 b (.lst [.ref t, .ref u]) b = some (.lst [.ref t, .ref u]) := upd_same
  generalize upd G2 b (.lst [.ref t, .ref u]) = G3 at U3 ea3 et3 eu3 eb3 ⊢
  intro y dy hy hdy hne
  have M1 := (Le.refl U3.tab).new (o := .own y) hdy
  have hy1 : upd G3 dy (.own y) y = none := (upd_ne (Ne.symm hne)).trans hy
  have good : goodRel pqr (([(t, "p", "q"), (u, "q", "r")] : List LkA).map (·.2)) 2 := ⟨by decide, by decide, by decide, by decide, by
    show ∀ l ∈ pqL, l.1 ∈ pqr ∧ l.2 ∈ pqr ∧ l.1 ≠ l.2
    decide⟩
  have okp : ∀ z ∈ pqr, (PyData.str z).canLay0 = true := by decide +kernel
  refine ⟨y, a, b, dy, pqr, [(t, "p", "q"), (u, "q", "r")], 2, G3, rfl, upd_same, hy, M1.new hy1, SqL.of ea3, SqL.of eb3, fun z hz => ?_, by decide, by show 2 ≤ 1000; decide, okp, fun z hz => ?_, fun z => absurd good z, fun _ H' B Z x LB R e1 e2 e3 e4 => ⟨rfl, hq _ _ ⟨by rw [List.length_set]; exact hl, B, y, dy, Z, x, at_self (by rw [hl]; decide), R, e1, e2, e3, e4⟩⟩⟩
  · simp only [List.mem_cons, List.not_mem_nil, or_false] at hz
    rcases hz with rfl | rfl
    · exact et3
    · exact eu3
  · simp only [List.mem_cons, List.not_mem_nil, or_false] at hz
    rcases hz with rfl | rfl
    · exact ⟨okp "p" (by decide), okp "q" (by decide)⟩
    · exact ⟨okp "q" (by decide), okp "r" (by decide)⟩
/-! the days of the plain relay -/
def itM : Nat → RS → RS
  | 0, x => x
  | n + 1, x => (itM n x).goMin pqr pqL 2
def xA : RS := (RS.new pqr).send "m" "p" "r" 3 false
def xB : RS := xA.send "n" "p" "q" 1 true
def xC : RS := itM 30 xB
theorem goodA : goodSend pqr (RS.new pqr).ms "m" "p" "r" 3 := by decide +kernel
theorem goodB : goodSend pqr xA.ms "n" "p" "q" 1 := by decide +kernel
theorem nd3 : pqr.Nodup := by decide
theorem IB : RInv pqr xB := ((RInv.new nd3).send nd3 false goodA).send nd3 true goodB
theorem Iit : ∀ n, RInv pqr (itM n xB)
  | 0 => IB
  | n + 1 => (Iit n).goMin nd3 (by decide)
theorem rwit : ∀ n, (itM n xB).rw.length ≤ 2 + n * 6
  | 0 => by decide +kernel
  | n + 1 => by
    have h := rwit n
    show ((itM n xB).goMin pqr pqL 2).rw.length ≤ _
    unfold RS.goMin
    show (pqr.foldl (RS.begin' pqr pqL 2) (pqr.foldl RS.goOn { itM n xB with mi := (itM n xB).mi + 1 })).rw.length ≤ _
    have h1 := fold_rw (f := RS.begin' pqr pqL 2) begin_rw pqr (pqr.foldl RS.goOn { itM n xB with mi := (itM n xB).mi + 1 })
    have h2 := fold_rw goOn_rw pqr { itM n xB with mi := (itM n xB).mi + 1 }
    have h3 : ({ itM n xB with mi := (itM n xB).mi + 1 } : RS).rw.length = (itM n xB).rw.length := rfl
    have h4 : pqr.length = 3 := rfl
    omega
theorem vN : whereP pqr xC "n" = some (("there" : Str), ("q" : Str)) ∧ minsOf xC.rw "given" "n" = [0] ∧ minsOf xC.rw "there" "n" = [3] ∧ (look xC.ms "n").isSome = true := by decide +kernel
theorem vM : whereP pqr xC "m" = some (("there" : Str), ("r" : Str)) ∧ minsOf xC.rw "given" "m" = [0] ∧ minsOf xC.rw "there" "m" = [15] ∧ look xC.ms "m" = some ⟨"p", "r", 3, false, true⟩ ∧ xC.rt pqr pqL "p" "r" = some (["p", "q", "r"] : List Str) := by decide +kernel
def wts : List Str := ["given", "given", "sends", "there", "sends", "passed", "sends", "there"]
theorem vR : xC.rw.map (·.2.1) = wts := by decide +kernel
theorem lwts : (PyData.list (wts.map PyData.str)).canLay0 = true ∧ (PyData.list (wts.map PyData.str)).depth ≤ 1 := by decide +kernel
structure Plr (K : PySem.W.Frag) (H : Hp) (B : Hp) (r dx : Addr) (Z : Sta) (x : RA) (z : RS) : Prop where
  R : Rel K B H r dx Z x
  ts : Z.ts = pqr
  zl : Z.lp = pqL
  zh : Z.hold = 2
  xp : x.pu = z
def PX (K : PySem.W.Frag) (z : RS) : L2.St → Hp → Prop := fun σ H => ∃ B r dx Z x, σ.length = 5 ∧ At σ 0 (.ref r) ∧ Plr K H B r dx Z x z
section
variable {H B : Hp} {r dx : Addr} {Z : Sta} {x : RA} {z : RS}
theorem Plr.ndq (h : Plr K H B r dx Z x z) (I : RInv pqr z) : (x.qu.map (·.1)).Nodup := by
  rw [← drop1_keys]
  have e : drop1 x.qu = z.qu := congrArg RS.qu h.xp
  rw [e]
  exact I.ndQ nd3
theorem Plr.qu (h : Plr K H B r dx Z x z) (I : RInv pqr z) {t : Str} (ht : t ∈ Z.ts) : ∃ a q, look x.qu t = some (a, q) ∧ q.length ≤ 200 ∧ ∀ m ∈ q, (look x.ms m).isSome = true := by
  rw [h.ts] at ht
  have e1 : x.pu.qu = z.qu := congrArg RS.qu h.xp
  have e2 : x.pu.ms = z.ms := congrArg RS.ms h.xp
  obtain ⟨q, hq⟩ := I.q ht
  obtain ⟨a, ha⟩ := look_un (cs := x.qu) (n := t) (v := q) (by rw [← pu_qu, e1]; exact hq)
  obtain ⟨_, lq, hk⟩ := I.ql hq
  refine ⟨a, q, ha, by omega, fun m hm => ?_⟩
  obtain ⟨mm, e, _⟩ := hk m hm
  obtain ⟨b, hb⟩ := look_un (cs := x.ms) (n := m) (v := mm) (by rw [← pu_ms, e2]; exact e)
  rw [hb]
  rfl
theorem Plr.lrw (h : Plr K H B r dx Z x z) : x.rw.length = z.rw.length := by
  have e : x.rw.map (·.2) = z.rw := congrArg RS.rw h.xp
  rw [← e, List.length_map]
theorem Plr.bz (h : Plr K H B r dx Z x z) (I : RInv pqr z) : x.bz.length ≤ 200 ∧ (x.bz.map (·.1)).Nodup := by
  have e : drop1 x.bz = z.bz := congrArg RS.bz h.xp
  have h1 := I.bzl
  have h2 : (drop1 x.bz).length = x.bz.length := drop1_len _
  rw [e] at h2
  have h4 : pqr.length = 3 := rfl
  refine ⟨by omega, ?_⟩
  rw [← drop1_keys, e]
  exact I.bz.nd
end
theorem pl3 (C : Ctx K mg base) (hr : Room 8 (XQ P w K mg base f cd A outer s H0 E).A) : Step (XQ P w K mg base f cd A outer s H0 E) (pl 3) (P3 K) (PX K xA) := by
  obtain ⟨fM, fdM, FM, _, ⟨ds, vds, bM⟩, mM, cM⟩ := ok_send (P := P) (w := w) C
  refine ⟨_, ps_expr (pe_meth (pv 0) cM mM FM (hr.mono (by decide)) bM vds passA (pa_cons pe_str (pa_cons pe_str (pa_cons pe_str (pa_cons pe_int pa_nil))))), fun D σ H hM hq => ?_⟩
  obtain ⟨hl, B, r, dx, Z, x, h0, S⟩ := hM
  have R := S.R
  refine ⟨_, h0, r, dx, _, rfl, R.atR, rfl, B, r, dx, Z, x, "m", "p", "r", 3, false, rfl, R, by rw [S.rw]; decide, S.ndq, fun hm => S.qu hm, fun _ x' H' R' e' => hq _ _ ⟨B, r, dx, Z, x', hl, h0, R', S.ts, S.zl, S.zh, by rw [e', S.xp]; rfl⟩, fun hn => absurd (by rw [S.ts, S.xp]; exact goodA) hn⟩
theorem pl4 (C : Ctx K mg base) (hr : Room 8 (XQ P w K mg base f cd A outer s H0 E).A) : Step (XQ P w K mg base f cd A outer s H0 E) (pl 4) (PX K xA) (PX K xB) := by
  obtain ⟨fM, fdM, FM, bM, _, mM, cM⟩ := ok_send (P := P) (w := w) C
  refine ⟨_, ps_expr (pe_meth (pv 0) cM mM FM (hr.mono (by decide)) bM .nil passA (pa_cons pe_str (pa_cons pe_str (pa_cons pe_str (pa_cons pe_int (pa_cons pe_bl pa_nil)))))), fun D σ H hM hq => ?_⟩
  obtain ⟨B, r, dx, Z, x, hl, h0, S⟩ := hM
  have R := S.R
  have IA : RInv pqr xA := (RInv.new nd3).send nd3 false goodA
  refine ⟨_, h0, r, dx, _, rfl, R.atR, rfl, B, r, dx, Z, x, "n", "p", "q", 1, true, rfl, R, by rw [S.lrw]; decide +kernel, S.ndq IA, fun hm => S.qu IA hm, fun _ x' H' R' e' => hq _ _ ⟨B, r, dx, Z, x', hl, h0, R', S.ts, S.zl, S.zh, by rw [e', S.xp]; rfl⟩, fun hn => absurd (by rw [S.ts, S.xp]; exact goodB) hn⟩
theorem pl5 (C : Ctx K mg base) (hr : Room 8 (XQ P w K mg base f cd A outer s H0 E).A) : Step (XQ P w K mg base f cd A outer s H0 E) (pl 5) (PX K xB) (PX K xC) := by
  have nn := sc_l_plain.nd
  obtain ⟨fG, fdG, FG, bG, mG, cG⟩ := ok_goMin (P := P) (w := w) C
  refine ⟨_, ps_for ownsA rfl (pi_range1 (by rfl) C.t.b_range (pa_cons pe_int pa_nil)) (pg_name (i := 2) nn rfl (by first | exact Or.inl rfl | exact Or.inr rfl)) (pss_one (ps_expr (pe_meth0 (pv 0) cG mG FG (hr.mono (by decide)) bG .nil passA))), fun D σ H hM hq => ?_⟩
  refine ⟨30, rfl, by decide, by decide, ?_⟩
  refine for_range (lo := 0) (n := 30) (fun i σ' H' => PX K (itM i xB) σ' H') hM (fun i σ' H' hi ⟨B, r, dx, Z, x, hl, h0, S⟩ => ?_) (fun σ' H' h => hq _ _ h)
  have R := S.R
  have hI := Iit i
  have hw := rwit i
  refine ⟨_, at_set h0 (by decide), r, dx, _, rfl, R.atR, rfl, B, r, dx, Z, x, rfl, R, by rw [S.ts, S.xp]; exact hI, by rw [S.lrw]; omega, by rw [S.zh]; decide, by rw [S.zh]; decide, fun x' H2 R' e' => ⟨B, r, dx, Z, x', by rw [List.length_set]; exact hl, at_set h0 (by decide), R', S.ts, S.zl, S.zh, ?_⟩⟩
  rw [e', S.xp, S.ts, S.zl, S.zh]
  rfl
theorem pl6 (C : Ctx K mg base) (hr : Room 8 (XQ P w K mg base f cd A outer s H0 E).A) : StepsR (XQ P w K mg base f cd A outer s H0 E) [pl 6] (PX K xC) (fun D => ∀ H', D.rt (.bl true) H') := by
  have nn := sc_l_plain.nd
  obtain ⟨fW, fdW, FW, bW, mW, cW⟩ := ok_where (P := P) (w := w) C
  obtain ⟨fT, fdT, FT, bT, mT, cT⟩ := ok_took (P := P) (w := w) C
  obtain ⟨fL, fdL, FL, bL, mL, cL⟩ := ok_least (P := P) (w := w) C
  refine ⟨_, pss_one (ps_ret (pe_and (pe_cmpR op_eq (pe_meth (pv 0) cT mT FT (hr.mono (by decide)) bT .nil passA (pa_cons pe_str pa_nil)) pe_int (nomark _))
    (pe_and (pe_cmpR op_eq (pe_meth (pv 0) cT mT FT (hr.mono (by decide)) bT .nil passA (pa_cons pe_str pa_nil)) pe_int (nomark _))
    (pe_and (pe_cmpR op_eq (pe_meth (pv 0) cL mL FL (hr.mono (by decide)) bL .nil passA (pa_cons pe_str pa_nil)) pe_int (nomark _))
    (pe_and (pe_cmpR (op_eqD hr.units) (pe_meth (pv 0) cW mW FW (hr.mono (by decide)) bW .nil passA (pa_cons pe_str pa_nil)) (pe_tup (pa_cons pe_str (pa_cons pe_str pa_nil))) (nomark _))
    (pe_one (pe_cmpR (op_eqD hr.units) (pe_lc (own := [("row", 4)]) (g := gName 4) rfl nn (pi_list (pe_fld (pv 0) rfl)) (blkOk_by (N := n_l_plain) (sc := defScope s_l_plain) (by decide +kernel)) (fun _ _ _ _ _ => (pg_name (i := 4) nn rfl (by first | exact Or.inl rfl | exact Or.inr rfl))) (fun _ _ _ _ _ => pts_nil) (fun _ _ _ _ _ => (pe_ix (r := rIxT K) ix_tup (pv 4) pe_int (fun _ _ => rfl)))) (pe_lst (pa_cons pe_str (pa_cons pe_str (pa_cons pe_str (pa_cons pe_str (pa_cons pe_str (pa_cons pe_str (pa_cons pe_str (pa_cons pe_str pa_nil))))))))) (nomark _)))))))), fun D σ H hM hq => ?_⟩
  obtain ⟨B, r, dx, Z, x, hl, h0, S⟩ := hM
  obtain ⟨a0, a1, a2, a3, a4, rfl⟩ := ex5 hl
  cases h0
  have I : RInv pqr xC := Iit 30
  obtain ⟨lbz, ndb⟩ := S.bz I
  have lrw : x.rw.length ≤ 100000 := by
    rw [S.lrw]
    have := rwit 30
    show (itM 30 xB).rw.length ≤ _
    omega
  have hqu : ∀ t ∈ Z.ts, ∃ a q, look x.qu t = some (a, q) := fun t ht => by
    obtain ⟨a, q, e, _⟩ := S.qu I ht
    exact ⟨a, q, e⟩
  have ms : ∀ n, look xC.ms n = (look x.ms n).map (·.2) := fun n => by rw [← S.xp, pu_ms]
  obtain ⟨n1, n2, n3, n4⟩ := vN
  obtain ⟨m1, m2, m3, m4, m5⟩ := vM
  have hn : ∃ v, look x.ms "n" = some v := by
    rcases look_or x.ms "n" with z | z
    · have := ms "n"
      rw [z] at this
      rw [this] at n4
      cases n4
    · exact z
  obtain ⟨vn, hn⟩ := hn
  obtain ⟨am, hm⟩ := look_un (cs := x.ms) (n := "m") (v := ⟨"p", "r", 3, false, true⟩) (by rw [← ms]; exact m4)
  have R := S.R
  -- took("n")
  refine ⟨_, rfl, r, dx, _, rfl, R.atR, rfl, B, r, dx, Z, x, "n", rfl, R, lbz, ndb, lrw, hqu, (fun z => by rw [hn] at z; cases z), fun v hv => ⟨("there", "q"), by rw [S.ts, S.xp]; exact n1, fun hne => absurd rfl hne, fun _ => ⟨0, [], 3, [], by rw [S.xp]; exact n2, by rw [S.xp]; exact n3, fun H1 L1 => ?_⟩⟩⟩
  refine ⟨rfl, _, rfl, iteT ?_⟩
  have R1 := R.to L1
  -- took("m")
  refine ⟨_, rfl, r, dx, _, rfl, R1.atR, rfl, B, r, dx, Z, x, "m", rfl, R1, lbz, ndb, lrw, hqu, (fun z => by rw [hm] at z; cases z), fun v hv => ⟨("there", "r"), by rw [S.ts, S.xp]; exact m1, fun hne => absurd rfl hne, fun _ => ⟨0, [], 15, [], by rw [S.xp]; exact m2, by rw [S.xp]; exact m3, fun H2 L2 => ?_⟩⟩⟩
  refine ⟨rfl, _, rfl, iteT ?_⟩
  have R2 := R1.to L2
  -- least
  refine ⟨_, rfl, r, dx, _, rfl, R2.atR, rfl, B, r, dx, Z, x, "m", rfl, R2, by rw [S.zh]; decide, by rw [S.zh]; decide, (fun z => by rw [hm] at z; cases z), fun a m' hv => ?_⟩
  obtain rfl : m' = ⟨"p", "r", 3, false, true⟩ := by rw [hm] at hv; exact (Prod.ext_iff.mp (Option.some.inj hv)).2.symm
  refine ⟨by rw [S.ts]; decide, by rw [S.ts]; decide, by decide, by decide, fun H3 L3 => ?_⟩
  have ert : x.pu.rt Z.ts Z.lp "p" "r" = some (["p", "q", "r"] : List Str) := by rw [S.ts, S.zl, S.xp]; exact m5
  show match x.pu.rt Z.ts Z.lp "p" "r" with | none => _ | some w => _
  rw [ert, S.zh]
  refine ⟨rfl, _, rfl, iteT ?_⟩
  have R3 := R2.to L3
  -- where
  refine ⟨_, rfl, r, dx, _, rfl, R3.atR, rfl, B, r, dx, Z, x, "m", rfl, R3, lbz, ndb, hqu, (fun z => by rw [hm] at z; cases z), fun v hv => ⟨("there", "r"), by rw [S.ts, S.xp]; exact m1, fun H4 p L4 hp => ?_⟩⟩
  refine ⟨by show 2 ≤ sizeLine; decide, fun p2 hp2 => ?_⟩
  have L5 := L4.new (o := .tup [.str "there", .str "r"]) hp2
  have hp5 := (upd_ne (o := .tup [.str "there", .str "r"]) (ne_of_none hp hp2)).trans hp
  refine ⟨.tuple [.str "there", .str "r"], .tuple [.str "there", .str "r"], .tup (SqT.of hp5) (.cons (.str _) (.cons (.str _) .nil)), .tup (SqT.of upd_same) (.cons (.str _) (.cons (.str _) .nil)), by decide +kernel, by decide +kernel, ?_⟩
  rw [show PyData.eqv (.tuple [.str "there", .str "r"]) (.tuple [.str "there", .str "r"]) = true by decide +kernel]
  refine ⟨_, rfl, iteT ?_⟩
  have R5 := R3.to L5
  generalize upd H4 p2 (.tup [.str "there", .str "r"]) = H5 at L5 R5 ⊢
  -- the rows
  refine ⟨_, rfl, r, _, dx, _, _, rfl, R5.atR, C.t.c_Relay, C.t.a_Relay_rows, rfl, x.ro, rfl, ⟨_, SqL.of R5.atRo⟩, fun D1 hD => ?_⟩
  refine lc_pick (K := K) (T := T K) (xs := x.rw) (f := rf) (fun _ => true) (fun z => V.str z.2.2.1) (walksVL (SqL.of R5.atRo)) R5.tab hD lrw (fun z hz H3 Y N L3 hY hN => ⟨rfl, yes_ (iteT ?_)⟩) (fun H6 L6 h6 => ?_)
  · exact ⟨_, rfl, z.1, _, _, _, rfl, rfl, SqT.of (L3.at (R5.rwt z hz)), atI_nat (j := 1) rfl, hY _ (Le.refl L3.tab) rfl⟩
  rw [List.filter_eq_self.mpr fun _ _ => rfl] at h6
  have erw : x.rw.map (fun z => V.str z.2.2.1) = wts.map V.str := by
    have e : x.rw.map (·.2) = xC.rw := congrArg RS.rw S.xp
    rw [← vR, ← e, List.map_map, List.map_map]
    rfl
  rw [erw] at h6
  refine ⟨by show 8 ≤ sizeLine; decide, fun e he => ?_⟩
  have h7 := (upd_ne (o := .lst (wts.map V.str)) (ne_of_none h6 he)).trans h6
  have e7 : upd H6 e (.lst (wts.map V.str)) e = some (.lst (wts.map V.str)) := upd_same
  refine ⟨.list (wts.map PyData.str), .list (wts.map PyData.str), .lst (SqL.of h7) (DpAll.strs _), .lst (SqL.of e7) (DpAll.strs _), shaped_of lwts (by decide), shaped_of lwts (by decide), ?_⟩
  rw [SeqAt.eqv_refl _ lwts.1]
  exact hq _
def Fam (X : Cx) (K : PySem.W.Frag) (fs : List (Addr × Addr)) (H : Hp) (ds : List LamD) : Prop := (∀ d ∈ ds, LamP K X d) ∧ fs.length ≤ 16 ∧ ∀ (i : Nat) (p : Addr × Addr), fs[i]? = some p → ∃ d, d ∈ ds ∧ H p.1 = some (lamAt X d p.1 p.2) ∧ H p.2 = some (CodeO p.2 (X.env.qual ++ "<lambda>"))
theorem pl36 (C : Ctx K mg base) (hr : Room 8 (XQ P w K mg base f cd A outer s H0 E).A) : StepsR (XQ P w K mg base f cd A outer s H0 E) [pl 3, pl 4, pl 5, pl 6] (P3 K) (fun D => ∀ H', D.rt (.bl true) H') := by
  obtain ⟨t3, a3, b3⟩ := pl3 (P := P) (w := w) (f := f) (cd := cd) (A := A) (outer := outer) (s := s) (H0 := H0) (E := E) C hr
  obtain ⟨t4, a4, b4⟩ := pl4 (P := P) (w := w) (f := f) (cd := cd) (A := A) (outer := outer) (s := s) (H0 := H0) (E := E) C hr
  obtain ⟨t5, a5, b5⟩ := pl5 (P := P) (w := w) (f := f) (cd := cd) (A := A) (outer := outer) (s := s) (H0 := H0) (E := E) C hr
  obtain ⟨t6, a6, b6⟩ := pl6 (P := P) (w := w) (f := f) (cd := cd) (A := A) (outer := outer) (s := s) (H0 := H0) (E := E) C hr
  exact ⟨_, pss_cons a3 (pss_cons a4 (pss_cons a5 a6)), fun D σ H hM hq => b3 _ _ _ hM fun σ1 H1 h1 => b4 _ _ _ h1 fun σ2 H2 h2 => b5 _ _ _ h2 fun σ3 H3 h3 => b6 _ _ _ h3 hq⟩
theorem pl16 (C : Ctx K mg base) (hr : Room 8 (XQ P w K mg base (He.fAd K ("_law_plain", none)) (cdQ K) A outer s H0 E).A) : StepsR (XQ P w K mg base (He.fAd K ("_law_plain", none)) (cdQ K) A outer s H0 E) [pl 1, pl 2, pl 3, pl 4, pl 5, pl 6] (P3 K) (fun D => ∀ H', D.rt (.bl true) H') := by
  have nn := sc_l_plain.nd
  obtain ⟨tb6, hb6, h6b⟩ := pl36 (P := P) (w := w) (f := He.fAd K ("_law_plain", none)) (cd := cdQ K) (A := A) (outer := outer) (s := s) (H0 := H0) (E := E) C hr
  obtain ⟨t60, i60⟩ := C.t.i_MOST_MESSAGES
  obtain ⟨t20, i20⟩ := C.t.i_MOST_HOLD
  obtain ⟨gd, G⟩ := C.d.d_l_told
  have gb := G.funD.bindsN (ps := ["what"]) fun _ _ _ _ _ _ us hl => (match us, hl with | [_], _ => rfl)
  have gkp := G.kp
  obtain ⟨oc, od, dV, kV, doc, pm, an, ct, osl, ge, glk, ghcd, ghd, ghk⟩ := G.ex
  subst ge
  obtain ⟨d0, p0, v0⟩ := lamP_of (lam0 (P := P) (w := w) (f := He.fAd K ("_law_plain", none)) (cd := cdQ K) (A := A) (outer := outer) (s := s) (H0 := H0) (E := E) C) rfl (C.b _ (tf_mem 2)) rfl (T_mem 2) (T_uniq C.u 2)
  obtain ⟨d1, p1, v1⟩ := lamP_of (lam1 (P := P) (w := w) (f := He.fAd K ("_law_plain", none)) (cd := cdQ K) (A := A) (outer := outer) (s := s) (H0 := H0) (E := E) C) rfl (C.b _ (tf_mem 2)) rfl (T_mem 2) (T_uniq C.u 2)
  obtain ⟨d2, p2, v2⟩ := lamP_of (lam2 (P := P) (w := w) (f := He.fAd K ("_law_plain", none)) (cd := cdQ K) (A := A) (outer := outer) (s := s) (H0 := H0) (E := E) C) rfl (C.b _ (tf_mem 2)) rfl (T_mem 2) (T_uniq C.u 2)
  obtain ⟨d3, p3, v3⟩ := lamP_of (lam3 (P := P) (w := w) (f := He.fAd K ("_law_plain", none)) (cd := cdQ K) (A := A) (outer := outer) (s := s) (H0 := H0) (E := E) C) rfl (C.b _ (tf_mem 2)) rfl (T_mem 2) (T_uniq C.u 2)
  obtain ⟨d4, p4, v4⟩ := lamP_of (lam4 (P := P) (w := w) (f := He.fAd K ("_law_plain", none)) (cd := cdQ K) (A := A) (outer := outer) (s := s) (H0 := H0) (E := E) C) rfl (C.b _ (tf_mem 2)) rfl (T_mem 2) (T_uniq C.u 2)
  obtain ⟨d5, p5, v5⟩ := lamP_of (lam5 (P := P) (w := w) (f := He.fAd K ("_law_plain", none)) (cd := cdQ K) (A := A) (outer := outer) (s := s) (H0 := H0) (E := E) C) rfl (C.b _ (tf_mem 2)) rfl (T_mem 2) (T_uniq C.u 2)
  obtain ⟨d6, p6, v6⟩ := lamP_of (lam6 (P := P) (w := w) (f := He.fAd K ("_law_plain", none)) (cd := cdQ K) (A := A) (outer := outer) (s := s) (H0 := H0) (E := E) C) rfl (C.b _ (tf_mem 2)) rfl (T_mem 2) (T_uniq C.u 2)
  obtain ⟨d7, p7, v7⟩ := lamP_of (lam7 (P := P) (w := w) (f := He.fAd K ("_law_plain", none)) (cd := cdQ K) (A := A) (outer := outer) (s := s) (H0 := H0) (E := E) C) rfl (C.b _ (tf_mem 2)) rfl (T_mem 2) (T_uniq C.u 2)
  obtain ⟨d8, p8, v8⟩ := lamP_of (lam8 (P := P) (w := w) (f := He.fAd K ("_law_plain", none)) (cd := cdQ K) (A := A) (outer := outer) (s := s) (H0 := H0) (E := E) C) rfl (C.b _ (tf_mem 2)) rfl (T_mem 2) (T_uniq C.u 2)
  obtain ⟨d9, p9, v9⟩ := lamP_of (lam9 (P := P) (w := w) (f := He.fAd K ("_law_plain", none)) (cd := cdQ K) (A := A) (outer := outer) (s := s) (H0 := H0) (E := E) C) rfl (C.b _ (tf_mem 2)) rfl (T_mem 2) (T_uniq C.u 2)
  obtain ⟨d10, p10, v10⟩ := lamP_of (lam10 (P := P) (w := w) (f := He.fAd K ("_law_plain", none)) (cd := cdQ K) (A := A) (outer := outer) (s := s) (H0 := H0) (E := E) C) rfl (C.b _ (tf_mem 2)) rfl (T_mem 2) (T_uniq C.u 2)
  obtain ⟨d11, p11, v11⟩ := lamP_of (lam11 (P := P) (w := w) (f := He.fAd K ("_law_plain", none)) (cd := cdQ K) (A := A) (outer := outer) (s := s) (H0 := H0) (E := E) C) rfl (C.b _ (tf_mem 2)) rfl (T_mem 2) (T_uniq C.u 2)
  obtain ⟨d12, p12, v12⟩ := lamP_of (lam12 (P := P) (w := w) (f := He.fAd K ("_law_plain", none)) (cd := cdQ K) (A := A) (outer := outer) (s := s) (H0 := H0) (E := E) C) rfl (C.b _ (tf_mem 2)) rfl (T_mem 2) (T_uniq C.u 2)
  obtain ⟨d13, p13, v13⟩ := lamP_of (lam13 (P := P) (w := w) (f := He.fAd K ("_law_plain", none)) (cd := cdQ K) (A := A) (outer := outer) (s := s) (H0 := H0) (E := E) C) rfl (C.b _ (tf_mem 2)) rfl (T_mem 2) (T_uniq C.u 2)
  obtain ⟨d14, p14, v14⟩ := lamP_of (lam14 (P := P) (w := w) (f := He.fAd K ("_law_plain", none)) (cd := cdQ K) (A := A) (outer := outer) (s := s) (H0 := H0) (E := E) C) rfl (C.b _ (tf_mem 2)) rfl (T_mem 2) (T_uniq C.u 2)
  obtain ⟨d15, p15, v15⟩ := lamP_of (lam15 (P := P) (w := w) (f := He.fAd K ("_law_plain", none)) (cd := cdQ K) (A := A) (outer := outer) (s := s) (H0 := H0) (E := E) C) rfl (C.b _ (tf_mem 2)) rfl (T_mem 2) (T_uniq C.u 2)
  have fam : ∀ d ∈ ([d0, d1, d2, d3, d4, d5, d6, d7, d8, d9, d10, d11, d12, d13, d14, d15] : List LamD), LamP K (XQ P w K mg base (He.fAd K ("_law_plain", none)) (cdQ K) A outer s H0 E) d := by
    intro d hd
    simp only [List.mem_cons, List.not_mem_nil, or_false] at hd
    rcases hd with rfl | rfl | rfl | rfl | rfl | rfl | rfl | rfl | rfl | rfl | rfl | rfl | rfl | rfl | rfl | rfl
    · exact p0
    · exact p1
    · exact p2
    · exact p3
    · exact p4
    · exact p5
    · exact p6
    · exact p7
    · exact p8
    · exact p9
    · exact p10
    · exact p11
    · exact p12
    · exact p13
    · exact p14
    · exact p15
  have hfam : ∀ d ∈ ([d0, d1, d2, d3, d4, d5, d6, d7, d8, d9, d10, d11, d12, d13, d14, d15] : List LamD), LamOk (XQ P w K mg base (He.fAd K ("_law_plain", none)) (cdQ K) A outer s H0 E) 6 d := fun d hd => (fam d hd).ok
  refine ⟨_, C8.pss_cut (ps_set (i := 1) nn rfl (by first | exact Or.inl rfl | exact Or.inr rfl) (pe_lst (pa_midA (pa_lam v0 (pa_lam v1 (pa_lam v2 (pa_lam v3 (pa_lam v4 (pa_lam v5 (pa_lam v6 (pa_lam v7 (pa_lam v8 (pa_lam v9 (pa_lam v10 (pa_lam v11 (pa_lam v12 (pa_lam v13 (pa_lam v14 (pa_lam v15 pa_lam0)))))))))))))))))))
    (C8.pss_cut (ps_if (PW.pt (pw_or (pt_cmpR (op_neD hr.units) (pe_lcB (own := [("f", 3)]) (g := gName 3) rfl nn rfl rfl takesA (pi_list (pv 1)) (blkOk_by (N := n_l_plain) (sc := defScope s_l_plain) (by decide +kernel))
            (fun _ _ _ _ _ => pg_name (i := 3) nn rfl (Or.inl rfl))
            (fun _ _ _ _ _ _ back => pts_one (pt_cmpR op_ne (pe_toldV (j := 3) back hfam (by rfl) C.t.m_l_told gkp glk ghcd gb sc_l_told rfl (.inl rfl) (told_gives (by rfl) C.t.m_SignalError (by decide) fun _ => rfl) (hr.mono (by decide)) rfl (.inl rfl)) pe_str (nomark _)))
            (fun _ _ _ _ _ _ _ _ => pe_int)) (pe_lst pa_nil) (nomark _))
          (pw_or (pt_cmpR (op_neD hr.units) (pe_tup (pa_cons (pe_glob (by rfl) i60 (v := .int 60) ⟨_, rfl⟩) (pa_cons (pe_glob (by rfl) i20 (v := .int 20) ⟨_, rfl⟩) pa_nil))) (pe_tup (pa_cons pe_int (pa_cons pe_int pa_nil))) (nomark _))
          (pw_or1 (pt_cmpR (op_neD hr.units) (pe_fld (pv 0) rfl) (pe_lst pa_nil) (nomark _))))))
        (pss_one (ps_ret pe_bl)) pss_nil) hb6), fun D σ H hM hq => ?_⟩
  obtain ⟨hl, hP⟩ := hM
  refine ⟨fun σ' H' => P3 K σ' H' ∧ ∃ lb fs, At σ' 1 (.ref lb) ∧ H' lb = some (.lst (fs.map fun p : Addr × Addr => V.ref p.1)) ∧ Fam (XQ P w K mg base (He.fAd K ("_law_plain", none)) (cdQ K) A outer s H0 E) K fs H' [d0, d1, d2, d3, d4, d5, d6, d7, d8, d9, d10, d11, d12, d13, d14, d15], ?_, ?_⟩
  · refine ⟨fun vs H3 => ∃ fs : List (Addr × Addr), vs = (fs.map fun p => V.ref p.1) ∧ Le (T K) H H3 ∧ Fam (XQ P w K mg base (He.fAd K ("_law_plain", none)) (cdQ K) A outer s H0 E) K fs H3 [d0, d1, d2, d3, d4, d5, d6, d7, d8, d9, d10, d11, d12, d13, d14, d15], ?_, ?_⟩
    · refine lams_run hP.tab fun fs H3 L3 hlen hall => ?_
      refine ⟨fs, rfl, L3, fam, by rw [hlen]; exact Nat.le_refl 16, fun i p hp => ?_⟩
      have hi : i < 16 := by
        have := (List.getElem?_eq_some_iff.mp hp).1
        rw [hlen] at this
        exact this
      obtain ⟨d, hd⟩ : ∃ d, ([d0, d1, d2, d3, d4, d5, d6, d7, d8, d9, d10, d11, d12, d13, d14, d15] : List LamD)[i]? = some d := ⟨_, List.getElem?_eq_getElem hi⟩
      exact ⟨d, List.mem_of_getElem? hd, hall i d p hd hp⟩
    rintro vs H3 ⟨fs, rfl, L3, hF, h16, hall⟩
    refine ⟨by rw [List.length_map]; exact Nat.le_trans h16 (by decide), fun l hl2 => ?_⟩
    have U := (Le.refl L3.tab).new (o := .lst (fs.map fun p => V.ref p.1)) hl2
    have PP := (hP.to L3).to U
    obtain ⟨B', r', dx', Z', x', h0, S'⟩ := PP
    exact ⟨⟨by rw [List.length_set]; exact hl, B', r', dx', Z', x', at_set h0 (by decide), S'⟩, l, fs, at_self (by rw [hl]; decide), upd_same, hF, h16, fun i p hp => by
      obtain ⟨d, h1, h2, h3⟩ := hall i p hp
      exact ⟨d, h1, U.ext _ _ h2 (fun ps z => by cases z), U.ext _ _ h3 (fun ps z => by cases z)⟩⟩
  · rintro σ' H5 ⟨⟨hl5, hP5⟩, lb, fs, h15, hlb, hF, h16, hall5⟩
    refine ⟨P3 K, ?_, fun σ'' H'' z => h6b D σ'' H'' z hq⟩
    refine ⟨_, h15, lb, rfl, ⟨_, SqL.of hlb⟩, fun D1 hD => ?_⟩
    obtain ⟨a0, a1, a2, a3, a4, rfl⟩ := ex5 hl5
    refine lc_list (K := K) (a := lb) (xs := fs.map fun p => V.ref p.1) (fun i H' => Le (T K) H5 H' ∧ H' D1 = some (.lst [])) ⟨(Le.refl hP5.tab).new hD, upd_same⟩ (fun i H' _ hP => SqL.of (hP.1.at hlb)) (fun i y H6 hy ⟨L6, h6⟩ => ?_) (fun H6 ⟨L6, h6⟩ => ?_)
    · obtain ⟨p, hp, rfl⟩ := GX.get_map hy
      obtain ⟨d, hd, h1, h2⟩ := hall5 i p hp
      refine ⟨rfl, ?_⟩
      refine ⟨p.1, p.2, d, rfl, hd, L6.ext _ _ h1 (fun ps z => by cases z), L6.ext _ _ h2 (fun ps z => by cases z), L6.ext _ _ h1 (fun ps z => by cases z), (fam d hd).r _ _ H6 _ (hP5.to L6) fun c hc H7 L7 => ⟨true, ?_, fun _ => ?_, fun z => by cases z⟩⟩
      · rcases hc with rfl | rfl
        · exact C.t.x_RelayError_SignalError
        · exact C.t.x_RouteError_SignalError
      refine ⟨rfl, _, rfl, ?_⟩
      rw [decide_eq_true (show V.str "SignalError" = V.str "SignalError" from rfl)]
      exact iteF ⟨L6.trans L7, L7.at h6⟩
    · refine ⟨by show 0 ≤ sizeLine; decide, fun e he => ?_⟩
      have hDe : D1 ≠ e := ne_of_none h6 he
      refine ⟨.list [], .list [], .lst (SqL.of ((upd_ne hDe).trans h6)) .nil, .lst (SqL.of upd_same) .nil, rfl, rfl, _, rfl, ?_⟩
      have ev0 : PyData.eqv (.list []) (.list []) = true := rfl
      rw [ev0]
      refine iteF ?_
      have L7 := L6.new (o := .lst []) he
      generalize upd H6 e (.lst []) = H7 at L7 ⊢
      refine ⟨by show 2 ≤ sizeLine; decide, fun p hp => ?_⟩
      refine ⟨by show 2 ≤ sizeLine; decide, fun q hqn => ?_⟩
      have hpq : p ≠ q := ne_of_none upd_same hqn
      refine ⟨.tuple [.int 60, .int 20], .tuple [.int 60, .int 20], .tup (SqT.of ((upd_ne hpq).trans upd_same)) (DpAll.ints [60, 20]), .tup (SqT.of upd_same) (DpAll.ints [60, 20]), rfl, rfl, _, rfl, ?_⟩
      have ev1 : PyData.eqv (.tuple [.int 60, .int 20]) (.tuple [.int 60, .int 20]) = true := by decide
      rw [ev1]
      have L8 := (L7.new (o := .tup [.int 60, .int 20]) hp).new (o := .tup [.int 60, .int 20]) hqn
      generalize upd (upd H7 p (.tup [.int 60, .int 20])) q (.tup [.int 60, .int 20]) = H8 at L8 ⊢
      have P8 := hP5.to L8
      obtain ⟨B', r', dx', Z', x', h0, S'⟩ := id P8
      cases h0
      have R' := S'.R
      have er := R'.atRo
      rw [S'.rw] at er
      refine iteF ⟨_, rfl, r', _, dx', _, _, rfl, R'.atR, C.t.c_Relay, C.t.a_Relay_rows, rfl, by show 0 ≤ sizeLine; decide, fun z hz => ?_⟩
      refine ⟨.list [], .list [], .lst (SqL.of ((upd_ne (ne_of_none er hz)).trans er)) .nil, .lst (SqL.of upd_same) .nil, rfl, rfl, _, rfl, ?_⟩
      rw [ev0]
      exact iteF ⟨rfl, P8.to ((Le.refl P8.tab).new hz)⟩
def spPlain (K : PySem.W.Frag) : Sp := fun vs H Q _ => vs = [] ∧ Tabs (T K) H ∧ ∀ H', Q (.bl true) H'
theorem ok_plain (C : Ctx K mg base) : CalX P w K mg base 9 "_law_plain" [] (spPlain K) := by
  obtain ⟨fd, F⟩ := C.d.d_l_plain
  refine ⟨_, fd, ?_, F.funD.bindsN fun _ _ _ _ _ _ us hl => (match us, hl with | [], _ => rfl), F.kp, C.t.m_l_plain⟩
  refine F.ok sc_l_plain (fun vs H Q E h => ?_) (fun A outer s H vs Q E hr h => ?_)
  · obtain ⟨rfl, _⟩ := h
    rfl
  · obtain ⟨rfl, hT, hq⟩ := h
    obtain ⟨t0, a0, b0⟩ := pl0 (P := P) (w := w) (f := He.fAd K ("_law_plain", none)) (cd := cdQ K) (A := A) (outer := outer) (s := s) (H0 := H) (E := E) C hr
    obtain ⟨t1, a1, b1⟩ := pl16 (P := P) (w := w) (A := A) (outer := outer) (s := s) (H0 := H) (E := E) C hr
    exact ⟨_, pss_cons a0 a1, b0 _ _ _ ⟨rfl, hT⟩ fun σ' H' h => b1 _ _ _ h hq⟩
end
end K6

-- text K6Lz
set_option maxRecDepth 100000
set_option maxHeartbeats 4000000
namespace K6
open PySem PySem.Spec PyProof.Rows L2 LamX GX
section
variable {P : Program} {w : World} {K : PySem.W.Frag} {mg : Str → Option Value} {base : Heap}
end
/-! ### the law, joined -/
section
variable {P : Program} {w : World} {K : PySem.W.Frag} {mg : Str → Option Value} {base : Heap}
def spLaw (K : PySem.W.Frag) : Sp := fun vs H Q _ => ∃ (sa : Addr) (ns : List Int), vs = [.ref sa] ∧ SqL K H sa (ns.map V.int) ∧ Tabs (T K) H ∧ ∀ H', Q (.bl true) H'
theorem ok_law (C : Ctx K mg base) {fd : FuncData} (F : DefC K ("law", none) "law" "law" s_law [] fd) : FnOk P w K mg base (L2.CX P w) 12 (He.fAd K ("law", none)) fd ["script"] (spLaw K) := by
  refine F.ok sc_law (fun vs H Q E h => ?_) (fun A outer s H vs Q E hr h => ?_)
  · obtain ⟨a, ns, rfl, _⟩ := h
    rfl
  · obtain ⟨sa, ns, rfl, hs, hT, hq⟩ := h
    have nn := sc_law.nd
    obtain ⟨tb, hb1, hb2⟩ := lround_ex (P := P) (w := w) (f := He.fAd K ("law", none)) (cd := cdL K) (A := A) (outer := outer) (s := s) (H0 := H) (E := E) C hr
    refine ⟨_, C8.pss_cut (ps_for (body := LB) ownsA rfl (pi_list (pe_cx (ok_rounds (P := P) (w := w) C) hr (by decide) rfl passA (pa_cons (pv 0) (pa_cons pe_int pa_nil)))) (pg_name (i := 1) nn rfl (by first | exact Or.inl rfl | exact Or.inr rfl)) hb1)
      (pss_one (ps_ret (pe_cx0 (ok_plain (P := P) (w := w) C) hr (by decide) rfl passA))), ?_⟩
    refine ⟨fun σ' H' => Tabs (T K) H', ?_, fun σ' H' z => ⟨rfl, z, hq⟩⟩
    refine ⟨_, rfl, sa, ns, rfl, hs, hT, fun H2 p d x y z L2 hp hd hdn => ?_⟩
    have hpd : p ≠ d := fun e => by rw [e, hd] at hp; cases hp
    have base0 : Dx K p d (hid H2 [d]) H2 := ⟨hid_le L2.tab, hid_no (by simp), ⟨x, y, z, hd⟩, hid_at hp (by simpa using hpd)⟩
    refine ⟨p, rfl, ⟨_, SqL.of hp⟩, ?_⟩
    refine for_list (xs := [V.ref d]) (fun i σ H' => σ.length = 23 ∧ Tabs (T K) H' ∧ H' p = some (.lst [.ref d]) ∧ (i = 0 → H' = H2)) ⟨rfl, L2.tab, hp, fun _ => rfl⟩ (fun i σ H' _ hP => SqL.of hP.2.2.1) (fun i x' σ H' hx hP => ?_) (fun σ H' hP => hP.2.1)
    cases i with
    | succ i => cases hx
    | zero =>
      cases Option.some.inj hx
      obtain ⟨hl, _, _, e⟩ := hP
      have e := e rfl
      subst e
      refine hb2 p d _ _ _ ⟨hid H' [d], ?_, ?_, base0⟩ (fun σ' H3 hM => ⟨hM.1, hM.2.1, hM.2.2, fun z => by cases z⟩)
      · rw [List.length_set]; exact hl
      · exact at_self (by rw [hl]; decide)
end
section
abbrev lawLevel : Nat := 12
def lawCX (w : World) : CXT := L2.CX (PySem.Challenge.rw_signalstack_k60_whole_days_of_a_relay).prog w
theorem law_noexc (w : World) (H : Hp) (s : Shared) (e : Value) (s' : Shared) (h : lawCX w [] H s (fun _ _ _ => False) e s') : False := by
  obtain ⟨_, _, _, _, _, _, _, _, _, _, _, _, z⟩ := h
  exact z
theorem law_at {w : World} {K : PySem.W.Frag} {mg : Str → Option Value} {fa' : Addr} {h : Heap} (KX : K.In h) (G : h.Ns mainGlobals mg) (hmg : mg ("law" : Str) = some (.ref fa')) (c : He.SaysX fa fn [] tf ex w h K) : LawAtS PySem.Challenge.rw_signalstack_k60_whole_days_of_a_relay w K (lawCX w) lawLevel 63 "script" mg fa' h := by
  have t := txt_of KX G c.t.d
  have d := defs_of c.t.d
  obtain ⟨fd, F⟩ := d.d_law
  have e := hmg.symm.trans t.m_law
  obtain rfl : fa' = He.fAd K ("law", none) := by
    have := Option.some.inj e
    exact Value.ref.inj this
  have b := FunD.bindsA (ps := ["script"]) F.funD fun _ _ _ _ _ _ us hl => (match us, hl with | [_], _ => rfl)
  refine ⟨fd, tf.map (He.cT K), spLaw K, fun p hp => ?_, fun p hp => ?_, fun p hp => ?_, fun s u => b s [u] rfl, fun H a ns _ _ hH hS => ⟨a, ns, rfl, hS, fun p hp => ?_, fun _ => rfl⟩, fun bs hb hg hT => ok_law ⟨t, d, fun p hp => hT _ (List.mem_map.mpr ⟨p, hp, rfl⟩), c.more⟩ F⟩
  · obtain ⟨q, hq, rfl⟩ := List.mem_map.mp hp
    exact c.empty q hq
  · obtain ⟨q, hq, rfl⟩ := List.mem_map.mp hp
    exact c.out q hq
  · obtain ⟨q, hq, rfl⟩ := List.mem_map.mp hp
    exact PySem.W.codeHd_of_K KX (c.hd q hq)
  · obtain ⟨q, hq, rfl⟩ := List.mem_map.mp hp
    exact TabS.nil (hH _ (List.mem_map.mpr ⟨q.1, List.mem_map.mpr ⟨q, hq, rfl⟩, rfl⟩))
end
end K6

-- text K6Head
set_option maxRecDepth 100000
set_option maxHeartbeats 0
namespace K6
open PySem PySem.Spec PyProof.Rows L2 LamX
abbrev Rw : PySem.W.OpenRow := PySem.W.OpenLaw.row PySem.Challenge.rw_signalstack_k60_whole_days_of_a_relay
abbrev hk : PySem.W.Hook := He.hookX 4 fa fn [] tf ex
def ob (s : PySem.W.SharedT) : He.AlX := He.obsX 4 fa fn [] tf ex (HandSHeadRun.getT s)
theorem ob_eq (s : PySem.W.SharedT) : ob s = hk.obs s.abs := He.obsX_eq (HandSHeadRun.getT_eq s)
def lo : List PySem.Str := (["__name__", "SignalError", "RouteError", "RelayError", "MOST_MESSAGES", "MOST_HOLD", "Relay", "_law_dice", "_law_roll", "_law_rounds", "_law_told", "_law_near"] : List PySem.Str) ++ (["_law_route", "_law_wait", "_law_minute", "_law_where", "_law_deed", "_law_plain"] : List PySem.Str)
theorem run (w : World) : HandSHeadRun.RunEq Rw (PySem.W.view Rw.prog [20]) hk ob 3000 lo w := by
  intro os
  kernel_rfl
end K6
open PySem PySem.W PySem.Calls PyProof.Rows
theorem PySem.Challenge.cw_signalstack_k60_whole_days_of_a_relay_holds : PySem.Challenge.rw_signalstack_k60_whole_days_of_a_relay.Holds := by
  w_on; o_law
  refine HandSHeadRun.head_any (r := OpenLaw.row PySem.Challenge.rw_signalstack_k60_whole_days_of_a_relay) (q := view (OpenLaw.row PySem.Challenge.rw_signalstack_k60_whole_days_of_a_relay).prog [20]) (H := K6.hk) (ob := K6.ob) (M := 3000) (loose := K6.lo) (d := HandSHeadRun.topDef (OpenLaw.row PySem.Challenge.rw_signalstack_k60_whole_days_of_a_relay).prog 20) (kwd := []) K6.ob_eq
    (by kernel_rfl) (fun s => by kernel_rfl) K6.run (by kernel_rfl) (by kernel_rfl) (by kernel_rfl) (by rfl) (by first | assumption | decide +kernel) (by decide +kernel) ⟨rfl, rfl, rfl, rfl, rfl, by decide +kernel⟩ ?hw ?hc
  case hw => w_witness2
  case hc =>
    refine LamX.walk_ofTsE (l := PySem.Challenge.rw_signalstack_k60_whole_days_of_a_relay) (n := 63) (k := K6.lawLevel) (x := "script") (CX := K6.lawCX) rfl (by decide) (by kernel_rfl) ⟨rfl, by decide, by decide⟩ ?F (fun w H s e s' z => K6.law_noexc w H s e s' z)
    intro w mg fa h Y G hmg0
    obtain ⟨K, KX, c⟩ := Y
    have hmg : mg ("law" : PySem.Str) = some (.ref fa) := by
      have e : (HandSHeadRun.topDef (OpenLaw.row PySem.Challenge.rw_signalstack_k60_whole_days_of_a_relay).prog 20).name = ("law" : PySem.Str) := by kernel_rfl
      rw [← e]
      exact hmg0
    exact ⟨K, KX, K6.law_at KX G hmg c⟩

