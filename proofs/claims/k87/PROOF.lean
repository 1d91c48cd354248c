import PyProof.Rows.All
import Wide.All
import OpenK.AllK
import Wide.FinOn
import HandS.ForMost
import KE.GoesMore
import KE.GoesCell
import KE.GoesNew
import KE.GoesComp2
import HandS.Wide
import KE.KRevSl
import HandS.Property
import HandS.Comp
import HandS.List
import HandS.IsInst
import HandS.Text
import HandS.Star
import KE.KSuper
import HandS.GenList
import HandS.GenYield
import HandS.GenCall
import HandS.Ends
import HandS.Head2
import HandS.Head3
import HandS.HeadEnd
import HandS.HeadHook1
import HandS.HeadHook2
import HandS.Words
import HandS.Defaults
import PySem.Challenge.RW_quotaorders_k87_whole_walk_around_and_me
import KE.Datum
set_option Elab.async false
set_option linter.all false
set_option autoImplicit false
-- LA
set_option maxRecDepth 100000
set_option maxHeartbeats 4000000
/-! LA: runs in which a generator may sleep over another generator (the collector sees nothing of it). -/
namespace Qo
open PySem

/-- a generator's object stands at a -/
def GenObj (h : Heap) (a : Addr) : Prop := ∃ o, h.get? a = some o ∧ o.genNumber?.isSome = true
/-- the code that sleeps over a generator -/
def YfOver (h : Heap) (c : Code) : Prop := ∃ a rest kw, c = .builtin "proto.yield_from" ⟨.ref a :: rest, kw⟩ ∧ GenObj h a
/-- a suspension that asks nothing of the collector -/
def Mild (s : Shared) : End → Prop
  | .ret _ => True
  | .susp _ g _ _ c _ fs => fs.any Frame.guarded = false ∧ (g = true → YfOver s.heap c)
theorem Mild.of_quiet {s : Shared} {e : End} (h : e.quiet = true) : Mild s e := by
  cases e with
  | ret r => trivial
  | susp v g l k c p fs =>
    simp only [End.quiet, Bool.not_eq_true', Bool.or_eq_false_iff] at h
    exact ⟨h.2, fun z => by rw [h.1] at z; cases z⟩
/-- a thread that may go on -/
def MildT (s : Shared) (t : Thread) : Prop :=
  t.loud = false ∨ ∃ v g l k fs b rest, t.cur = .yield v g l k ∧ splitAtGen t.stack = some (fs, b, rest) ∧ fs.any Frame.guarded = false ∧ YfOver s.heap t.code
def StepL (M : Model) (s : Shared) (t : Thread) (s' : Shared) (t' : Thread) : Prop := MildT s t ∧ stepK M.den M.prog M.w s t = .go s' t'
theorem StepL.of {M : Model} {s s' : Shared} {t t' : Thread} (h : M.step s t = .go s' t') : StepL M s t s' t' := by
  cases hl : t.loud with
  | true => rw [M.step_loud hl] at h; cases h
  | false => rw [M.step_quiet hl] at h; exact ⟨.inl hl, h⟩
inductive ReachL (M : Model) (base : List Frame) : Shared → Sem PySem.Fin → Code → Pos → List Frame → Shared → End → Prop
  | out {s : Shared} {t : Sem PySem.Fin} {c : Code} {p : Pos} {pre : List Frame} {e : End} (x : Exits e t c p pre) : ReachL M base s t c p pre s e
  | on {s s1 s' : Shared} {t t1 : Sem PySem.Fin} {c c1 : Code} {p p1 : Pos} {pre pre1 : List Frame} {e : End} (x : StepL M s ⟨t, c, p, pre ++ base⟩ s1 ⟨t1, c1, p1, pre1 ++ base⟩) (r : ReachL M base s1 t1 c1 p1 pre1 s' e) : ReachL M base s t c p pre s' e
section
variable {M : Model}
theorem ReachL.of {base : List Frame} {s s' : Shared} {t : Sem PySem.Fin} {c : Code} {p : Pos} {pre : List Frame} {e : End} (h : Reach M base s t c p pre s' e) : ReachL M base s t c p pre s' e := by
  induction h with
  | exit hx => exact .out hx
  | step hs _ ih => exact .on (.of hs) ih
/-- a thread goes on by its own step -/
theorem ReachL.go {base : List Frame} {s s1 s' : Shared} {t t1 : Sem PySem.Fin} {c c1 : Code} {p p1 : Pos} {pre pre1 : List Frame} {e : End} (x : M.step s ⟨t, c, p, pre ++ base⟩ = .go s1 ⟨t1, c1, p1, pre1 ++ base⟩) (r : ReachL M base s1 t1 c1 p1 pre1 s' e) : ReachL M base s t c p pre s' e := .on (.of x) r
theorem ReachL.under {base B : List Frame} {s s1 s' : Shared} {t : Sem PySem.Fin} {c : Code} {p : Pos} {pre : List Frame} {e1 e : End} (h : ReachL M (B ++ base) s t c p pre s1 e1)
    (k : ∀ t' c' p' pre', Exits e1 t' c' p' pre' → ReachL M base s1 t' c' p' (pre' ++ B) s' e) : ReachL M base s t c p (pre ++ B) s' e := by
  induction h with
  | out hx => exact k _ _ _ _ hx
  | on hs _ ih => exact .on (by simpa only [List.append_assoc] using hs) (ih k)
/-- the yield's step -/
theorem stepL_yield {s : Shared} {v : Value} {g0 : Bool} {l0 : List Value} {k0 : Resume → Sem PySem.Fin} {c c' : Code} {p p' : Pos} {st fs rest : List Frame} {g : Nat} {k : GenResult → Sem PySem.Fin}
    (h : splitAtGen st = some (fs, (g, k, c', p'), rest)) (m : Mild s (.susp v g0 l0 k0 c p fs)) :
    StepL M s ⟨.yield v g0 l0 k0, c, p, st⟩ (s.setGen g (End.susp v g0 l0 k0 c p fs).genState) ⟨k (.yielded v), c', p', rest⟩ := by
  obtain ⟨m1, m2⟩ := m
  refine ⟨?_, ?_⟩
  · cases g0 with
    | false => exact .inl (by rw [Thread.loud_yield v false l0 k0 c p h]; simpa using m1)
    | true => exact .inr ⟨v, true, l0, k0, fs, _, rest, rfl, h, m1, m2 rfl⟩
  · simp only [PySem.stepK, PySem.step, h]; rfl
theorem stepL_exit {e1 : End} {t' : Sem PySem.Fin} {c' c : Code} {p' p : Pos} {pre' st : List Frame} {s1 : Shared} {g : Nat} {k : GenResult → Sem PySem.Fin} {l : List Value} (hx : Exits e1 t' c' p' pre') (m : Mild s1 e1) :
    StepL M s1 ⟨t', c', p', pre' ++ .gen g k l c p :: st⟩ (s1.setGen g e1.genState) ⟨k e1.result, c, p, st⟩ := by
  cases e1 with
  | ret r =>
    obtain ⟨rfl, rfl⟩ := hx
    exact .of (step_leaf_gen ..)
  | susp v g0 l0 k0 c0 p0 fs =>
    obtain ⟨rfl, rfl, rfl, rfl, hfs⟩ := hx
    exact stepL_yield (by rw [splitAtGen_append_none _ hfs, splitAtGen_gen]; simp) m
end
/-- a piece of a run, whatever lies below -/
def SegL (M : Model) (Γ : PySem.Ctx) (p : Pos) (t : Sem PySem.Fin) (fs : List Frame) (s : Shared) (e : End) (s' : Shared) : Prop := ∀ base, Γ.Fits base → ReachL M base s t Γ.code p fs s' e
def RetL (M : Model) (Γ : PySem.Ctx) (p : Pos) (s : Shared) (r : Result) (s' : Shared) : Prop := SegL M Γ p (M.den Γ.code) [] s (.ret r) s'
def WakL (M : Model) (Γ : PySem.Ctx) (p : Pos) (g : Nat) (r : Resume) (s : Shared) (res : GenResult) (s' : Shared) : Prop := match s.gens[g]? with
  | none => False
  | some (.fresh c) => match r with
    | .send .none => ∃ e s1, SegL M (Γ.wake c p) p (M.den c) [] (s.setGen g .running) e s1 ∧ Mild s1 e ∧ res = e.result ∧ s' = s1.setGen g e.genState
    | .send _ => res = .justStarted ∧ s' = s
    | .throw x => res = .raised x ∧ s' = s.setGen g .finished
  | some (.suspended k _ c q fs _) => ∃ e s1, SegL M (Γ.wake c p) q (k r) fs (s.setGen g .running) e s1 ∧ Mild s1 e ∧ res = e.result ∧ s' = s1.setGen g e.genState
  | some .running => res = .running ∧ s' = s
  | some .finished => res = .finished ∧ s' = s
theorem RetL.of {M : Model} {Γ : PySem.Ctx} {p : Pos} {s s' : Shared} {r : Result} (h : Returns M Γ p s r s') : RetL M Γ p s r s' := fun b hb => .of (runs_reach h b hb)
theorem SegL.of {M : Model} {Γ : PySem.Ctx} {p : Pos} {t : Sem PySem.Fin} {fs : List Frame} {s s' : Shared} {e : End} (h : Runs M Γ p t fs s e s') : SegL M Γ p t fs s e s' := fun b hb => .of (runs_reach h b hb)
theorem WakL.of {M : Model} {Γ : PySem.Ctx} {p : Pos} {g : Nat} {r : Resume} {s s' : Shared} {res : GenResult} (h : Wakes M Γ p g r s res s') : WakL M Γ p g r s res s' := by
  unfold Wakes at h
  unfold WakL
  cases hg : s.gens[g]? with
  | none => rw [hg] at h; exact h
  | some x =>
    rw [hg] at h
    cases x with
    | fresh c =>
      cases r with
      | send v =>
        cases v with
        | none =>
          obtain ⟨e, s1, h1, h2, h3, h4⟩ := h
          exact ⟨e, s1, .of h1, .of_quiet h2, h3, h4⟩
        | _ => exact h
      | throw x => exact h
    | suspended k l c q fs cl =>
      obtain ⟨e, s1, h1, h2, h3, h4⟩ := h
      exact ⟨e, s1, .of h1, .of_quiet h2, h3, h4⟩
    | running => exact h
    | finished => exact h
end Qo
-- LB
set_option maxRecDepth 100000
set_option maxHeartbeats 4000000
/-! LB: what a tree needs, over such runs. -/
namespace Qo
open PySem
section
variable {α β : Type}
/-- the tree's need, over RetL and WakL -/
def wpT (M : Model) (Γ : PySem.Ctx) (Q : α → Pos → Shared → Prop) (E : Value → Pos → Shared → Prop) : Sem α → Pos → Shared → Prop
  | .pure a => fun p s => Q a p s
  | .raise x => fun p s => E x p s
  | .unsupported _ => fun _ _ => False
  | .finish _ => fun _ _ => False
  | .rule _ k => fun p s => wpT M Γ Q E (k ()) p s
  | .at q k => fun _ s => wpT M Γ Q E (k ()) q s
  | .load a _ k => fun p s => ∃ o, s.heap.get? a = some o ∧ wpT M Γ Q E (k o) p s
  | .update a _ f k => fun p s => (s.heap.get? a).isSome = true ∧ wpT M Γ Q E (k ()) p { s with heap := s.heap.update a f }
  | .loadIfAlive a k => fun p s => wpT M Γ Q E (k (s.heap.get? a)) p s
  | .point _ k => fun p s => wpT M Γ Q E (k ()) p s
  | .register _ _ => fun _ _ => False
  | .alloc o k => fun p s => wpT M Γ Q E (k s.heap.objs.size) p { s with heap := s.heap.push o }
  | .fresh k => fun p s => wpT M Γ Q E (k s.toks) p { s with toks := s.toks + 1 }
  | .ask k => fun p s => wpT M Γ Q E (k ⟨M.prog, M.w.params⟩) p s
  | .choose src n k => fun p s => n ≠ 0 ∧ wpT M Γ Q E (k (M.w.draws src (s.drawn.get src) % n)) p { s with drawn := s.drawn.bump src }
  | .os q _ k => fun p s => wpT M Γ Q E (k (Os.step s.os q).2) p { s with os := (Os.step s.os q).1 }
  | .call c h _ _ k => fun p s => ∃ r s1, RetL M (Γ.enter c h p) p s r s1 ∧ wpT M Γ Q E (k r) p s1
  | .handled own k => fun p s => wpT M Γ Q E (k (if own then Γ.own else Γ.handled)) p s
  | .genState g k => fun p s => ∃ x, s.gens[g]? = some x ∧ wpT M Γ Q E (k x.seen) p s
  | .newGen c k => fun p s => wpT M Γ Q E (k s.gens.size) p { s with gens := s.gens.push (.fresh c) }
  | .resume g r _ k => fun p s => ∃ res s1, WakL M Γ p g r s res s1 ∧ wpT M Γ Q E (k res) p s1
  | .yield .. => fun _ _ => False
  | .stack k => fun p s => wpT M Γ Q E (k ((Γ.code, p) :: Γ.below)) p s
  | .fork .. => fun _ _ => False
  | .thread k => fun p s => wpT M Γ Q E (k 0) p s
  | .await .. => fun _ _ => False
variable {M : Model} {Γ : PySem.Ctx} {p : Pos} {s : Shared}
theorem wpT.of {Q : α → Pos → Shared → Prop} {E : Value → Pos → Shared → Prop} (t : Sem α) : ∀ {p : Pos} {s : Shared}, Sem.wp M Γ t Q E p s → wpT M Γ Q E t p s := by
  induction t with
  | pure | raise | unsupported | finish | yield | fork | await | register => intro p s h; exact h
  | rule _ k ih | «at» _ k ih | alloc _ k ih | loadIfAlive _ k ih | point _ k ih | fresh k ih | ask k ih | os _ _ k ih | handled _ k ih | newGen _ k ih | stack k ih | thread k ih => intro p s h; exact ih _ h
  | load a _ k ih | genState a k ih => intro p s h; obtain ⟨o, ho, h⟩ := h; exact ⟨o, ho, ih _ h⟩
  | update a _ f k ih | choose _ _ k ih => intro p s h; obtain ⟨ha, h⟩ := h; exact ⟨ha, ih _ h⟩
  | call c x g l k ih => intro p s h; obtain ⟨r, s1, h1, h⟩ := h; exact ⟨r, s1, .of h1, ih _ h⟩
  | resume g r l k ih => intro p s h; obtain ⟨r, s1, h1, h⟩ := h; exact ⟨r, s1, .of h1, ih _ h⟩
theorem wpT.mono {Q Q' : α → Pos → Shared → Prop} {E E' : Value → Pos → Shared → Prop} (hQ : ∀ a p s, Q a p s → Q' a p s) (hE : ∀ a p s, E a p s → E' a p s) (t : Sem α) : ∀ {p : Pos} {s : Shared}, wpT M Γ Q E t p s → wpT M Γ Q' E' t p s := by
  induction t with
  | pure a => intro p s h; exact hQ _ _ _ h
  | raise x => intro p s h; exact hE _ _ _ h
  | unsupported | finish | yield | fork | await | register => intro p s h; exact h
  | rule _ k ih | «at» _ k ih | alloc _ k ih | loadIfAlive _ k ih | point _ k ih | fresh k ih | ask k ih | os _ _ k ih | handled _ k ih | newGen _ k ih | stack k ih | thread k ih => intro p s h; exact ih _ h
  | load a _ k ih | genState a k ih => intro p s h; obtain ⟨o, ho, h⟩ := h; exact ⟨o, ho, ih _ h⟩
  | update a _ f k ih | choose _ _ k ih => intro p s h; obtain ⟨ha, h⟩ := h; exact ⟨ha, ih _ h⟩
  | call c x g l k ih => intro p s h; obtain ⟨r, s1, h1, h⟩ := h; exact ⟨r, s1, h1, ih _ h⟩
  | resume g r l k ih => intro p s h; obtain ⟨r, s1, h1, h⟩ := h; exact ⟨r, s1, h1, ih _ h⟩
theorem wpT.bind {Q : β → Pos → Shared → Prop} {E : Value → Pos → Shared → Prop} (f : α → Sem β) (t : Sem α) : ∀ {p : Pos} {s : Shared}, wpT M Γ (fun a p s => wpT M Γ Q E (f a) p s) E t p s → wpT M Γ Q E (t >>= f) p s := by
  show ∀ {p : Pos} {s : Shared}, wpT M Γ (fun a p s => wpT M Γ Q E (f a) p s) E t p s → wpT M Γ Q E (t.bind f) p s
  induction t with
  | pure | raise | unsupported | finish | yield | fork | await | register => intro p s h; exact h
  | rule _ k ih | «at» _ k ih | alloc _ k ih | loadIfAlive _ k ih | point _ k ih | fresh k ih | ask k ih | os _ _ k ih | handled _ k ih | newGen _ k ih | stack k ih | thread k ih => intro p s h; exact ih _ h
  | load a _ k ih | genState a k ih => intro p s h; obtain ⟨o, ho, h⟩ := h; exact ⟨o, ho, ih _ h⟩
  | update a _ f k ih | choose _ _ k ih => intro p s h; obtain ⟨ha, h⟩ := h; exact ⟨ha, ih _ h⟩
  | call c x g l k ih => intro p s h; obtain ⟨r, s1, h1, h⟩ := h; exact ⟨r, s1, h1, ih _ h⟩
  | resume g r l k ih => intro p s h; obtain ⟨r, s1, h1, h⟩ := h; exact ⟨r, s1, h1, ih _ h⟩
theorem wpT.tryCatch {Q : α → Pos → Shared → Prop} {E : Value → Pos → Shared → Prop} (f : Value → Sem α) (t : Sem α) : ∀ {p : Pos} {s : Shared}, wpT M Γ Q (fun x p s => wpT M Γ Q E (f x) p s) t p s → wpT M Γ Q E (t.tryCatch f) p s := by
  induction t with
  | pure | raise | unsupported | finish | yield | fork | await | register => intro p s h; exact h
  | rule _ k ih | «at» _ k ih | alloc _ k ih | loadIfAlive _ k ih | point _ k ih | fresh k ih | ask k ih | os _ _ k ih | handled _ k ih | newGen _ k ih | stack k ih | thread k ih => intro p s h; exact ih _ h
  | load a _ k ih | genState a k ih => intro p s h; obtain ⟨o, ho, h⟩ := h; exact ⟨o, ho, ih _ h⟩
  | update a _ f k ih | choose _ _ k ih => intro p s h; obtain ⟨ha, h⟩ := h; exact ⟨ha, ih _ h⟩
  | call c x g l k ih => intro p s h; obtain ⟨r, s1, h1, h⟩ := h; exact ⟨r, s1, h1, ih _ h⟩
  | resume g r l k ih => intro p s h; obtain ⟨r, s1, h1, h⟩ := h; exact ⟨r, s1, h1, ih _ h⟩
theorem wpT.onRaise {Q : α → Pos → Shared → Prop} {E : Value → Pos → Shared → Prop} (f : Value → Sem Unit) (t : Sem α) : ∀ {p : Pos} {s : Shared}, wpT M Γ Q (fun x p s => wpT M Γ (fun _ p s => E x p s) E (f x) p s) t p s → wpT M Γ Q E (t.onRaise f) p s := by
  induction t with
  | raise x => intro p s h; exact wpT.bind (fun _ => .raise x) (f x) h
  | pure | unsupported | finish | yield | fork | await | register => intro p s h; exact h
  | rule _ k ih | «at» _ k ih | alloc _ k ih | loadIfAlive _ k ih | point _ k ih | fresh k ih | ask k ih | os _ _ k ih | handled _ k ih | newGen _ k ih | stack k ih | thread k ih => intro p s h; exact ih _ h
  | load a _ k ih | genState a k ih => intro p s h; obtain ⟨o, ho, h⟩ := h; exact ⟨o, ho, ih _ h⟩
  | update a _ f k ih | choose _ _ k ih => intro p s h; obtain ⟨ha, h⟩ := h; exact ⟨ha, ih _ h⟩
  | call c x g l k ih => intro p s h; obtain ⟨r, s1, h1, h⟩ := h; exact ⟨r, s1, h1, ih _ h⟩
  | resume g r l k ih => intro p s h; obtain ⟨r, s1, h1, h⟩ := h; exact ⟨r, s1, h1, ih _ h⟩
theorem wpT.keep {Q : α → Pos → Shared → Prop} {E : Value → Pos → Shared → Prop} (vs : List Value) (t : Sem α) : ∀ {p : Pos} {s : Shared}, wpT M Γ Q E t p s → wpT M Γ Q E (t.keep vs) p s := by
  induction t with
  | pure | raise | unsupported | finish | yield | fork | await | register => intro p s h; exact h
  | rule _ k ih | «at» _ k ih | alloc _ k ih | loadIfAlive _ k ih | point _ k ih | fresh k ih | ask k ih | os _ _ k ih | handled _ k ih | newGen _ k ih | stack k ih | thread k ih => intro p s h; exact ih _ h
  | load a _ k ih | genState a k ih => intro p s h; obtain ⟨o, ho, h⟩ := h; exact ⟨o, ho, ih _ h⟩
  | update a _ f k ih | choose _ _ k ih => intro p s h; obtain ⟨ha, h⟩ := h; exact ⟨ha, ih _ h⟩
  | call c x g l k ih => intro p s h; obtain ⟨r, s1, h1, h⟩ := h; exact ⟨r, s1, h1, ih _ h⟩
  | resume g r l k ih => intro p s h; obtain ⟨r, s1, h1, h⟩ := h; exact ⟨r, s1, h1, ih _ h⟩
end
section
variable {M : Model}
/-- a tree within a piece of a run -/
theorem segL_wrap {α : Type} {Γ : PySem.Ctx} {fs : List Frame} {Φ : End → Shared → Prop} (K : α → Sem PySem.Fin) (H : Value → Sem PySem.Fin) (gd : Bool → Bool) (lv : List Value → List Value) {Q : α → Pos → Shared → Prop} {E : Value → Pos → Shared → Prop} 
    (hQ : ∀ a p s, Q a p s → ∃ e s', SegL M Γ p (K a) fs s e s' ∧ Φ e s') (hE : ∀ a p s, E a p s → ∃ e s', SegL M Γ p (H a) fs s e s' ∧ Φ e s') (m : Sem α) :
    ∀ {p : Pos} {s : Shared}, wpT M (Γ.over fs) Q E m p s → ∃ e s', SegL M Γ p (m.wrap K H gd lv) fs s e s' ∧ Φ e s' := by
  induction m with
  | pure a => intro p s h; exact hQ _ _ _ h
  | raise x => intro p s h; exact hE _ _ _ h
  | unsupported | finish | yield | fork | await | register => intro p s h; exact h.elim
  | rule _ k ih => intro p s h; obtain ⟨e, s', r, x⟩ := ih _ h; exact ⟨e, s', fun b f => .go (step_rule ..) (r b f), x⟩
  | «at» _ k ih => intro p s h; obtain ⟨e, s', r, x⟩ := ih _ h; exact ⟨e, s', fun b f => .go (step_at ..) (r b f), x⟩
  | alloc _ k ih => intro p s h; obtain ⟨e, s', r, x⟩ := ih _ h; exact ⟨e, s', fun b f => .go (step_alloc ..) (r b f), x⟩
  | loadIfAlive _ k ih => intro p s h; obtain ⟨e, s', r, x⟩ := ih _ h; exact ⟨e, s', fun b f => .go (step_loadIfAlive ..) (r b f), x⟩
  | point _ k ih => intro p s h; obtain ⟨e, s', r, x⟩ := ih _ h; exact ⟨e, s', fun b f => .go (step_point ..) (r b f), x⟩
  | fresh k ih => intro p s h; obtain ⟨e, s', r, x⟩ := ih _ h; exact ⟨e, s', fun b f => .go (step_fresh ..) (r b f), x⟩
  | ask k ih => intro p s h; obtain ⟨e, s', r, x⟩ := ih _ h; exact ⟨e, s', fun b f => .go (step_ask ..) (r b f), x⟩
  | os _ _ k ih => intro p s h; obtain ⟨e, s', r, x⟩ := ih _ h; exact ⟨e, s', fun b f => .go (step_os ..) (r b f), x⟩
  | newGen _ k ih => intro p s h; obtain ⟨e, s', r, x⟩ := ih _ h; exact ⟨e, s', fun b f => .go (step_newGen ..) (r b f), x⟩
  | thread k ih => intro p s h; obtain ⟨e, s', r, x⟩ := ih _ h; exact ⟨e, s', fun b f => .go (step_thread ..) (r b f), x⟩
  | stack k ih => intro p s h; obtain ⟨e, s', r, x⟩ := ih _ h; exact ⟨e, s', fun b f => .go (by rw [(f.over fs).below]; exact step_stack ..) (r b f), x⟩
  | handled own k ih =>
    intro p s h
    obtain ⟨e, s', r, x⟩ := ih _ h
    refine ⟨e, s', fun b f => .go ?_ (r b f), x⟩
    show M.step s ⟨.handled own fun y => (k y).wrap K H gd lv, Γ.code, p, fs ++ b⟩ = _
    rw [step_handled]
    cases own
    · rw [(f.over fs).handled]; rfl
    · rw [(f.over fs).own]; rfl
  | load a _ k ih => intro p s h; obtain ⟨o, ho, h⟩ := h; obtain ⟨e, s', r, x⟩ := ih _ h; exact ⟨e, s', fun b f => .go (step_load _ _ _ _ _ _ _ ho) (r b f), x⟩
  | update a _ g k ih => intro p s h; obtain ⟨ho, h⟩ := h; obtain ⟨e, s', r, x⟩ := ih _ h; exact ⟨e, s', fun b f => .go (step_update _ _ _ _ _ _ _ _ ho) (r b f), x⟩
  | choose _ _ k ih => intro p s h; obtain ⟨ho, h⟩ := h; obtain ⟨e, s', r, x⟩ := ih _ h; exact ⟨e, s', fun b f => .go (step_choose _ _ _ _ _ _ _ ho) (r b f), x⟩
  | genState g k ih => intro p s h; obtain ⟨o, ho, h⟩ := h; obtain ⟨e, s', r, x⟩ := ih _ h; exact ⟨e, s', fun b f => .go (step_genState _ _ _ _ _ _ ho) (r b f), x⟩
  | call c hd g l k ih =>
    intro p s h
    obtain ⟨r, s1, h1, h⟩ := h
    obtain ⟨e, s', q, x⟩ := ih _ h
    refine ⟨e, s', fun b f => ?_, x⟩
    have F := (f.over fs).enter c (fun r => (k r).wrap K H gd lv) hd (gd g) (lv l) p []
    refine .go (pre1 := .ret (fun r => (k r).wrap K H gd lv) hd (gd g) (lv l) Γ.code p [] :: fs) (step_call ..) ?_
    have h2 := h1 _ F
    have h3 : ReachL M (([.ret (fun r => (k r).wrap K H gd lv) hd (gd g) (lv l) Γ.code p []] ++ fs) ++ b) s (M.den c) c p [] s1 (.ret r) := h2
    refine ReachL.under (pre := []) h3 ?_
    rintro _ _ _ _ ⟨rfl, rfl⟩
    exact .go (pre1 := fs) (step_leaf_ret ..) (q b f)
  | resume g r l k ih =>
    intro p s h
    obtain ⟨res, s1, hw, h⟩ := h
    obtain ⟨e, s', q, x⟩ := ih _ h
    refine ⟨e, s', fun b f => ?_, x⟩
    unfold WakL at hw
    cases hg : s.gens[g]? with
    | none => rw [hg] at hw; exact hw.elim
    | some y =>
      rw [hg] at hw
      cases y with
      | fresh c =>
        have main : (∃ e1 s2, SegL M ((Γ.over fs).wake c p) p (M.den c) [] (s.setGen g .running) e1 s2 ∧ Mild s2 e1 ∧ res = e1.result ∧ s1 = s2.setGen g e1.genState) → r = .send .none → ReachL M b s ((Sem.resume g r l k).wrap K H gd lv) Γ.code p fs s' e := by
          rintro ⟨e1, s2, h1, m, rfl, rfl⟩ rfl
          refine .go (pre1 := .gen g (fun r => (k r).wrap K H gd lv) (lv l) Γ.code p :: fs) (step_resume_fresh _ _ _ _ _ _ _ hg) ?_
          have h2 := h1 _ ((f.over fs).wake c g (fun r => (k r).wrap K H gd lv) (lv l) p)
          have h3 : ReachL M (([.gen g (fun r => (k r).wrap K H gd lv) (lv l) Γ.code p] ++ fs) ++ b) (s.setGen g .running) (M.den c) c p [] s2 e1 := h2
          refine ReachL.under (pre := []) h3 fun _ _ _ _ hx => ?_
          exact .on (pre1 := fs) (by simpa only [List.append_assoc, List.cons_append, List.nil_append] using stepL_exit hx m) (q b f)
        cases r with
        | send v =>
          cases v with
          | none => exact main hw rfl
          | _ =>
            obtain ⟨rfl, rfl⟩ := hw
            exact .go (pre1 := fs) (step_resume_justStarted _ _ _ _ _ _ _ hg (fun z => by cases z)) (q b f)
        | throw z =>
          obtain ⟨rfl, rfl⟩ := hw
          exact .go (pre1 := fs) (step_resume_throwFresh _ _ _ _ _ _ _ _ hg) (q b f)
      | suspended k0 l0 c0 p0 fs0 cl =>
        obtain ⟨e1, s2, h1, m, rfl, rfl⟩ := hw
        refine .go (pre1 := fs0 ++ .gen g (fun r => (k r).wrap K H gd lv) (lv l) Γ.code p :: fs) (by
          have z := step_resume_suspended M s Γ.code p (fs ++ b) r (lv l) (fun r => (k r).wrap K H gd lv) hg
          rw [List.append_assoc]
          exact z) ?_
        have h2 := h1 _ ((f.over fs).wake c0 g (fun r => (k r).wrap K H gd lv) (lv l) p)
        have h3 : ReachL M (([.gen g (fun r => (k r).wrap K H gd lv) (lv l) Γ.code p] ++ fs) ++ b) (s.setGen g .running) (k0 r) c0 p0 fs0 s2 e1 := h2
        have h4 := ReachL.under (B := [.gen g (fun r => (k r).wrap K H gd lv) (lv l) Γ.code p] ++ fs) (base := b) (s' := s') (e := e) h3 fun _ _ _ _ hx => ?_
        · simpa using h4
        exact .on (pre1 := fs) (by simpa only [List.append_assoc, List.cons_append, List.nil_append] using stepL_exit hx m) (q b f)
      | running =>
        obtain ⟨rfl, rfl⟩ := hw
        exact .go (pre1 := fs) (step_resume_running _ _ _ _ _ _ _ _ hg) (q b f)
      | finished =>
        obtain ⟨rfl, rfl⟩ := hw
        exact .go (pre1 := fs) (step_resume_finished _ _ _ _ _ _ _ _ hg) (q b f)
end
end Qo
-- LC
set_option maxRecDepth 100000
set_option maxHeartbeats 4000000
/-! LC: the same whatever lies around; the commands; codes. -/
namespace Qo
open PySem PySem.Spec PyProof.Rows

def wpAny {α : Type} (M : Model) (A : Around) (t : Sem α) (Q : α → Shared → Prop) (E : Value → Shared → Prop) (s : Shared) : Prop := ∀ Γ p, Γ.In A → wpT M Γ (fun a _ z => Q a z) (fun x _ z => E x z) t p s
def codeAny (M : Model) (A : Around) (c : Code) (R : Result → Shared → Prop) (s : Shared) : Prop := ∀ Γ p, Γ.code = c → Γ.Below A → ∃ r z, RetL M Γ p s r z ∧ R r z
section
variable {α β : Type} {M : Model} {A : Around} {E : Value → Shared → Prop} {s : Shared} {R : Result → Shared → Prop} {c : Code}
/-- what the library knows holds here -/
theorem lf {t : Sem α} {Q : α → Shared → Prop} (h : PySem.wpAny M A t Q E s) : wpAny M A t Q E s := fun Γ p g => wpT.of t (h Γ p g)
theorem lfc (h : PySem.codeAny M A c R s) : codeAny M A c R s := fun Γ p e g => let ⟨r, z, h1, h2⟩ := h Γ p e g; ⟨r, z, .of h1, h2⟩
theorem wpAny_pure {a : α} {Q : α → Shared → Prop} (h : Q a s) : wpAny M A (pure a) Q E s := fun _ _ _ => h
theorem wpAny_throw {e : Value} {Q : α → Shared → Prop} (h : E e s) : wpAny M A (throw e : Sem α) Q E s := fun _ _ _ => h
theorem wpAny_mono {t : Sem α} {Q Q' : α → Shared → Prop} {E' : Value → Shared → Prop} (h : wpAny M A t Q E s) (hQ : ∀ a s, Q a s → Q' a s) (hE : ∀ e s, E e s → E' e s) : wpAny M A t Q' E' s :=
  fun Γ p g => wpT.mono (fun a _ z => hQ a z) (fun x _ z => hE x z) t (h Γ p g)
theorem wpAny_bind {m : Sem α} {f : α → Sem β} {Q : β → Shared → Prop} (h : wpAny M A m (fun a z => wpAny M A (f a) Q E z) E s) : wpAny M A (m >>= f) Q E s :=
  fun Γ p g => wpT.bind f m (wpT.mono (fun a q z k => k Γ q g) (fun _ _ _ k => k) m (h Γ p g))
theorem wpAny_map {m : Sem α} {f : α → β} {Q : β → Shared → Prop} (h : wpAny M A m (fun a z => Q (f a) z) E s) : wpAny M A (f <$> m) Q E s :=
  wpAny_bind (f := fun a => pure (f a)) (wpAny_mono h (fun _ _ k => wpAny_pure k) fun _ _ k => k)
theorem wpAny_tryCatch {m : Sem α} {k : Value → Sem α} {Q : α → Shared → Prop} (h : wpAny M A m Q (fun e z => wpAny M A (k e) Q E z) s) : wpAny M A (tryCatch m k) Q E s :=
  fun Γ p g => wpT.tryCatch k m (wpT.mono (fun _ _ _ x => x) (fun _ q _ x => x Γ q g) m (h Γ p g))
theorem wpAny_onRaise {m : Sem α} {k : Value → Sem Unit} {Q : α → Shared → Prop} (h : wpAny M A m Q (fun e z => wpAny M A (k e) (fun _ y => E e y) E z) s) : wpAny M A (m.onRaise k) Q E s :=
  fun Γ p g => wpT.onRaise k m (wpT.mono (fun _ _ _ x => x) (fun _ q _ x => x Γ q g) m (h Γ p g))
theorem wpAny_attempt {m : Sem α} {Q : Except Value α → Shared → Prop} (h : wpAny M A m (fun a => Q (.ok a)) (fun e => Q (.error e)) s) : wpAny M A m.attempt Q E s := by
  unfold Sem.attempt
  exact wpAny_tryCatch (wpAny_bind (wpAny_mono h (fun _ _ k => wpAny_pure k) fun _ _ k => wpAny_pure k))
theorem wpAny_keep {vs : List Value} {m : Sem α} {Q : α → Shared → Prop} (h : wpAny M A m Q E s) : wpAny M A (m.keep vs) Q E s := fun Γ p g => wpT.keep vs m (h Γ p g)
theorem wpAny_holding {vs : List Value} {m : Sem α} {Q : α → Shared → Prop} (h : wpAny M A m Q E s) : wpAny M A (holding vs m) Q E s := by
  rw [holding_eq_keep]; exact wpAny_keep h
theorem wpAny_ite {c : Prop} [Decidable c] {a b : Sem α} {Q : α → Shared → Prop} (h : if c then wpAny M A a Q E s else wpAny M A b Q E s) : wpAny M A (if c then a else b) Q E s := by
  by_cases k : c
  · rw [if_pos k] at h ⊢; exact h
  · rw [if_neg k] at h ⊢; exact h
theorem wpAny_of_eq {m : Sem α} {a : α} {Q : α → Shared → Prop} (e : m = pure a) (h : Q a s) : wpAny M A m Q E s := by rw [e]; exact wpAny_pure h
theorem wpAny_rule {tag : String} {Q : Unit → Shared → Prop} (h : Q () s) : wpAny M A (rule tag) Q E s := fun _ _ _ => h
theorem wpAny_standAt {pos : Pos} {Q : Unit → Shared → Prop} (h : Q () s) : wpAny M A (standAt pos) Q E s := fun _ _ _ => h
theorem wpAny_point {Q : Unit → Shared → Prop} (h : Q () s) : wpAny M A point Q E s := fun _ _ _ => h
theorem wpAny_run {h : Option Value} {Q : Flow → Shared → Prop} (hc : codeAny M (A.mark h) c (fun r z => match r with | .ok f => Q f z | .error e => E e z) s) (hnb : h ≠ some byPass := by intro x; cases x) : wpAny M A (run c h) Q E s := by
  intro Γ p g
  obtain ⟨r, z, h1, h2⟩ := hc _ p rfl (g.enter c h p hnb)
  refine ⟨r, z, h1, ?_⟩
  cases r <;> exact h2
theorem wpAny_runValue {Q : Value → Shared → Prop} (hc : codeAny M A c (fun r z => match r with | .ok (.ret v) => Q v z | .ok _ => False | .error e => E e z) s) : wpAny M A (runValue c) Q E s := by
  unfold runValue
  refine wpAny_bind (wpAny_run (h := none) ?_)
  intro Γ p e g
  obtain ⟨r, z, h1, h2⟩ := hc Γ p e g
  refine ⟨r, z, h1, ?_⟩
  cases r with
  | error x => exact h2
  | ok f => cases f with
    | ret v => exact wpAny_pure h2
    | _ => exact h2.elim
theorem wpAny_call {f : Value} {pos : List Value} {kw : List (Str × Value)} {Q : Value → Shared → Prop} (hc : codeAny M A (.call f ⟨pos, kw⟩) (fun r z => match r with | .ok (.ret v) => Q v z | .ok _ => False | .error e => E e z) s) : wpAny M A (call f pos kw) Q E s := wpAny_runValue hc
theorem codeAny_mono {R' : Result → Shared → Prop} (h : codeAny M A c R s) (hR : ∀ r s, R r s → R' r s) : codeAny M A c R' s := fun Γ p e g => let ⟨r, z, h1, h2⟩ := h Γ p e g; ⟨r, z, h1, hR r z h2⟩
theorem codeAny_of_in1 (h : codeAny M A.in1 c R s) : codeAny M A c R s := fun Γ p e g => h Γ p e ⟨g.1, g.2.1, g.2.2.1, g.2.2.2.1, Nat.le_succ_of_le g.2.2.2.2⟩
end
theorem wrap_self {α : Type} (m : Sem α) : m.wrap (.pure : α → Sem α) .raise id id = m := by
  induction m with
  | pure | raise | unsupported | finish => rfl
  | rule _ k ih | «at» _ k ih | alloc _ k ih | loadIfAlive _ k ih | point _ k ih | fresh k ih | ask k ih | os _ _ k ih | handled _ k ih | newGen _ k ih | stack k ih | thread k ih | load _ _ k ih | genState _ k ih | update _ _ _ k ih | choose _ _ k ih | call _ _ _ _ k ih | resume _ _ _ k ih | yield _ _ _ k ih | register _ k ih | await _ _ _ _ k ih | fork _ k ih => simp only [Sem.wrap, ih, id]
theorem over_nil (Γ : PySem.Ctx) : Γ.over [] = Γ := rfl
/-- a tree that ends in a code -/
def FinP (M : Model) (Γ : PySem.Ctx) (R : Result → Shared → Prop) : PySem.Fin → Pos → Shared → Prop
  | .done f, _, s => R (.ok f) s
  | .again c, p, s => c.quiet = true ∧ ∃ r z, RetL M (Γ.goto c) p s r z ∧ R r z
theorem ret_of {M : Model} {Γ : PySem.Ctx} {R : Result → Shared → Prop} {t : Sem PySem.Fin} {p : Pos} {s : Shared} (h : wpT M Γ (FinP M Γ R) (fun x _ z => R (.error x) z) t p s) : ∃ r z, SegL M Γ p t [] s (.ret r) z ∧ R r z := by
  have k := segL_wrap (M := M) (Γ := Γ) (fs := []) (Φ := fun e z => ∃ r, e = .ret r ∧ R r z) (.pure : PySem.Fin → Sem PySem.Fin) .raise id id (Q := FinP M Γ R) (E := fun x _ z => R (.error x) z) (fun a q z x => ?_) (fun a q z x => ⟨.ret (.error a), z, fun b f => .out ⟨rfl, rfl⟩, _, rfl, x⟩) t (p := p) (s := s) h
  · obtain ⟨e, z, k1, r, rfl, k2⟩ := k
    rw [wrap_self] at k1
    exact ⟨r, z, k1, k2⟩
  · cases a with
    | done f => exact ⟨.ret (.ok f), z, fun b f => .out ⟨rfl, rfl⟩, _, rfl, x⟩
    | again c =>
      obtain ⟨hq, r, y, k1, k2⟩ := x
      exact ⟨.ret r, y, fun b f => .go (pre1 := []) (step_again _ _ _ _ _ _ hq) (k1 b (f.goto c)), r, rfl, k2⟩
section
variable {M : Model} {A : Around} {s : Shared} {R : Result → Shared → Prop} {c : Code}
theorem codeAny_of_tree (h : wpAny M (A.under c) (M.den c) (fun fin z => match fin with | .done f => R (.ok f) z | .again c' => c'.quiet = true ∧ codeAny M A c' R z) (fun e z => R (.error e) z) s) : codeAny M A c R s := by
  intro Γ p e g
  subst e
  refine ret_of (wpT.mono (fun fin q z k => ?_) (fun _ _ _ k => k) _ (h Γ p g.in))
  cases fin with
  | done f => exact k
  | again c' => exact ⟨k.1, k.2 (Γ.goto c') q rfl (g.goto c')⟩
theorem codeAny_loop (hq : c.quiet = true) (I : Nat → Shared → Prop) (turn : ∀ n s, I n s → wpAny M (A.under c) (M.den c) (fun fin z => match fin with | .done f => R (.ok f) z | .again c' => c' = c ∧ ∃ m, m < n ∧ I m z) (fun e z => R (.error e) z) s) (n : Nat) (h : I n s) : codeAny M A c R s := by
  induction n using Nat.strongRecOn generalizing s with
  | ind n ih =>
    refine codeAny_of_tree (wpAny_mono (turn n s h) (fun fin z k => ?_) fun _ _ k => k)
    cases fin with
    | done f => exact k
    | again c' =>
      obtain ⟨rfl, m, hm, k⟩ := k
      exact ⟨hq, ih m hm k⟩
theorem codeAny_loop' (hq : c.quiet = true) (I : Nat → Shared → Prop) (turn : ∀ n s, I n s → wpAny M (A.under c) (M.den c) (fun fin z => match fin with | .done f => R (.ok f) z | .again c' => (c' = c ∧ ∃ m, m < n ∧ I m z) ∨ (c'.quiet = true ∧ codeAny M A c' R z)) (fun e z => R (.error e) z) s) (n : Nat) (h : I n s) : codeAny M A c R s := by
  induction n using Nat.strongRecOn generalizing s with
  | ind n ih =>
    refine codeAny_of_tree (wpAny_mono (turn n s h) (fun fin z k => ?_) fun _ _ k => k)
    cases fin with
    | done f => exact k
    | again c' =>
      rcases k with ⟨rfl, m, hm, k⟩ | k
      · exact ⟨hq, ih m hm k⟩
      · exact k
end
end Qo
-- LD
set_option maxRecDepth 100000
set_option maxHeartbeats 4000000
/-! LD: the nodes of the text, over this logic. -/
namespace Qo
open PySem PySem.Spec PyProof.Rows
section
variable {α β : Type} {M : Model} {A : Around} {E : Value → Shared → Prop} {s : Shared} {env : Env}
/-- one behind the other -/
theorem bb {m : Sem α} {f : α → Sem β} {P : α → Shared → Prop} {Q : β → Shared → Prop} (h : wpAny M A m P E s) (k : ∀ a z, P a z → wpAny M A (f a) Q E z) : wpAny M A (m >>= f) Q E s := wpAny_bind (wpAny_mono h k fun _ _ x => x)
theorem bp {f : Unit → Sem β} {p : Pos} {Q : β → Shared → Prop} (h : wpAny M A (f ()) Q E s) : wpAny M A (standAt p >>= f) Q E s := wpAny_bind (wpAny_standAt h)
theorem wpAny_release {vs keep : List Value} {Q : Unit → Shared → Prop} (h : Q () s) : wpAny M A (release vs keep) Q E s := lf (PySem.wpAny_release h)
theorem wpAny_operate' {vs : List Value} {m : Sem Value} {Q : Value → Shared → Prop} (h : wpAny M A m Q E s) : wpAny M A (operate vs m) Q E s := by
  unfold operate
  exact bb (wpAny_holding h) fun a z k => wpAny_bind (wpAny_release (wpAny_pure k))
theorem wpAny_operating {vs : List Value} {m : Sem Value} {Q : Value → Shared → Prop} (h : wpAny M A m Q E s) : wpAny M A (operate vs m) Q E s := wpAny_operate' h
theorem wpAny_bindName {x : Str} {v : Value} {Q : Unit → Shared → Prop} (h : wpAny M A (storeName env x v) Q E s) : wpAny M A (bindName env x v) Q E s := by
  unfold bindName
  exact wpAny_bind (wpAny_holding (wpAny_point (bb h fun a z k => wpAny_point k)))
theorem wpAny_execs_nil {Q : Flow → Shared → Prop} (h : Q .next s) : wpAny M A (execs [] env) Q E s := fun _ _ _ => h
theorem wpAny_execs_cons {st : Stmt} {rest : List Stmt} {Q : Flow → Shared → Prop} (h : wpAny M A (exec st env) (fun f z => match f with | .next => wpAny M A (execs rest env) Q E z | f => Q f z) E s) : wpAny M A (execs (st :: rest) env) Q E s := by
  rw [execs_cons]
  refine bb h fun f z k => ?_
  cases f with
  | next => exact k
  | _ => exact wpAny_pure k
theorem wpAny_Name {x : Str} {pos : Pos} {Q : Value → Shared → Prop} (h : wpAny M A (loadName env x) Q E s) (hd : (x == ("__debug__" : Str)) = false := by decide) : wpAny M A (eval (.Name x pos) env) Q E s := by
  rw [eval_Name env x pos hd]; exact bp h
theorem wpAny_Compare1 {l r : Expr} {op : CmpOp} {pos : Pos} {Q : Value → Shared → Prop} (h : wpAny M A (eval l env) (fun a z => wpAny M A (eval r env) (fun b y => wpAny M A (compareOp op a b) Q E y) E z) E s) (hm : behindInMarks op r = false := by with_unfolding_all rfl) : wpAny M A (eval (.Compare l [op] [r] pos) env) Q E s := by
  rw [eval_Compare1, markedBehindIn_of_false hm]
  exact bb h fun a z k => bb (wpAny_holding k) fun b y k => bp (wpAny_operate' k)
theorem wpAny_BinOp {l r : Expr} {op : Operator} {pos : Pos} {Q : Value → Shared → Prop} (h : wpAny M A (eval l env) (fun a z => wpAny M A (eval r env) (fun b y => wpAny M A (binaryOp op a b) Q E y) E z) E s) : wpAny M A (eval (.BinOp l op r pos) env) Q E s := by
  rw [eval_BinOp]
  exact bb h fun a z k => bb (wpAny_holding k) fun b y k => bp (wpAny_operate' k)
theorem wpAny_Pass {pos : Pos} {Q : Flow → Shared → Prop} (h : Q .next s) : wpAny M A (exec (.Pass pos) env) Q E s := lf (PySem.wpAny_Pass h)
theorem wpAny_Break {pos : Pos} {Q : Flow → Shared → Prop} (h : Q .brk s) : wpAny M A (exec (.Break pos) env) Q E s := lf (PySem.wpAny_Break h)
theorem wpAny_Continue {pos : Pos} {Q : Flow → Shared → Prop} (h : Q .cont s) : wpAny M A (exec (.Continue pos) env) Q E s := lf (PySem.wpAny_Continue h)
theorem wpAny_Assign_Name {x : Str} {p2 pos : Pos} {value : Expr} {Q : Flow → Shared → Prop} (h : wpAny M A (eval value env) (fun v z => wpAny M A (storeName env x v) (fun _ => Q .next) E z) E s) (hs : swapsWith value (some (.Name x p2)) pos.line env = pure false := by rfl) : wpAny M A (exec (.Assign [.Name x p2] value pos) env) Q E s := by
  rw [exec_Assign_Name env x p2 value pos hs]
  exact bp (bb h fun v z k => bp (bb (wpAny_bindName k) fun _ y k => wpAny_pure k))
theorem wpAny_AugAssign_Name {x : Str} {p2 pos : Pos} {op : Operator} {value : Expr} {Q : Flow → Shared → Prop} (h : wpAny M A (loadName env x) (fun old z => wpAny M A (eval value env) (fun v y => wpAny M A (inplaceOp op old v) (fun r z => wpAny M A (storeName env x r) (fun _ => Q .next) E z) E y) E z) E s) : wpAny M A (exec (.AugAssign (.Name x p2) op value pos) env) Q E s := by
  rw [exec_AugAssign_Name]
  exact bp (bb h fun old z k => bb (wpAny_holding k) fun v y k => bp (bb (wpAny_operate' k) fun r z k => bp (bb (wpAny_bindName k) fun _ y k => wpAny_pure k)))
theorem wpAny_isTrue_Compare1 {l r : Expr} {op : CmpOp} {pos : Pos} {whole : Sem Value} {Q : Bool → Shared → Prop} (h : wpAny M A (eval l env) (fun a z => wpAny M A (eval r env) (fun b y => wpAny M A (compareOp op a b) (fun c x => wpAny M A (truthy c) Q E x) E y) E z) E s) (hm : behindInMarks op r = false := by with_unfolding_all rfl) : wpAny M A (isTrue (.Compare l [op] [r] pos) env whole) Q E s := by
  rw [isTrue_Compare1, markedBehindIn_of_false hm]
  exact bb h fun a z k => bb (wpAny_holding k) fun b y k => bp (bb (wpAny_operate' k) fun c x k => wpAny_holding k)
theorem wpAny_If {test : Expr} {body orelse : List Stmt} {pos : Pos} {Q : Flow → Shared → Prop} (h : wpAny M A (isTrue test env (eval test env)) (fun b z => if b then wpAny M A (execs body env) Q E z else wpAny M A (execs orelse env) Q E z) E s) : wpAny M A (exec (.If test body orelse pos) env) Q E s := by
  rw [exec_If]
  refine bp (bb h fun b z k => ?_)
  cases b <;> exact k
theorem wpAny_IfExp {test body orelse : Expr} {pos : Pos} {Q : Value → Shared → Prop} (h : wpAny M A (isTrue test env (eval test env)) (fun b z => if b then wpAny M A (eval body env) Q E z else wpAny M A (eval orelse env) Q E z) E s) : wpAny M A (eval (.IfExp test body orelse pos) env) Q E s := by
  rw [arm_eval_IfExp]
  refine bb h fun b z k => ?_
  cases b <;> exact k
def cameBackBy (M : Model) (A : Around) (env : Env) (E : Value → Shared → Prop) : Value → Shared → Prop := fun x z => wpAny M A (do
    if (← field x 1) == .none then unsupported "frame.own-activation:exception-without-traceback"
    setFlight x env.frame) (fun _ y => E x y) E z
theorem wpAny_runOwn {c : Code} {h : Option Value} {Q : Flow → Shared → Prop} (hc : codeAny M (A.mark h) c (fun r z => match r with | .ok f => Q f z | .error e => cameBackBy M A env E e z) s) (hnb : h ≠ some byPass := by intro x; cases x) : wpAny M A (runOwn c env h) Q E s := by
  unfold runOwn
  exact wpAny_onRaise (wpAny_run hc hnb)
theorem wpAny_While {test : Expr} {body orelse : List Stmt} {pos : Pos} {Q : Flow → Shared → Prop} (h : codeAny M A (.whileLoop test body orelse env) (fun r z => match r with | .ok f => Q f z | .error e => cameBackBy M A env E e z) s) : wpAny M A (exec (.While test body orelse pos) env) Q E s := by
  rw [exec_While]; exact bp (wpAny_runOwn h)
theorem wpAny_Return_some {e : Expr} {pos : Pos} {Q : Flow → Shared → Prop} (h : wpAny M A (eval e env) (fun v => Q (.ret v)) E s) : wpAny M A (exec (.Return (some e) pos) env) Q E s := by
  rw [exec_Return_some]; exact bp (bb h fun v z k => wpAny_pure k)
theorem wpAny_Return_none {pos : Pos} {Q : Flow → Shared → Prop} (h : Q (.ret .none) s) : wpAny M A (exec (.Return none pos) env) Q E s := fun _ _ _ => h
theorem UnaryOp_ {op : UnaryOp} {x : Expr} {pos : Pos} {Q : Value → Shared → Prop} (h : wpAny M A (eval x env) (fun v z => wpAny M A (unaryOp op v) Q E z) E s) : wpAny M A (eval (.UnaryOp op x pos) env) Q E s := by
  rw [eval_UnaryOp]; exact bb h fun v z k => bp (wpAny_holding k)
theorem not_of {v : Value} {Q : Value → Shared → Prop} (h : wpAny M A (truthy v) (fun c z => Q (.bool (!c)) z) E s) : wpAny M A (unaryOp .Not v) Q E s := by
  unfold unaryOp
  exact wpAny_holding (wpAny_bind (m := truthy v) (wpAny_mono h (fun c z k => wpAny_pure k) fun _ _ k => k))
theorem isTrue_plain {e : Expr} {whole : Sem Value} {Q : Bool → Shared → Prop} (h : wpAny M A whole (fun v z => wpAny M A (truthy v) Q E z) E s) (he : isTrue e env whole = (do let v ← whole; standAt e.pos; holding [v] (truthy v)) := by rfl) : wpAny M A (isTrue e env whole) Q E s := by
  rw [he]; exact bb h fun v z k => bp (wpAny_holding k)
theorem isTrue_not {x : Expr} {pos : Pos} {whole : Sem Value} {Q : Bool → Shared → Prop} (h : wpAny M A (isTrue x env (eval x env)) (fun c z => Q (!c) z) E s) : wpAny M A (isTrue (.UnaryOp .Not x pos) env whole) Q E s := by
  show wpAny M A (isTrue x env (eval x env) >>= fun c => pure (!c)) Q E s
  exact bb h fun c z k => wpAny_pure k
theorem isTrue_and {x : Expr} {rest : List Expr} {pos : Pos} {whole : Sem Value} {Q : Bool → Shared → Prop} (h : wpAny M A (isTrue x env (eval x env)) (fun c z => if c then wpAny M A (isTrue (.BoolOp .And rest pos) env whole) Q E z else Q false z) E s) : wpAny M A (isTrue (.BoolOp .And (x :: rest) pos) env whole) Q E s := by
  show wpAny M A (isTrue x env (eval x env) >>= fun c => match BoolOp.And, c with | .And, false => pure false | .Or, true => pure true | _, _ => allTrue .And rest env) Q E s
  refine bb h fun c z k => ?_
  cases c with
  | false => exact wpAny_pure k
  | true => exact k
theorem isTrue_or {x : Expr} {rest : List Expr} {pos : Pos} {whole : Sem Value} {Q : Bool → Shared → Prop} (h : wpAny M A (isTrue x env (eval x env)) (fun c z => if c then Q true z else wpAny M A (isTrue (.BoolOp .Or rest pos) env whole) Q E z) E s) : wpAny M A (isTrue (.BoolOp .Or (x :: rest) pos) env whole) Q E s := by
  show wpAny M A (isTrue x env (eval x env) >>= fun c => match BoolOp.Or, c with | .And, false => pure false | .Or, true => pure true | _, _ => allTrue .Or rest env) Q E s
  refine bb h fun c z k => ?_
  cases c with
  | false => exact k
  | true => exact wpAny_pure k
theorem isTrue_and_nil {pos : Pos} {whole : Sem Value} {Q : Bool → Shared → Prop} (h : Q true s) : wpAny M A (isTrue (.BoolOp .And [] pos) env whole) Q E s := lf (PyProof.Rows.isTrue_and_nil h)
theorem isTrue_or_nil {pos : Pos} {whole : Sem Value} {Q : Bool → Shared → Prop} (h : Q false s) : wpAny M A (isTrue (.BoolOp .Or [] pos) env whole) Q E s := lf (PyProof.Rows.isTrue_or_nil h)
theorem Compare_chain {l r₁ r₂ : Expr} {op₁ op₂ : CmpOp} {ops : List CmpOp} {rs : List Expr} {pos : Pos} {Q : Value → Shared → Prop} (h : wpAny M A (eval l env) (fun a z => wpAny M A (compareChain pos a (op₁ :: op₂ :: ops) (eval r₁ env :: eval r₂ env :: evalEach rs env)) Q E z) E s) (hm : lastMarks (op₁ :: op₂ :: ops) (r₁ :: r₂ :: rs) = false := by with_unfolding_all rfl) : wpAny M A (eval (.Compare l (op₁ :: op₂ :: ops) (r₁ :: r₂ :: rs) pos) env) Q E s := by
  show wpAny M A (eval l env >>= fun a => compareChain pos a (op₁ :: op₂ :: ops) (markedEach (op₁ :: op₂ :: ops) (r₁ :: r₂ :: rs) (evalEach (r₁ :: r₂ :: rs) env))) Q E s
  rw [markedEach_of_false _ _ _ hm]; exact wpAny_bind h
theorem isTrue_chain {l r₁ r₂ : Expr} {op₁ op₂ : CmpOp} {ops : List CmpOp} {rs : List Expr} {pos : Pos} {whole : Sem Value} {Q : Bool → Shared → Prop} (h : wpAny M A (eval l env) (fun a z => wpAny M A (testChain pos a (op₁ :: op₂ :: ops) (eval r₁ env :: eval r₂ env :: evalEach rs env)) Q E z) E s) (hm : lastMarks (op₁ :: op₂ :: ops) (r₁ :: r₂ :: rs) = false := by with_unfolding_all rfl) : wpAny M A (isTrue (.Compare l (op₁ :: op₂ :: ops) (r₁ :: r₂ :: rs) pos) env whole) Q E s := by
  show wpAny M A (eval l env >>= fun a => testChain pos a (op₁ :: op₂ :: ops) (markedEach (op₁ :: op₂ :: ops) (r₁ :: r₂ :: rs) (evalEach (r₁ :: r₂ :: rs) env))) Q E s
  rw [markedEach_of_false _ _ _ hm]; exact wpAny_bind h
theorem chain_last {pos : Pos} {a : Value} {op : CmpOp} {r : Sem Value} {Q : Value → Shared → Prop} (h : wpAny M A r (fun b z => wpAny M A (compareOp op a b) Q E z) E s) : wpAny M A (compareChain pos a [op] [r]) Q E s := by
  show wpAny M A (holding [a] r >>= fun rv => standAt pos >>= fun _ => operate [a, rv] (compareOp op a rv)) Q E s
  exact bb (wpAny_holding h) fun b z k => bp (wpAny_operate' k)
theorem test_last {pos : Pos} {a : Value} {op : CmpOp} {r : Sem Value} {Q : Bool → Shared → Prop} (h : wpAny M A r (fun b z => wpAny M A (compareOp op a b) (fun c y => wpAny M A (truthy c) Q E y) E z) E s) : wpAny M A (testChain pos a [op] [r]) Q E s := by
  show wpAny M A (holding [a] r >>= fun rv => standAt pos >>= fun _ => operate [a, rv] (compareOp op a rv) >>= fun c => holding [c] (truthy c)) Q E s
  exact bb (wpAny_holding h) fun b z k => bp (bb (wpAny_operate' k) fun c y k => wpAny_holding k)
theorem chain_link {pos : Pos} {a : Value} {op op' : CmpOp} {ops : List CmpOp} {r r' : Sem Value} {rs : List (Sem Value)} {Q : Value → Shared → Prop} (h : wpAny M A r (fun b z => wpAny M A (compareOp op a b) (fun c y => wpAny M A (truthy c) (fun t x => if t then wpAny M A (compareChain pos b (op' :: ops) (r' :: rs)) Q E x else Q c x) E y) E z) E s) : wpAny M A (compareChain pos a (op :: op' :: ops) (r :: r' :: rs)) Q E s := by
  show wpAny M A (holding [a] r >>= fun rv => standAt pos >>= fun _ => holding [a, rv] (compareOp op a rv) >>= fun c => release [a, rv] [c] >>= fun _ => holding [c, rv] (truthy c) >>= fun t => if t = true then compareChain pos rv (op' :: ops) (r' :: rs) else pure c) Q E s
  refine bb (wpAny_holding h) fun b z k => bp (bb (wpAny_holding k) fun c y k => wpAny_bind (wpAny_release (bb (wpAny_holding k) fun t x k => ?_)))
  cases t with
  | false => exact wpAny_pure k
  | true => exact k
theorem test_link {pos : Pos} {a : Value} {op op' : CmpOp} {ops : List CmpOp} {r r' : Sem Value} {rs : List (Sem Value)} {Q : Bool → Shared → Prop} (h : wpAny M A r (fun b z => wpAny M A (compareOp op a b) (fun c y => wpAny M A (truthy c) (fun t x => if t then wpAny M A (testChain pos b (op' :: ops) (r' :: rs)) Q E x else Q false x) E y) E z) E s) : wpAny M A (testChain pos a (op :: op' :: ops) (r :: r' :: rs)) Q E s := by
  show wpAny M A (holding [a] r >>= fun rv => standAt pos >>= fun _ => holding [a, rv] (compareOp op a rv) >>= fun c => release [a, rv] [c] >>= fun _ => holding [c, rv] (truthy c) >>= fun t => if t = true then testChain pos rv (op' :: ops) (r' :: rs) else pure false) Q E s
  refine bb (wpAny_holding h) fun b z k => bp (bb (wpAny_holding k) fun c y k => wpAny_bind (wpAny_release (bb (wpAny_holding k) fun t x k => ?_)))
  cases t with
  | false => exact wpAny_pure k
  | true => exact k
theorem Subscript_ {value slice : Expr} {pos : Pos} {Q : Value → Shared → Prop} (h : wpAny M A (eval value env) (fun o z => wpAny M A (eval slice env) (fun i y => wpAny M A (subscriptTail value slice o i) Q E y) E z) E s) : wpAny M A (eval (.Subscript value slice pos) env) Q E s := by
  rw [eval_Subscript]; exact bb h fun o z k => bb (wpAny_holding k) fun i y k => bp k
theorem Tuple_ {elts : List Expr} {k : Nat} {pos : Pos} {Q : Value → Shared → Prop} (h : wpAny M A (spliced (backTo pos (starEach elts env))) (fun vs z => wpAny M A (newTuple vs) Q E z) E s) : wpAny M A (eval (.Tuple elts k pos) env) Q E s := by
  show wpAny M A (standAt pos >>= fun _ => spliced (backTo pos (starEach elts env)) >>= fun vs => newTuple vs) Q E s
  exact bp (wpAny_bind h)
theorem assignInOrder_cons {t : Value → Sem Unit} {ts : List (Value → Sem Unit)} {x : Value} {xs : List Value} {Q : Unit → Shared → Prop} (h : wpAny M A (t x) (fun _ z => wpAny M A (assignInOrder ts xs) Q E z) E s) : wpAny M A (assignInOrder (t :: ts) (x :: xs)) Q E s := by
  show wpAny M A (holding xs (t x) >>= fun _ => assignInOrder ts xs) Q E s
  exact wpAny_bind (wpAny_holding h)
theorem assign_Name {x : Str} {pos : Pos} {v : Value} {Q : Unit → Shared → Prop} (h : wpAny M A (storeName env x v) Q E s) : wpAny M A (assign (.Name x pos) env v) Q E s := by
  show wpAny M A (standAt pos >>= fun _ => bindName env x v) Q E s
  exact bp (wpAny_bindName h)
theorem wpAny_Assign_stores {targets : List Expr} {value : Expr} {pos : Pos} {Q : Flow → Shared → Prop} (h : wpAny M A (eval value env) (fun v z => wpAny M A (assignAll v ((assignEach targets env).map (·.2))) (fun _ => Q .next) E z) E s) (hs : swapsWithSole targets value pos.line env = pure false) (hw : swappedStores targets value env = pure none) : wpAny M A (exec (.Assign targets value pos) env) Q E s := by
  rw [exec_Assign_arm]
  refine bp ?_
  rw [hs]
  refine wpAny_bind (wpAny_pure ?_)
  rw [if_neg (by decide)]
  refine bb h fun v z k => ?_
  rw [hw]
  refine wpAny_bind (wpAny_pure ?_)
  show wpAny M A (assignAll v ((assignEach targets env).map (·.2)) >>= fun _ => pure .next) Q E z
  exact bb k fun _ y k => wpAny_pure k
theorem wpAny_For {target iter : Expr} {body orelse : List Stmt} {pos : Pos} {Q : Flow → Shared → Prop} (h : wpAny M A (eval iter env) (fun x z => wpAny M A (pyIter x) (fun it y => codeAny M A (.forLoop target it body orelse env) (fun r x => match r with | .ok f => Q f x | .error e => cameBackBy M A env E e x) y) E z) E s) (hs : ∀ x, foldedSetIterable iter env x = pure x := by intro _; rfl) : wpAny M A (exec (.For target iter body orelse pos) env) Q E s := by
  rw [exec_For]
  exact bp (bb h fun x z k => wpAny_bind (wpAny_of_eq (hs x) (bp (bb (wpAny_holding k) fun it y k => wpAny_runOwn k))))
theorem Call_ {func : Expr} {args : List Expr} {pos : Pos} {Q : Value → Shared → Prop} (h : wpAny M A (eval func env) (fun f z => wpAny M A (callWith pos f [] (backTo pos (starEach args env)) []) Q E z) E s) (he : eval (.Call func args [] pos) env = (do callWith pos (← eval func env) [] (backTo pos (starEach args env)) (backToKw pos (keywordEach [] env))) := by rfl) : wpAny M A (eval (.Call func args [] pos) env) Q E s := by
  rw [he]; exact wpAny_bind h
theorem wpAny_Call_Name_kw {id : Str} {p pos : Pos} {args : List Expr} {keywords : List Keyword} {Q : Value → Shared → Prop} (h : wpAny M A (eval (.Name id p) env) (fun f z => wpAny M A (callWith pos f [] (backTo pos (starEach args env)) (backToKw pos (keywordEach keywords env))) Q E z) E s) : wpAny M A (eval (.Call (.Name id p) args keywords pos) env) Q E s := by
  rw [arm_eval_Call_Name']; exact wpAny_bind h
end
namespace Calls
section
variable {M : Model} {A : Around} {E : Value → Shared → Prop} {s : Shared} {env : Env}
theorem spliced_nil {Q : List Value → Shared → Prop} (h : Q [] s) : wpAny M A (spliced []) Q E s := lf (PySem.Calls.spliced_nil h)
theorem spliced_cons {x : Sem Value} {rest : List (Bool × Sem Value)} {Q : List Value → Shared → Prop} (h : wpAny M A x (fun v z => wpAny M A (spliced rest) (fun vs y => Q (v :: vs) y) E z) E s) : wpAny M A (spliced ((false, x) :: rest)) Q E s := by
  rw [spliced]
  refine bb h fun v z k => ?_
  simp only [Bool.false_eq_true, if_false]
  exact wpAny_bind (wpAny_pure (bb (wpAny_holding k) fun vs y k => wpAny_pure k))
theorem evalArgs_plain {f : Value} {x : Sem Value} {rest : List (Bool × Sem Value)} {Q : Args → Shared → Prop} (h : wpAny M A (spliced ((false, x) :: rest)) (fun vs z => Q ⟨vs, []⟩ z) E s) : wpAny M A (evalArgs f true ((false, x) :: rest) []) Q E s := by
  unfold evalArgs
  show wpAny M A (spliced ((false, x) :: rest) >>= _) Q E s
  refine bb h fun vs z k => wpAny_holding ?_
  exact wpAny_bind (wpAny_pure (wpAny_bind (wpAny_pure (wpAny_pure k))))
theorem callTail {t : Sem Value} {Q : Value → Shared → Prop} (h : wpAny M A t Q E s) : wpAny M A (t >>= fun r => holding [r] point >>= fun _ => pure r) Q E s := bb h fun r z k => wpAny_bind (wpAny_holding (wpAny_point (wpAny_pure k)))
theorem callWith_builtin {pos : Pos} {id : String} {first : List Value} {args : List (Bool × Sem Value)} {Q : Value → Shared → Prop} (hp : args.any (·.1) = false) (h : wpAny M A (evalArgs (.builtin id) true args []) (fun a z => wpAny M A (call (.builtin id) (first ++ a.pos) a.kw) Q E z) E s) : wpAny M A (callWith pos (.builtin id) first args []) Q E s := by
  unfold callWith
  refine bb (wpAny_holding h) fun a z k => bp ?_
  simp only [hp, List.any_nil, Bool.or_false]
  exact wpAny_bind (wpAny_pure (callTail k))
theorem callWith_type {pos : Pos} {T : String} {first : List Value} {args : List (Bool × Sem Value)} {Q : Value → Shared → Prop} (hp : args.any (·.1) = false) (h : wpAny M A (evalArgs (.type T) true args []) (fun a z => wpAny M A (call (.type T) (first ++ a.pos) a.kw) Q E z) E s) : wpAny M A (callWith pos (.type T) first args []) Q E s := by
  unfold callWith
  refine bb (wpAny_holding h) fun a z k => bp ?_
  simp only [hp, List.any_nil, Bool.or_false]
  exact wpAny_bind (wpAny_pure (callTail k))
end
end Calls
section
variable {M : Model} {A : Around} {E : Value → Shared → Prop} {s : Shared} {env : Env}
theorem callWith_builtin1 {pos : Pos} {id : String} {e : Expr} {rest : List Expr} {Q : Value → Shared → Prop} (h : wpAny M A (spliced (backTo pos (starEach (e :: rest) env))) (fun vs z => wpAny M A (call (.builtin id) vs) Q E z) E s) (he : starEach (e :: rest) env = (false, eval e env) :: starEach rest env := by rfl) (hp : (backTo pos (starEach rest env)).any (·.1) = false := by rfl) : wpAny M A (callWith pos (.builtin id) [] (backTo pos (starEach (e :: rest) env)) []) Q E s := by
  rw [he] at h ⊢
  exact Calls.callWith_builtin (by show (false || (backTo pos (starEach rest env)).any (·.1)) = false; rw [hp]; rfl) (Calls.evalArgs_plain h)
theorem callWith_type1 {pos : Pos} {T : String} {e : Expr} {rest : List Expr} {Q : Value → Shared → Prop} (h : wpAny M A (spliced (backTo pos (starEach (e :: rest) env))) (fun vs z => wpAny M A (call (.type T) vs) Q E z) E s) (he : starEach (e :: rest) env = (false, eval e env) :: starEach rest env := by rfl) (hp : (backTo pos (starEach rest env)).any (·.1) = false := by rfl) : wpAny M A (callWith pos (.type T) [] (backTo pos (starEach (e :: rest) env)) []) Q E s := by
  rw [he] at h ⊢
  exact Calls.callWith_type (by show (false || (backTo pos (starEach rest env)).any (·.1)) = false; rw [hp]; rfl) (Calls.evalArgs_plain h)
/-- a call of what is known to be kept -/
theorem callWith_of {f : Value} {first : List Value} {pos : Pos} {P : Heap → Prop} {args : List (Bool × Sem Value)} {keywords : List (Option Str × Sem Value)} {Q : Value → Shared → Prop} (hp : (args.any (·.1) || keywords.any (·.1.isNone)) = false)
    (hk : ∀ h, P h → ∃ k, (k = Keeper.frame ∨ k = Keeper.machine ∨ k = Keeper.boundFrame) ∧ PySem.W.Looks M h (keeperOf f) k) (h : wpAny M A (evalArgs f true args keywords) (fun a z => P z.heap ∧ wpAny M A (call f (first ++ a.pos) a.kw) Q E z) E s) : wpAny M A (callWith pos f first args keywords) Q E s := by
  unfold callWith
  refine bb (wpAny_holding h) fun a z k => bp ?_
  obtain ⟨kk, hk', L⟩ := hk _ k.1
  simp only [hp]
  refine wpAny_bind (lf (L.here ?_))
  have marked : ∀ mk : Value, wpAny M A (callMarked mk f (first ++ a.pos) a.kw) Q E z := fun mk => by unfold callMarked; exact wpAny_keep k.2
  rcases hk' with rfl | rfl | rfl <;> dsimp only <;> first | exact Calls.callTail k.2 | (split <;> first | exact Calls.callTail k.2 | exact Calls.callTail (marked _))
end
end Qo
-- LE
set_option maxRecDepth 100000
set_option maxHeartbeats 4000000
/-! LE: codes: calls, loops, comprehensions. -/
namespace Qo
open PySem PySem.Spec PyProof.Rows
section
variable {M : Model} {A : Around} {E : Value → Shared → Prop} {s : Shared} {env : Env}
def notedBy (M : Model) (A : Around) (env : Env) (E : Value → Shared → Prop) : Value → Shared → Prop := fun x z => wpAny M A (noteFrame x env) (fun _ y => E x y) E z
theorem wpAny_theTreesLotGoes {x : Value} {Q : Unit → Shared → Prop} (h : Q () s) : wpAny M A (theTreesLotGoes x) Q E s := lf (PySem.wpAny_theTreesLotGoes h)
theorem wpAny_noted {α : Type} {m : Sem α} {Q : α → Shared → Prop} (h : wpAny M A m Q (notedBy M A env E) s) : wpAny M A (m.onRaise fun x => do noteFrame x env; theTreesLotGoes x) Q E s :=
  wpAny_onRaise (wpAny_mono h (fun _ _ q => q) fun _ _ k => bb k fun _ _ k => wpAny_theTreesLotGoes k)
theorem wpAny_notedAt {α : Type} {m : Sem α} {pos : Pos} {Q : α → Shared → Prop} (h : wpAny M A m Q (notedBy M A env E) s) : wpAny M A (m.onRaise fun x => do noteFrame x env; standAt pos) Q E s :=
  wpAny_onRaise (wpAny_mono h (fun _ _ q => q) fun _ _ k => bb k fun _ _ k => wpAny_standAt k)
end
section
variable {prog : Program} {w : World} {A : Around} {E : Value → Shared → Prop} {R : Result → Shared → Prop} {s : Shared} {env : Env}
theorem wpAny_dropValue {e : Expr} {pos : Pos} {v : Value} {Q : Flow → Shared → Prop} (h : Q .next s) : wpAny (model prog w) A (dropValue e pos v) Q E s := lf (PySem.wpAny_dropValue h)
theorem wpAny_Expr_any {e : Expr} {pos : Pos} {Q : Flow → Shared → Prop} (h : wpAny (model prog w) A (eval e env) (fun _ => Q .next) E s) (hi : interactive env = false := by rfl) (hs : swapsWith e none pos.line env = pure false := by rfl) : wpAny (model prog w) A (exec (.Expr e pos) env) Q E s := by
  rw [exec_Expr env e pos hi hs]
  exact bp (bb h fun v z k => wpAny_dropValue k)
theorem wpAny_List_spliced {elts : List Expr} {pos : Pos} {Q : Value → Shared → Prop} (h : wpAny (model prog w) A (spliced (backTo pos (starEach elts env))) (fun vs z => vs.length ≤ sizeLine ∧ Q (.ref z.heap.objs.size) { z with heap := z.heap.push { cls := .type "list", data := .seq vs.toArray } }) E s) : wpAny (model prog w) A (eval (.List elts pos) env) Q E s := by
  rw [arm_eval_List]
  exact bp (bb h fun vs z k => lf (wpAny_newList k.2 k.1))
theorem wpAny_Tuple_spliced {elts : List Expr} {x1 : Nat} {pos : Pos} {Q : Value → Shared → Prop} (h : wpAny (model prog w) A (spliced (backTo pos (starEach elts env))) (fun vs z => vs.length ≤ sizeLine ∧ Q (.ref z.heap.objs.size) { z with heap := z.heap.push { cls := .type "tuple", data := .seq vs.toArray } }) E s) : wpAny (model prog w) A (eval (.Tuple elts x1 pos) env) Q E s := by
  rw [arm_eval_Tuple]
  exact bp (bb h fun vs z k => lf (wpAny_newTuple k.2 k.1))
theorem wpAny_Slice {lower upper step : Option Expr} {p : Pos} {Q : Value → Shared → Prop} (h : wpAny (model prog w) A (evalPart lower env) (fun l z => wpAny (model prog w) A (evalPart upper env) (fun u y => wpAny (model prog w) A (evalPart step env) (fun st x => Q (.ref x.heap.objs.size) { x with heap := x.heap.push { cls := .type "slice", data := .fields #[l, u, st] } }) E y) E z) E s) : wpAny (model prog w) A (eval (.Slice lower upper step p) env) Q E s := by
  rw [arm_eval_Slice]
  exact bb h fun l z k => bb (wpAny_holding k) fun u y k => bb (wpAny_holding k) fun st x k => lf (wpAny_newObj_type k)
theorem wpAny_letTemporaryGo {base : Expr} {o r : Value} {Q : Unit → Shared → Prop} (h : Q () s) : wpAny (model prog w) A (letTemporaryGo base o r) Q E s := lf (PySem.wpAny_letTemporaryGo h)
theorem attr_of {e : Expr} {f : Str} {pos : Pos} {Q : Value → Shared → Prop} (hb : attributeBase e f env (eval e env) = eval e env) (h : wpAny (model prog w) A (eval e env) (fun o z => wpAny (model prog w) A (getAttr o f true) Q E z) E s) : wpAny (model prog w) A (eval (.Attribute e f pos) env) Q E s := by
  rw [arm_eval_Attribute, hb]
  exact bb h fun o z k => bp (bb (wpAny_holding k) fun r y k => wpAny_bind (wpAny_letTemporaryGo (wpAny_pure k)))
theorem plainObj_wpAny_Assign_Attribute {o value : Expr} {attr : Str} {p2 pos : Pos} {Q : Flow → Shared → Prop} (h : wpAny (model prog w) A (eval value env) (fun v z => wpAny (model prog w) A (eval o env) (fun ov y => wpAny (model prog w) A (setAttr ov attr v) (fun _ => Q .next) E y) E z) E s) (hs : swapsWith value (some (.Attribute o attr p2)) pos.line env = pure false := by rfl) : wpAny (model prog w) A (exec (.Assign [.Attribute o attr p2] value pos) env) Q E s := by
  rw [plainObj_exec_Assign_Attribute o attr p2 value pos hs]
  refine bp (bb h fun v z k => ?_)
  rw [assign_Attribute]
  exact wpAny_bind (bb (wpAny_holding k) fun ov y k => bp (bb (wpAny_holding k) fun _ x k => wpAny_release (wpAny_pure k)))
/-! ### calls -/
theorem codeAny_builtin {id : String} {args : Args} {b : Builtin} (hb : entryFor table id = some b) (h : wpAny (model prog w) (A.under (.builtin id args)) (b args) (fun fin z => match fin with | .done f => R (.ok f) z | .again c' => c'.quiet = true ∧ codeAny (model prog w) A c' R z) (fun e z => R (.error e) z) s) : codeAny (model prog w) A (.builtin id args) R s := by
  refine codeAny_of_tree ?_
  show wpAny _ _ (match entryFor table id with | some b => b args | none => unsupported ((withoutEnding? id "#data").getD id)) _ _ s
  rw [hb]; exact h
theorem codeAny_call_builtin_at {id : String} {args : Args} {b : Builtin} (hq : (Code.builtin id args).quiet = true) (hb : entryFor table id = some b) (h : wpAny (model prog w) A.in1 (checkBuiltinCall id args) (fun _ y => wpAny (model prog w) (A.under (.builtin id args)) (b args) (fun fin z => match fin with | .done f => R (.ok f) z | .again c' => c'.quiet = true ∧ codeAny (model prog w) A c' R z) (fun e z => R (.error e) z) y) (fun e z => R (.error e) z) s) : codeAny (model prog w) A (.call (.builtin id) args) R s := by
  refine codeAny_of_tree ?_
  show wpAny _ A.in1 (checkBuiltinCall id args >>= fun _ => again (.builtin id args)) _ _ s
  exact bb h fun _ y k => wpAny_pure ⟨hq, codeAny_builtin hb k⟩
theorem codeAny_call_builtin {id : String} {args : Args} {b : Builtin} (hq : plainId id = true) (hb : entryFor table id = some b) (h : wpAny (model prog w) A.in1 (checkBuiltinCall id args) (fun _ y => wpAny (model prog w) A.in1 (b args) (fun fin z => match fin with | .done f => R (.ok f) z | .again c' => c'.quiet = true ∧ codeAny (model prog w) A c' R z) (fun e z => R (.error e) z) y) (fun e z => R (.error e) z) s) : codeAny (model prog w) A (.call (.builtin id) args) R s :=
  codeAny_call_builtin_at (plainId_quiet hq args) hb (by rw [Around.under_plainId hq args]; exact h)
theorem wpAny_call_entry {T : String} {name : Str} {id : String} {b : Builtin} {self : Value} {rest : List Value} {Q : Value → Shared → Prop} (h : Slot T name id) (hT : s.TypeIs self T) (hb : entryFor table id = some b) (hc : wpAny (model prog w) A.in1 (b ⟨self :: rest, []⟩) (fun fin z => ∃ v, fin = .done (.ret v) ∧ Q v z) E s) (ha : argsOk id ⟨self :: rest, []⟩ := by rfl) : wpAny (model prog w) A (call (.builtin id) (self :: rest)) Q E s := by
  refine wpAny_call (codeAny_call_builtin h.plain hb (lf (h.check _ _ _ _ _ _ _ _ hT ha (wpAny_mono hc (fun fin z k => ?_) fun _ _ k => k))))
  obtain ⟨v, rfl, k⟩ := k
  exact k
theorem wpAny_callSpecial?_slot {self : Value} {T : String} {name : Str} {id : String} {args : List Value} {kw : List (Str × Value)} {Q : Option Value → Shared → Prop} (hT : s.TypeIs self T) (h : Slot T name id) (hc : wpAny (model prog w) A (call (.builtin id) (self :: args) kw) (fun v => Q (some v)) E s) : wpAny (model prog w) A (callSpecial? self name args kw) Q E s := by
  simp only [callSpecial?]
  refine wpAny_bind (lf (wpAny_specialOf hT h.lookup ?_))
  simp only [h.bind]
  exact wpAny_holding (wpAny_bind (wpAny_pure (bb hc fun v z k => wpAny_pure k)))
theorem codeAny_call_function {a : Addr} {args : Args} {o : Obj} {fd : FuncData} {body : List Stmt} (hroom : A.depth < recursionLimit) (ho : s.heap.get? a = some o) (hd : o.data = .func fd) (hco : fd.scope.isCoroutine = false) (hgen : fd.scope.isGenerator = false) (hbody : fd.body = .stmts body) (hcd : s.heap.CodeRec fd.code fd.qualname)
    (h : wpAny (model prog w) A.in1 (bindArgs fd args) (fun binds z => wpAny (model prog w) A.in1 (newFunctionEnv fd.scope fd.globals fd.closure binds (fd.qualname ++ ".<locals>.") (some a) fd.code none fd.builtins) (fun env y => y.heap.NoLimit ∧ codeAny (model prog w) A (.func body env) R y) (fun e z => R (.error e) z) z) (fun e z => R (.error e) z) s) : codeAny (model prog w) A (.call (.ref a) args) R s := by
  refine codeAny_of_tree ?_
  show wpAny _ A.in1 (callAny (.ref a) args) _ _ s
  simp only [callAny]
  refine wpAny_bind (lf (wpAny_load ho ?_))
  obtain ⟨c, oc, vs, tq, hc, hoc, hdc, hq⟩ := hcd
  simp only [hd, callFunction, hco, hgen, hbody, hc]
  rw [hc] at h
  refine wpAny_bind (m := field (.ref c) 1) (lf (wpAny_field hoc hdc hq ?_))
  exact wpAny_bind (wpAny_pure (bb h fun binds z k => bb k fun env y k => wpAny_bind (lf (wpAny_enterFrame k.1 hroom (wpAny_pure (And.intro rfl k.2))))))
theorem codeAny_func {body : List Stmt} (h : wpAny (model prog w) (A.deeper env) (execs body env) (fun f z => R (.ok (.ret (match f with | .ret v => v | _ => .none))) z) (fun e z => wpAny (model prog w) (A.deeper env) (leaving env e) (fun _ y => R (.error e) y) (fun e' y => R (.error e') y) z) s) : codeAny (model prog w) A (.func body env) R s := by
  refine codeAny_of_tree ?_
  show wpAny _ (A.deeper env) (point >>= fun _ => (execs body env).onRaise (leaving env) >>= fun f => match f with | .ret v => ret v | _ => ret .none) _ _ s
  refine wpAny_bind (wpAny_point (bb (wpAny_onRaise h) fun f z k => ?_))
  cases f <;> exact wpAny_pure k
theorem codeAny_block {stmts : List Stmt} (h : wpAny (model prog w) A (execs stmts env) (fun f z => R (.ok f) z) (notedBy (model prog w) A env fun e z => R (.error e) z) s) : codeAny (model prog w) A (.block stmts env) R s := by
  refine codeAny_of_tree ?_
  show wpAny _ _ ((execs stmts env).onRaise (fun x => do noteFrame x env; theTreesLotGoes x) >>= fun f => pure (Fin.done f)) _ _ s
  exact bb (wpAny_noted h) fun f z k => wpAny_pure k
theorem codeAny_whileLoop {test : Expr} {body orelse : List Stmt} (I : Nat → Shared → Prop) (turn : ∀ n s, I n s → wpAny (model prog w) A (isTrue test env (eval test env)) (fun b y => if b then wpAny (model prog w) A (execs body env) (fun f x => match f with
            | .next | .cont => ∃ m, m < n ∧ I m x
            | .brk => R (.ok .next) x
            | .ret v => R (.ok (.ret v)) x) (notedBy (model prog w) A env fun e z => R (.error e) z) y
        else wpAny (model prog w) A (execs orelse env) (fun f x => R (.ok f) x) (notedBy (model prog w) A env fun e z => R (.error e) z) y) (notedBy (model prog w) A env fun e z => R (.error e) z) s) (n : Nat) (h : I n s) : codeAny (model prog w) A (.whileLoop test body orelse env) R s := by
  refine codeAny_loop rfl I (fun n s hI => ?_) n h
  show wpAny _ A ((whileTurn test body orelse env).onRaise (fun x => do noteFrame x env; theTreesLotGoes x)) _ _ s
  refine wpAny_noted ?_
  simp only [whileTurn]
  refine bb (turn n s hI) fun b y k => ?_
  cases b with
  | false =>
    simp only [Bool.false_eq_true, if_false] at k ⊢
    exact bb k fun f x k => wpAny_pure k
  | true =>
    simp only [if_true] at k ⊢
    refine bb k fun f x k => ?_
    cases f <;> first | exact wpAny_pure ⟨rfl, k⟩ | exact wpAny_pure k
theorem codeAny_forLoop_any {target : Expr} {it : Value} {body orelse : List Stmt} (I : Nat → Shared → Prop) (turn : ∀ n s, I n s → wpAny (model prog w) A (pyNext it) (fun r z => match r with
      | none => wpAny (model prog w) A (execs orelse env) (fun f x => R (.ok f) x) (notedBy (model prog w) A env fun e z => R (.error e) z) z
      | some v => wpAny (model prog w) A (letOwnedTupleGo target it v) (fun _ y => wpAny (model prog w) A (assign target env v) (fun _ y => wpAny (model prog w) A (execs body env) (fun f x => match f with
            | .next | .cont => ∃ m, m < n ∧ I m x
            | .brk => R (.ok .next) x
            | .ret v => R (.ok (.ret v)) x) (notedBy (model prog w) A env fun e z => R (.error e) z) y) (notedBy (model prog w) A env fun e z => R (.error e) z) y) (notedBy (model prog w) A env fun e z => R (.error e) z) z) (notedBy (model prog w) A env fun e z => R (.error e) z) s) (n : Nat) (h : I n s) : codeAny (model prog w) A (.forLoop target it body orelse env) R s := by
  refine codeAny_loop' rfl I (fun n s hI => ?_) n h
  show wpAny _ A ((forTurn target it body orelse env).onRaise (fun x => do noteFrame x env; theTreesLotGoes x)) _ _ s
  refine wpAny_noted ?_
  simp only [forTurn]
  refine bp (wpAny_bind (wpAny_onRaise (wpAny_mono (turn n s hI) (fun r z k => ?_) fun _ _ k => wpAny_standAt k)))
  cases r with
  | none => exact wpAny_pure (.inr ⟨rfl, codeAny_block k⟩)
  | some v =>
    refine bb k fun _ y k => bb k fun _ y k => bb k fun f x k => ?_
    cases f <;> first | exact wpAny_pure (.inl ⟨rfl, k⟩) | exact wpAny_pure k
/-! ### comprehensions -/
theorem codeAny_compStart_list {elt target iter : Expr} {ifs : List Expr} {rest : List Comprehension} {scope : Scope} {pos : Pos} {it acc : Value} (h0 : codeAny (model prog w) A (.compLoop (.ListComp elt (⟨target, iter, ifs, 0⟩ :: rest) scope pos) 0 it acc env) R s)
    (h : wpAny (model prog w) A (pyIter it) (fun it' z => codeAny (model prog w) A (.compLoop (.ListComp elt (⟨target, iter, ifs, 0⟩ :: rest) scope pos) 0 it' acc env) R z) (notedBy (model prog w) A env fun x z => R (.error x) z) s) : codeAny (model prog w) A (.compStart (.ListComp elt (⟨target, iter, ifs, 0⟩ :: rest) scope pos) 0 it acc env) R s := by
  refine codeAny_of_tree ?_
  show wpAny _ _ ((compStart (.ListComp elt (⟨target, iter, ifs, 0⟩ :: rest) scope pos) 0 it acc env).onRaise (fun x => do noteFrame x env; standAt theWindowsPlace)) _ _ s
  refine wpAny_notedAt ?_
  unfold compStart
  show wpAny _ _ (ask >>= _) _ _ s
  refine wpAny_bind (lf (wpAny_askSetting ?_))
  refine wpAny_ite ?_
  split
  · first
      | exact wpAny_bind (wpAny_pure (wpAny_pure (And.intro rfl h0)))
      | exact wpAny_pure (And.intro rfl h0)
  · refine wpAny_bind (wpAny_rule ?_)
    first
      | exact bp (bb h fun it' z k => wpAny_pure (And.intro rfl k))
      | (show wpAny _ _ (standAt iter.pos >>= _) _ _ s; exact bp (bb h fun it' z k => wpAny_pure (And.intro rfl k)))
theorem compStart_list2_in {elt t1 it1 t2 it2 : Expr} {ifs1 ifs2 : List Expr} {scope : Scope} {pos : Pos} {it acc : Value} (h0 : codeAny (model prog w) A (.compLoop (.ListComp elt [⟨t1, it1, ifs1, 0⟩, ⟨t2, it2, ifs2, 0⟩] scope pos) 1 it acc env) R s)
    (h : wpAny (model prog w) A (pyIter it) (fun it' z => codeAny (model prog w) A (.compLoop (.ListComp elt [⟨t1, it1, ifs1, 0⟩, ⟨t2, it2, ifs2, 0⟩] scope pos) 1 it' acc env) R z) (notedBy (model prog w) A env fun x z => R (.error x) z) s) : codeAny (model prog w) A (.compStart (.ListComp elt [⟨t1, it1, ifs1, 0⟩, ⟨t2, it2, ifs2, 0⟩] scope pos) 1 it acc env) R s := by
  refine codeAny_of_tree ?_
  show wpAny _ A ((compStart (.ListComp elt [⟨t1, it1, ifs1, 0⟩, ⟨t2, it2, ifs2, 0⟩] scope pos) 1 it acc env).onRaise (fun x => do noteFrame x env; standAt theWindowsPlace)) _ _ s
  refine wpAny_notedAt ?_
  unfold compStart
  show wpAny _ A (ask >>= _) _ _ s
  refine wpAny_bind (lf (wpAny_askSetting ?_))
  refine wpAny_ite ?_
  split
  · first
      | exact wpAny_bind (wpAny_pure (wpAny_pure (And.intro rfl h0)))
      | exact wpAny_pure (And.intro rfl h0)
  · refine wpAny_bind (wpAny_rule ?_)
    first
      | exact bp (bb h fun it' z k => wpAny_pure (And.intro rfl k))
      | (show wpAny _ _ (standAt it2.pos >>= _) _ _ s; exact bp (bb h fun it' z k => wpAny_pure (And.intro rfl k)))
theorem wpAny_tests_nil {Q : Bool → Shared → Prop} (h : Q true s) : wpAny (model prog w) A (forIn ([] : List Expr) true fun c r => if r = true then do let ok ← isTrue c env (eval c env); pure (ForInStep.yield ok) else pure (ForInStep.yield r)) Q E s := wpAny_pure h
theorem wpAny_tests_one {c : Expr} {Q : Bool → Shared → Prop} (h : wpAny (model prog w) A (isTrue c env (eval c env)) Q E s) : wpAny (model prog w) A (forIn [c] true fun c r => if r = true then do let ok ← isTrue c env (eval c env); pure (ForInStep.yield ok) else pure (ForInStep.yield r)) Q E s := by
  simp only [List.forIn_cons, List.forIn_nil, if_true]
  exact wpAny_bind (bb h fun b z k => wpAny_pure (wpAny_pure k))
theorem compLoop_list_any {elt target iter : Expr} {ifs : List Expr} {scope : Scope} {pos : Pos} {it acc : Value} {cenv : Env} (I : Nat → Shared → Prop) (turn : ∀ k s, I k s → wpAny (model prog w) A (pyNext it) (fun r z => match r with
      | none => R (.ok .next) z
      | some v => wpAny (model prog w) A (letOwnedTupleGo target it v) (fun _ z => wpAny (model prog w) A (assign target cenv v) (fun _ y => wpAny (model prog w) A (testsOf ifs cenv) (fun ok x =>
            if ok = true then wpAny (model prog w) A (eval elt cenv) (fun u y => wpAny (model prog w) A (call (.builtin "list.append") [acc, u]) (fun _ x => ∃ m, m < k ∧ I m x) (notedBy (model prog w) A cenv fun e z => R (.error e) z) y) (notedBy (model prog w) A cenv fun e z => R (.error e) z) x
            else ∃ m, m < k ∧ I m x) (notedBy (model prog w) A cenv fun e z => R (.error e) z) y) (notedBy (model prog w) A cenv fun e z => R (.error e) z) z) (notedBy (model prog w) A cenv fun e z => R (.error e) z) z) (notedBy (model prog w) A cenv fun e z => R (.error e) z) s) (k : Nat) (h : I k s) : codeAny (model prog w) A (.compLoop (.ListComp elt [⟨target, iter, ifs, 0⟩] scope pos) 0 it acc cenv) R s := by
  refine codeAny_loop rfl I (fun k s hI => ?_) k h
  show wpAny _ A ((compTurn (.ListComp elt [⟨target, iter, ifs, 0⟩] scope pos) 0 it acc cenv).onRaise (fun x => do noteFrame x cenv; theTreesLotGoes x)) _ _ s
  refine wpAny_noted ?_
  rw [compTurn_list]
  refine bp (bb (turn k s hI) fun r z k => ?_)
  cases r with
  | none => exact wpAny_pure k
  | some v =>
    refine bb k fun _ z k => bb k fun _ y k => bb k fun ok x k => ?_
    cases ok with
    | false => exact wpAny_pure ⟨rfl, k⟩
    | true => exact wpAny_bind (bb k fun u y k => bb k fun _ x k => wpAny_pure (wpAny_pure ⟨rfl, k⟩))
end
section
variable {M : Model} {A : Around} {E : Value → Shared → Prop} {s : Shared} {env : Env}
def compPost (M : Model) (A : Around) (E : Value → Shared → Prop) (use : Option (Value → Sem Unit)) (Q : Value → Shared → Prop) (acc : Value) (C : Addr) (r : Result) (z : Shared) : Prop := match r, use with
  | .ok _, none => ∃ m, z.heap.Ns C m ∧ ∀ h', Heap.SameBut C z.heap h' → Q acc { z with heap := h' }
  | .ok _, some u => wpAny M A (u acc) (fun _ y => ∃ m, y.heap.Ns C m ∧ ∀ h', Heap.SameBut C y.heap h' → Q .none { y with heap := h' }) E z
  | .error x, _ => ∃ m, z.heap.Ns C m ∧ ∀ h', Heap.SameBut C z.heap h' → ∀ cenv : Env, cenv.locals = C → wpAny M A (passOn "comprehension.variables-let-go" x cenv : Sem Value) (fun _ _ => False) E { z with heap := h' }
def CompFails (M : Model) (A : Around) (E : Value → Shared → Prop) (cenv : Env) (x : Value) (z : Shared) : Prop := ∃ m, z.heap.Ns cenv.locals m ∧ ∀ h' m', h'.Ns cenv.locals m' → Heap.SameBut cenv.locals z.heap h' → wpAny M A (passOn "comprehension.variables-let-go" x cenv : Sem Value) (fun _ _ => False) E { z with heap := h' }
def compEnds (M : Model) (A : Around) (E : Value → Shared → Prop) (use : Option (Value → Sem Unit)) (Q : Value → Shared → Prop) (acc : Value) (cenv : Env) (r : Result) (z : Shared) : Prop := match r, use with
  | .ok _, none => ∃ m, z.heap.Ns cenv.locals m ∧ ∀ h', Heap.SameBut cenv.locals z.heap h' → Q acc { z with heap := h' }
  | .ok _, some u => wpAny M A (u acc) (fun _ y => ∃ m, y.heap.Ns cenv.locals m ∧ ∀ h', Heap.SameBut cenv.locals y.heap h' → Q .none { y with heap := h' }) E z
  | .error x, _ => CompFails M A E cenv x z
theorem wpAny_standIf {α : Type} {c : Prop} [Decidable c] {pos : Pos} {k : PUnit → Sem α} {Q : α → Shared → Prop} (h : wpAny M A (k ()) Q E s) : wpAny M A (if c then (standAt pos >>= k) else k ()) Q E s := by
  split
  · exact bp h
  · exact h
theorem wpAny_comprehension_free {e : Expr} {scope : Scope} {pos : Pos} {newAcc first : Sem Value} {g : Comprehension} {gs : List Comprehension} {cl : List (Str × Addr)} {use : Option (Value → Sem Unit)} {Q : Value → Shared → Prop}
    (hcl : clausesOf e = g :: gs) (hs : ∀ x, foldedSetIterable g.iter env x = pure x) (hclos : closureFor scope env = pure cl) (hkind : scope.kind = .function) (hnames : ∀ x ∈ scope.names, x.2 = .local → scope.names.lookup x.1 = some .local)
    (h : wpAny M A first (fun x z => wpAny M A (pyIter x) (fun it z => wpAny M A newAcc (fun acc z => wpAny M A (newFunctionEnv scope env.globals cl [] env.qual none .none (some env)) (fun cenv z => codeAny M A (.compStart e 0 it acc { cenv with scope := relabel scope env }) (compPost M A E use Q acc cenv.locals) z) E z) E z) E z) E s) : wpAny M A (comprehension e scope env pos newAcc false first use) Q E s := by
  unfold comprehension
  rw [hclos, hcl]
  refine bb h fun x z k => bp (wpAny_bind (wpAny_of_eq (hs x) (bb (wpAny_holding k) fun it z k => wpAny_standIf (bb k fun acc z k => wpAny_bind (wpAny_pure (bb k fun cenv z k => ?_))))))
  dsimp only
  have hv : ∀ x ∈ (scope.names.filter fun x => (x.2 == .local || x.2 == .cell) && x.1 != (".0" : Str)).reverse, x.2 = .local → Env.kindOf { cenv with scope := relabel scope env } x.1 = some .local := fun x hx hl => lookup_relabel_local (hnames x (List.mem_filter.mp (List.mem_reverse.mp hx)).1 hl)
  have hv2 : ∀ x ∈ (scope.names.filter fun x => (x.2 == .local || x.2 == .cell) && x.1 != (".0" : Str)).reverse.drop 1 ++ (scope.names.filter fun x => (x.2 == .local || x.2 == .cell) && x.1 != (".0" : Str)).reverse.take 1, x.2 = .local → Env.kindOf { cenv with scope := relabel scope env } x.1 = some .local := fun x hx hl =>
    (List.mem_append.mp hx).elim (fun k => hv x (List.mem_of_mem_drop k) hl) fun k => hv x (List.mem_of_mem_take k) hl
  refine wpAny_holding (wpAny_bind (wpAny_attempt (wpAny_holding (wpAny_run (codeAny_mono k fun r y k => ?_)))))
  cases r with
  | ok f =>
    cases use with
    | none =>
      obtain ⟨m, hn, k⟩ := k
      exact wpAny_bind (wpAny_holding (lf (wpAny_comp_letGo (cenv := { cenv with scope := relabel scope env }) hkind _ y m hv hn fun h' m' _ hs' => wpAny_pure (k h' hs'))))
    | some u =>
      refine wpAny_bind (wpAny_rule (bb (wpAny_holding k) fun _ x k => ?_))
      obtain ⟨m, hn, k⟩ := k
      exact wpAny_bind (lf (wpAny_comp_letGo (cenv := { cenv with scope := relabel scope env }) hkind _ x m hv2 hn fun h' m' _ hs' => wpAny_pure (k h' hs')))
  | error x =>
    have k : ∃ m, y.heap.Ns cenv.locals m ∧ ∀ h', Heap.SameBut cenv.locals y.heap h' → ∀ cenv' : Env, cenv'.locals = cenv.locals → wpAny M A (passOn "comprehension.variables-let-go" x cenv' : Sem Value) (fun _ _ => False) E { y with heap := h' } := by cases use <;> exact k
    obtain ⟨m, hn, k⟩ := k
    exact wpAny_bind (wpAny_holding (lf (wpAny_comp_letGo (cenv := { cenv with scope := relabel scope env }) hkind _ y m hv hn fun h' m' _ hs' => wpAny_mono (k h' hs' _ rfl) (fun _ _ f => f.elim) fun _ _ y => y)))
end
end Qo
-- LF
set_option maxRecDepth 100000
set_option maxHeartbeats 4000000
/-! LF: attributes, methods, making objects. -/
namespace Qo
open PySem PySem.Spec PyProof.Rows
section
variable {M : Model} {A : Around} {E : Value → Shared → Prop} {s : Shared} {env : Env} {K : PySem.W.Frag}
theorem evalArgs_nil3 {f : Value} {Q : Args → Shared → Prop} (h : Q ⟨[], []⟩ s) : wpAny M A (evalArgs f true [] []) Q E s := lf (PyProof.Rows.evalArgs_nil3 h)
theorem callWith_K {f : Value} {first : List Value} {pos : Pos} {h₀ : Heap} {e : Expr} {rest : List Expr} {Q : Value → Shared → Prop} (_X : K.In h₀) (hk : PySem.W.keepIn K f = true) (h : wpAny M A (spliced (backTo pos (starEach (e :: rest) env))) (fun vs z => K.In z.heap ∧ wpAny M A (call f (first ++ vs)) Q E z) E s) (he : starEach (e :: rest) env = (false, eval e env) :: starEach rest env := by rfl) (hp : (backTo pos (starEach rest env)).any (·.1) = false := by rfl) : wpAny M A (callWith pos f first (backTo pos (starEach (e :: rest) env)) []) Q E s := by
  rw [he] at h ⊢
  exact callWith_of (by show ((false || (backTo pos (starEach rest env)).any (·.1)) || false) = false; rw [hp]; rfl) (PySem.W.keeps_K hk) (Calls.evalArgs_plain h)
theorem callWith_K0 {f : Value} {first : List Value} {pos : Pos} {Q : Value → Shared → Prop} (X : K.In s.heap) (hk : PySem.W.keepIn K f = true) (h : wpAny M A (call f (first ++ [])) Q E s) : wpAny M A (callWith pos f first (backTo pos (starEach [] env)) []) Q E s :=
  callWith_of rfl (PySem.W.keeps_K hk) (evalArgs_nil3 ⟨X, h⟩)
end
section
variable {prog : Program} {w : World} {A : Around} {E : Value → Shared → Prop} {R : Result → Shared → Prop} {s : Shared} {env : Env} {K : PySem.W.Frag}
theorem get_open {x C : Addr} {ox : Obj} {od : Option Obj} {name : Str} {expr : Bool} {Q : Value → Shared → Prop} (X : K.In s.heap) (I : PySem.W.InstAt s.heap x ox C od) (hga : PySem.W.findIn K (.ref C) "__getattribute__" = some (some (.builtin "object.__getattribute__")))
    (h : wpAny (model prog w) A.in1 (Builtin.«proto.getattr_hooked» ⟨[.ref x, .str name s.toks], []⟩) (fun fin z => match fin with | .done (.ret v) => wpAny (model prog w) A (handedOut v) Q E z | _ => False) (fun e z => wpAny (model prog w) A (noteIf true (.ref x) (.str name s.toks) e) (fun _ y => E e y) E z) { s with toks := s.toks + 1 }) : wpAny (model prog w) A (getAttr (.ref x) name expr) Q E s := by
  obtain ⟨hh, g, d, t, os⟩ := s
  have L0 := I.type (M := model prog w)
  have L1 := PySem.W.looks_findIn (M := model prog w) X hga
  unfold getAttr getAttrBy
  refine wpAny_bind (lf (wpAny_mkText ?_))
  refine wpAny_holding (wpAny_bind (lf (L0.at ?_)))
  refine wpAny_bind (lf (L1.at ?_))
  show wpAny _ _ (getAttrEveryday _ _ _) _ _ _
  refine wpAny_bind (wpAny_onRaise (wpAny_runValue (codeAny_builtin PySem.F.plainObj_entry_getattr_hooked (wpAny_mono h (fun fin z k => ?_) fun _ _ k => k))))
  rcases fin with (_ | _ | _ | _) | _ <;> first | exact k | exact k.elim
theorem get_bind {g a : Value} {x C : Addr} {ox : Obj} {od : Option Obj} {name : Str} {expr : Bool} {Q : Value → Shared → Prop} (X : K.In s.heap) (I : PySem.W.InstAt s.heap x ox C od) (hga : PySem.W.findIn K (.ref C) "__getattribute__" = some (some (.builtin "object.__getattribute__"))) (hf : PySem.W.findObj K C od name = some (.bind g a)) (hk : PySem.W.findIn K (.ref C) "__getattr__" = some none)
    (h : wpAny (model prog w) A.in1 (call g [a, .ref x, .ref C]) (fun v z => wpAny (model prog w) A (handedOut v) Q E z) (fun e z => wpAny (model prog w) A (noteIf true (.ref x) (.str name s.toks) e) (fun _ y => E e y) E z) { s with toks := s.toks + 1 }) : wpAny (model prog w) A (getAttr (.ref x) name expr) Q E s := by
  refine get_open X I hga ?_
  obtain ⟨hh, gg, d, t, os⟩ := s
  have L0 := I.type (M := model prog w)
  have L1 := PySem.W.looks_find (M := model prog w) X I hf
  have L2 := PySem.W.looks_findIn (M := model prog w) X hk
  refine wpAny_bind (wpAny_pure (wpAny_bind (lf (L0.at ?_))))
  refine wpAny_bind (lf (L1.at ?_))
  refine wpAny_bind (lf (L2.at ?_))
  show wpAny _ _ (holding [a] (call g [a, .ref x, .ref C]) >>= ret) _ _ _
  exact bb (wpAny_holding h) fun v z k => wpAny_pure k
theorem prop_get {p x fget : Addr} {rest : List Value} {tp : Value} (X : K.In s.heap) (hp : PySem.W.recIn K p "property" = some (.ref fget :: rest)) (h : codeAny (model prog w) A (.call (.ref fget) ⟨[.ref x], []⟩) R s) : codeAny (model prog w) A (.call (.builtin "property.__get__") ⟨[.ref p, .ref x, tp], []⟩) R s := by
  obtain ⟨d, sl, ho⟩ := PySem.W.rec_of X hp
  refine codeAny_call_builtin PySem.W.KF.slot_prop.plain PySem.W.KF.entry_prop (lf (PySem.W.KF.slot_prop.check _ _ _ _ _ _ _ _ ⟨_, ho, rfl⟩ (PySem.W.KF.args_prop _ _ _) ?_))
  have z : PySem.wpAny (model prog w) A.in1 (Builtin.«property.__get__» ⟨[.ref p, .ref x, tp], []⟩) (fun fin y => fin = .again (.call (.ref fget) ⟨[.ref x], []⟩) ∧ y = s) (fun _ _ => False) s := by
    obtain ⟨hh, g, dr, t, os⟩ := s
    unfold Builtin.«property.__get__» Builtin.Getset_descriptor.descrGetArgs
    dsimp only at ho
    repeat lk
    exact ⟨rfl, rfl⟩
  refine wpAny_mono (lf z) (fun fin y k => ?_) fun _ _ k => k.elim
  obtain ⟨rfl, rfl⟩ := k
  exact ⟨rfl, h⟩
theorem method_call {p : Addr} {f self : Value} {pos : List Value} {kw : List (Str × Value)} (ho : s.heap.get? p = some (PySem.W.methodObj f self)) (h : codeAny (model prog w) A (.call f ⟨self :: pos, kw⟩) R s) : codeAny (model prog w) A (.call (.ref p) ⟨pos, kw⟩) R s := by
  refine codeAny_of_tree ?_
  have z : PySem.wpAny (model prog w) (A.under (.call (.ref p) ⟨pos, kw⟩)) ((model prog w).den (.call (.ref p) ⟨pos, kw⟩)) (fun fin y => fin = .again (.call f ⟨self :: pos, kw⟩) ∧ y = s) (fun _ _ => False) s := by
    show PySem.wpAny _ _ (callAny (.ref p) _) _ _ _
    refine PySem.W.nd_load ho ?_
    cases f <;> exact PySem.wpAny_pure ⟨rfl, rfl⟩
  refine wpAny_mono (lf z) (fun fin y k => ?_) fun _ _ k => k.elim
  obtain ⟨rfl, rfl⟩ := k
  exact ⟨rfl, h⟩
def MethodOnS (prog : Program) (w : World) (A : Around) (E : Value → Shared → Prop) (name : Str) (ov : Value) (pos : Pos) (args : List (Bool × Sem Value)) (Q : Value → Shared → Prop) (s : Shared) : Prop :=
  ∃ (T id : String), PlainAttrs T ∧ Slot T name id ∧ typeOf (.builtin id) = pure (.type "method_descriptor") ∧ s.TypeIs ov T ∧ (∀ a, ov = .ref a → ∃ ob, s.heap.get? a = some ob ∧ ob.dict = none) ∧ wpAny (model prog w) A (callWith pos (.builtin id) [ov] args []) Q E s
theorem Call_methodS {o : Expr} {name : Str} {apos pos : Pos} {args : List Expr} {Q : Value → Shared → Prop} (hbase : attributeBase o name env (eval o env) = eval o env)
    (hfew : ((backTo pos (starEach args env)).all (fun x => !x.1) && (backToKw pos (keywordEach [] env)).all (fun x => x.1.isSome) && decide (args.length + ([] : List Keyword).length + (if ([] : List Keyword).isEmpty then 0 else 1) < 30)) = true) (hline : (apos.endLine == pos.line) = true)
    (h : wpAny (model prog w) A (eval o env) (fun ov z => MethodOnS prog w A E name ov pos (backTo pos (starEach args env)) Q z) E s) : wpAny (model prog w) A (eval (.Call (.Attribute o name apos) args [] pos) env) Q E s := by
  rw [arm_eval_Call, hbase]
  refine bb h fun ov z k => ?_
  obtain ⟨T, id, pa, slot, hty, hT, hd, hc⟩ := k
  refine bp ?_
  have hform : methodCallForm (args.length + ([] : List Keyword).length) (backTo pos (starEach args env)) (backToKw pos (keywordEach [] env)) = true := hfew
  have hpos : methodCallPos true o env apos pos = pure pos := by unfold methodCallPos; simp [hline]
  unfold methodCall
  rw [hform]
  refine wpAny_bind (wpAny_holding (lf (getMethod_builtin hT pa slot hty hd ?_)))
  exact wpAny_bind (wpAny_of_eq hpos hc)
theorem Call_method0 {o : Expr} {name : Str} {apos pos : Pos} {Q : Value → Shared → Prop} (hbase : attributeBase o name env (eval o env) = eval o env) (hline : (apos.endLine == pos.line) = true) (h : wpAny (model prog w) A (eval o env) (fun ov z => MethodOnS prog w A E name ov pos [] Q z) E s) : wpAny (model prog w) A (eval (.Call (.Attribute o name apos) [] [] pos) env) Q E s := Call_methodS hbase rfl hline h
theorem Call_method1 {o e : Expr} {name : Str} {apos pos : Pos} {Q : Value → Shared → Prop} (hbase : attributeBase o name env (eval o env) = eval o env) (hs : starEach [e] env = [(false, eval e env)]) (hline : (apos.endLine == pos.line) = true) (h : wpAny (model prog w) A (eval o env) (fun ov z => MethodOnS prog w A E name ov pos [(false, eval e env)] Q z) E s) : wpAny (model prog w) A (eval (.Call (.Attribute o name apos) [e] [] pos) env) Q E s := by
  refine Call_methodS hbase (by rw [hs]; rfl) hline ?_
  rw [hs]; exact h
theorem assign_Tuple_tuple {elts : List Expr} {x1 : Nat} {pos : Pos} {t : Addr} {items : Array Value} {Q : Unit → Shared → Prop} (hh : A.handled = none) (ht : IsTup s.heap t items) (hn : (assignEach elts env).length = items.size) (hstar : (assignEach elts env).findIdx? (·.1) = none)
    (h : ∀ h', Heap.ExtBut s.heap.objs.size s.heap h' → wpAny (model prog w) A (assignInOrder ((assignEach elts env).map (·.2)) items.toList) Q E { s with heap := h' }) : wpAny (model prog w) A (assign (.Tuple elts x1 pos) env (.ref t)) Q E s := by
  rw [assign_Tuple]
  refine bp ?_
  unfold unpack
  rw [hn, hstar]
  exact wpAny_bind (wpAny_holding (lf (unpackItems_tuple hh ht h)))
/-! ### an object is made -/
theorem make_core {h : Heap} {g : Array GenState} {d : Drawn} {t : Nat} {os : OsState} {C : Addr} {rest : List Value} {kw : List (Str × Value)} {init : Value} (Y : PySem.W.Makes (model prog w) h C) (hi : PySem.W.Looks (model prog w) h (typeLookup (.ref C) "__init__") (some init)) (hb : ∀ self, PySem.W.Looks (model prog w) h (bindSpecial init self) (init, [self])) (hne : (some init != some (Value.builtin "object.__init__")) = true ∨ (rest = [] ∧ kw = []))
    (hq : codeAny (model prog w) (A.under (.builtin "type.__call__" ⟨.ref C :: rest, kw⟩)) (.call init ⟨.ref (h.objs.size + 1) :: rest, kw⟩) (PySem.W.InitBack (h.objs.size + 1) R) ⟨(h.push PySem.W.emptyDict).push (PySem.W.instObj C h.objs.size), g, d, t, os⟩) : codeAny (model prog w) A (.call (.ref C) ⟨rest, kw⟩) R ⟨h, g, d, t, os⟩ := by
  have Y' := Y
  obtain ⟨⟨oc, od, cd, sl, hC, e1, e2, e4⟩, made, base, self, top, call, typ⟩ := Y
  refine codeAny_of_tree ?_
  have z : PySem.wpAny (model prog w) (A.under (.call (.ref C) ⟨rest, kw⟩)) ((model prog w).den (.call (.ref C) ⟨rest, kw⟩)) (fun fin y => fin = .again (.call (.builtin "type.__call__") ⟨.ref C :: rest, kw⟩) ∧ y = ⟨h, g, d, t, os⟩) (fun _ _ => False) ⟨h, g, d, t, os⟩ := by
    show PySem.wpAny _ _ (callAny (.ref C) _) _ _ _
    refine PySem.W.nd_load hC ?_
    show PySem.wpAny _ _ (callAny.viaDunder (.ref C) _) _ _ _
    unfold callAny.viaDunder
    refine PySem.wpAny_bind (call.at ?_)
    dsimp only
    rw [tc_bind]
    refine PySem.wpAny_bind (PySem.wpAny_pure (PySem.wpAny_bind (PySem.wpAny_pure ?_)))
    exact PySem.wpAny_pure (a := Fin.again (.call (.builtin "type.__call__") ⟨.ref C :: rest, kw⟩)) (And.intro rfl rfl)
  refine wpAny_mono (lf z) (fun fin y k => ?_) fun _ _ k => k.elim
  obtain ⟨rfl, rfl⟩ := k
  refine ⟨rfl, codeAny_call_builtin_at (Code.quiet_builtin _ (by decide +kernel)) entry_typeCall (lf (PySem.W.check_slot tc_kind tc_split typ (PySem.W.tc_args _ _ _) ?_))⟩
  have hm : PySem.W.Looks (model prog w) h (mroOf (.ref C)) cd.mro := ((PySem.W.Looks.ld (part := none) hC).andThen .now).andThen .now
  have kk : ∀ b o, h.get? b = some o → ((h.push PySem.W.emptyDict).push (PySem.W.instObj C h.objs.size)).get? b = some o := fun b o e => Heap.get?_push_of_some _ (Heap.get?_push_of_some _ e)
  have hx : ((h.push PySem.W.emptyDict).push (PySem.W.instObj C h.objs.size)).get? (h.objs.size + 1) = some (PySem.W.instObj C h.objs.size) := by heap_get
  have t1 : PySem.W.Looks (model prog w) ((h.push PySem.W.emptyDict).push (PySem.W.instObj C h.objs.size)) (typeOf (.ref (h.objs.size + 1))) (.ref C) := (PySem.W.Looks.ld hx).andThen .now
  have s1 := self.keeps kk
  have i1 := hi.keeps kk
  have b1 := (hb (.ref (h.objs.size + 1))).keeps kk
  unfold Builtin.«type.__call__»
  dsimp only
  rw [if_neg (show ¬ ((Value.ref C == Value.type "type") = true) from Bool.false_ne_true)]
  refine wpAny_bind (lf (hm.at ?_))
  rw [if_neg (by rw [e4]; exact Bool.false_ne_true)]
  refine wpAny_bind (lf (made.at ?_))
  dsimp only
  refine wpAny_bind (wpAny_pure (wpAny_bind (wpAny_holding (wpAny_call (lfc (PySem.W.new_K Y' hi hne ?_))))))
  refine wpAny_bind (lf ((t1.andThen s1 : PySem.W.Looks _ _ (isInstance (.ref (h.objs.size + 1)) (.ref C)) true).at ?_))
  rw [if_neg (show ¬ ((!true) = true) from Bool.false_ne_true)]
  refine wpAny_bind (wpAny_holding ?_)
  unfold callSpecial? specialOf
  refine wpAny_bind (wpAny_bind (lf (t1.at ?_)))
  refine lf (i1.at ?_)
  dsimp only
  refine wpAny_holding (wpAny_bind (lf (b1.at ?_)))
  dsimp only
  refine wpAny_bind (wpAny_call (codeAny_mono hq fun r z k => ?_))
  rcases r with e | (v | _ | _ | _) <;> first | exact k | exact k.elim | skip
  obtain ⟨rfl, k⟩ := k
  exact wpAny_pure (wpAny_pure k)
theorem make_map {C f : Addr} {vs : List Value} {kw : List (Str × Value)} (X : K.In s.heap) (hm : PySem.W.makesIn K C = true) (hi : PySem.W.findIn K (.ref C) "__init__" = some (some (.ref f))) (hf : PySem.W.typeIn K (.ref f) = some (.type "function"))
    (h : codeAny (model prog w) (A.under (.builtin "type.__call__" ⟨.ref C :: vs, kw⟩)) (.call (.ref f) ⟨.ref (s.heap.objs.size + 1) :: vs, kw⟩) (PySem.W.InitBack (s.heap.objs.size + 1) R) { s with heap := (s.heap.push PySem.W.emptyDict).push (PySem.W.instObj C s.heap.objs.size) }) : codeAny (model prog w) A (.call (.ref C) ⟨vs, kw⟩) R s := by
  obtain ⟨hh, g, d, t, os⟩ := s
  exact make_core (PySem.W.makes_of X hm) (PySem.W.looks_findIn X hi) (fun self => PySem.W.bind_fn X self hf) (.inl rfl) h
end
end Qo
namespace Qo
open PySem
theorem lf2 {M : Model} {A : Around} {E : Value → Shared → Prop} {s : Shared} {t : Sem (Option Value)} {f : Value → Sem Unit} {Q : Value → Shared → Prop} (h : PySem.wpAny M A t (fun r z => ∃ v, r = some v ∧ PySem.wpAny M A (f v) (fun _ y => Q v y) E z) E s) : wpAny M A t (fun r z => ∃ v, r = some v ∧ wpAny M A (f v) (fun _ y => Q v y) E z) E s :=
  wpAny_mono (lf h) (fun _ _ ⟨v, e, k⟩ => ⟨v, e, lf k⟩) fun _ _ x => x
end Qo
namespace Qo
open PySem PySem.Spec PyProof.Rows
section
variable {M : Model} {A : Around} {E : Value → Shared → Prop} {s : Shared} {env : Env}
/-- *v among arguments -/
def StarOf (M : Model) (A : Around) (E : Value → Shared → Prop) (v : Value) (Q : List Value → Shared → Prop) (s : Shared) : Prop := wpAny M A (notIterableAtAll v) (fun b z => b = false ∧ wpAny M A (collect v) Q E z) E s
theorem ks_spliced {x : Sem Value} {pos : Pos} {rest : List (Bool × Sem Value)} {Q : List Value → Shared → Prop} (h : wpAny M A x (fun v z => StarOf M A E v (fun here y => wpAny M A (spliced rest) (fun vs x => Q (here ++ vs) x) E y) z) E s) : wpAny M A (spliced ((true, (do let v ← x; standAt pos; pure v)) :: rest)) Q E s := by
  rw [spliced]
  refine wpAny_bind (bb h fun v z k => bp (wpAny_pure ?_))
  unfold StarOf at k
  refine bb k fun b y k => ?_
  obtain ⟨rfl, k⟩ := k
  have z := wpAny_mono k (fun here x k => (show wpAny M A (holding here (spliced rest) >>= fun r => pure (here ++ r)) Q E x from bb (wpAny_holding k) fun vs y k => wpAny_pure k)) fun _ _ x => x
  try simp only [Bool.false_eq_true, if_false]
  first
    | exact wpAny_bind z
    | exact z
    | exact wpAny_bind (wpAny_pure z)
theorem items_star {e : Expr} {p pos : Pos} {rest : List Expr} {Q : List Value → Shared → Prop} (h : wpAny M A (eval e env) (fun v z => StarOf M A E v (fun here y => wpAny M A (spliced (backTo pos (starEach rest env))) (fun vs x => Q (here ++ vs) x) E y) z) E s) (he : starEach (.Starred e p :: rest) env = (true, eval e env) :: starEach rest env := by rfl) : wpAny M A (spliced (backTo pos (starEach (.Starred e p :: rest) env))) Q E s := by
  rw [he]; exact ks_spliced h
end
end Qo
namespace Qo
open PySem PySem.Spec PyProof.Rows
section
variable {prog : Program} {w : World} {A : Around} {E : Value → Shared → Prop} {s : Shared}
theorem tail_any {value slice : Expr} {o i : Value} {ops : List Value} {T id : String} {Q : Value → Shared → Prop} (hT : s.TypeIs o T) (hl : typeLookup (.type T) "__getitem__" = pure (some (.builtin id))) (hg : wpAny (model prog w) A (getItem o i) Q E s) (hs : subscripted slice false o i = operate ops (getItem o i)) : wpAny (model prog w) A (subscriptTail value slice o i) Q E s := by
  unfold subscriptTail
  refine wpAny_bind ?_
  rw [getitemInPython_of_ne hT.not_modules]
  refine wpAny_bind (lf (wpAny_specialOf hT hl ?_))
  have fin : wpAny (model prog w) A (subscripted slice false o i) (fun r z => wpAny (model prog w) A (letTemporaryGo value o r >>= fun _ => pure r) Q E z) E s := by
    rw [hs]
    exact wpAny_operating (wpAny_mono hg (fun r z k => wpAny_bind (wpAny_letTemporaryGo (wpAny_pure k))) fun _ _ x => x)
  first
    | exact lf (PySem.wpAny_pure (wpAny_bind fin))
    | exact wpAny_pure (wpAny_bind fin)
    | exact wpAny_bind (wpAny_pure (wpAny_bind fin))
    | exact wpAny_bind fin
end
end Qo
-- LG
set_option maxRecDepth 100000
set_option maxHeartbeats 4000000
/-! LG: the same at a frame's own code (super()). -/
namespace Qo
open PySem PySem.Spec PyProof.Rows
def wpAt {α : Type} (M : Model) (A : Around) (c : Code) (t : Sem α) (Q : α → Shared → Prop) (E : Value → Shared → Prop) (s : Shared) : Prop := ∀ Γ p, Γ.code = c → Γ.In A → wpT M Γ (fun a _ z => Q a z) (fun x _ z => E x z) t p s
section
variable {α β : Type} {M : Model} {A : Around} {c : Code} {E : Value → Shared → Prop} {s : Shared} {env : Env}
theorem lfa {t : Sem α} {Q : α → Shared → Prop} (h : PySem.wpAt M A c t Q E s) : wpAt M A c t Q E s := fun Γ p e g => wpT.of t (h Γ p e g)
theorem wpAt_of_wpAny {t : Sem α} {Q : α → Shared → Prop} (h : wpAny M A t Q E s) : wpAt M A c t Q E s := fun Γ p _ g => h Γ p g
theorem ks_wpAt_mono {t : Sem α} {Q Q' : α → Shared → Prop} {E' : Value → Shared → Prop} (h : wpAt M A c t Q E s) (hQ : ∀ a s, Q a s → Q' a s) (hE : ∀ e s, E e s → E' e s) : wpAt M A c t Q' E' s := fun Γ p e g => wpT.mono (fun a _ z => hQ a z) (fun x _ z => hE x z) t (h Γ p e g)
theorem wpAt_bind {m : Sem α} {f : α → Sem β} {Q : β → Shared → Prop} (h : wpAt M A c m (fun a z => wpAt M A c (f a) Q E z) E s) : wpAt M A c (m >>= f) Q E s := fun Γ p e g => wpT.bind f m (wpT.mono (fun a q z k => k Γ q e g) (fun _ _ _ k => k) m (h Γ p e g))
theorem wpAt_bb {m : Sem α} {f : α → Sem β} {P : α → Shared → Prop} {Q : β → Shared → Prop} (h : wpAt M A c m P E s) (k : ∀ a z, P a z → wpAt M A c (f a) Q E z) : wpAt M A c (m >>= f) Q E s := wpAt_bind (ks_wpAt_mono h k fun _ _ x => x)
theorem wpAt_bp {f : Unit → Sem β} {p : Pos} {Q : β → Shared → Prop} (h : wpAt M A c (f ()) Q E s) : wpAt M A c (standAt p >>= f) Q E s := wpAt_bind (wpAt_of_wpAny (wpAny_standAt h))
theorem wpAt_onRaise {m : Sem α} {k : Value → Sem Unit} {Q : α → Shared → Prop} (h : wpAt M A c m Q (fun e z => wpAny M A (k e) (fun _ y => E e y) E z) s) : wpAt M A c (m.onRaise k) Q E s := fun Γ p e g => wpT.onRaise k m (wpT.mono (fun _ _ _ x => x) (fun _ q _ x => x Γ q g) m (h Γ p e g))
theorem ks_wpAt_execs_cons {st : Stmt} {rest : List Stmt} {Q : Flow → Shared → Prop} (h : wpAt M A c (exec st env) (fun f z => match f with | .next => wpAt M A c (execs rest env) Q E z | f => Q f z) E s) : wpAt M A c (execs (st :: rest) env) Q E s := by
  rw [execs_cons]
  refine wpAt_bb h fun f z k => ?_
  cases f with
  | next => exact k
  | _ => exact wpAt_of_wpAny (wpAny_pure k)
theorem ks_wpAt_Return_some {e : Expr} {pos : Pos} {Q : Flow → Shared → Prop} (h : wpAt M A c (eval e env) (fun v => Q (.ret v)) E s) : wpAt M A c (exec (.Return (some e) pos) env) Q E s := by
  rw [exec_Return_some]; exact wpAt_bp (wpAt_bb h fun v z k => wpAt_of_wpAny (wpAny_pure k))
theorem ks_wpAt_BinOp {l r : Expr} {op : Operator} {pos : Pos} {Q : Value → Shared → Prop} (h : wpAt M A c (eval l env) (fun a z => wpAny M A (eval r env) (fun b y => wpAny M A (binaryOp op a b) Q E y) E z) E s) : wpAt M A c (eval (.BinOp l op r pos) env) Q E s := by
  rw [eval_BinOp]
  exact wpAt_bb h fun a z k => wpAt_of_wpAny (bb (wpAny_holding k) fun b y k => bp (wpAny_operate' k))
end
section
variable {prog : Program} {w : World} {A : Around} {c : Code} {E : Value → Shared → Prop} {R : Result → Shared → Prop} {s : Shared} {env : Env}
theorem ks_wpAt_Expr_any {e : Expr} {pos : Pos} {Q : Flow → Shared → Prop} (h : wpAt (model prog w) A c (eval e env) (fun _ => Q .next) E s) (hi : interactive env = false := by rfl) (hs : swapsWith e none pos.line env = pure false := by rfl) : wpAt (model prog w) A c (exec (.Expr e pos) env) Q E s := by
  rw [exec_Expr env e pos hi hs]
  exact wpAt_bp (wpAt_bb h fun v z k => wpAt_of_wpAny (wpAny_dropValue k))
theorem codeAny_of_treeAt {M : Model} (h : wpAt M (A.under c) c (M.den c) (fun fin z => match fin with | .done f => R (.ok f) z | .again c' => c'.quiet = true ∧ codeAny M A c' R z) (fun e z => R (.error e) z) s) : codeAny M A c R s := by
  intro Γ p e g
  subst e
  refine ret_of (wpT.mono (fun fin q z k => ?_) (fun _ _ _ k => k) _ (h Γ p rfl g.in))
  cases fin with
  | done f => exact k
  | again c' => exact ⟨k.1, k.2 (Γ.goto c') q rfl (g.goto c')⟩
theorem ks_codeAny_funcAt {body : List Stmt} (h : wpAt (model prog w) (A.deeper env) (.func body env) (execs body env) (fun f z => R (.ok (.ret (match f with | .ret v => v | _ => .none))) z) (fun e z => wpAny (model prog w) (A.deeper env) (leaving env e) (fun _ y => R (.error e) y) (fun e' y => R (.error e') y) z) s) : codeAny (model prog w) A (.func body env) R s := by
  refine codeAny_of_treeAt ?_
  show wpAt _ (A.deeper env) _ (point >>= fun _ => (execs body env).onRaise (leaving env) >>= fun f => match f with | .ret v => ret v | _ => ret .none) _ _ s
  refine wpAt_bind (wpAt_of_wpAny (wpAny_point (wpAt_bb (wpAt_onRaise h) fun f z k => ?_)))
  cases f <;> exact wpAt_of_wpAny (wpAny_pure k)
theorem ks_codeAny_call_defAt {a : Addr} {o : Obj} {fd : FuncData} {body : List Stmt} {args : Args} {binds : List (Str × Value)} (hroom : A.depth < recursionLimit) (ho : s.heap.get? a = some o) (hdata : o.data = .func fd) (hlim : s.heap.NoLimit) (hcd : s.heap.CodeRec fd.code fd.qualname) (hbody : fd.body = .stmts body) (hbind : BindsTo s fd args binds) (hcell : ∀ x ∈ fd.scope.names, x.2 ≠ .cell) (hloc : ∀ x ∈ binds, fd.scope.names.lookup x.1 = some .local)
    (h : ∀ h₀, h₀.Ns s.heap.objs.size (fun x => binds.reverse.lookup x) → (∀ b o, s.heap.get? b = some o → h₀.get? b = some o) → wpAt (model prog w) (A.deeper (callEnv fd s.heap.objs.size a)) (.func body (callEnv fd s.heap.objs.size a)) (execs body (callEnv fd s.heap.objs.size a)) (fun f z => R (.ok (.ret (match f with | .ret v => v | _ => .none))) z) (fun e z => wpAny (model prog w) (A.deeper (callEnv fd s.heap.objs.size a)) (leaving (callEnv fd s.heap.objs.size a) e) (fun _ y => R (.error e) y) (fun e' y => R (.error e') y) z) { s with heap := h₀, toks := s.toks + binds.length })
    (hco : fd.scope.isCoroutine = false := by rfl) (hgen : fd.scope.isGenerator = false := by rfl) (hk : fd.scope.kind = .function := by rfl) : codeAny (model prog w) A (.call (.ref a) args) R s := by
  refine codeAny_call_function hroom ho hdata hco hgen hbody hcd (lf (hbind _ _ _ _ ?_))
  refine lf (wpAny_newFunctionEnv hcell hloc (fun h₀ hns sb => ⟨hlim.fresh _ sb, ks_codeAny_funcAt (h h₀ hns fun b o e => ?_)⟩) hk)
  exact sb.extBut b o (Nat.ne_of_lt (Heap.lt_size e)) (Heap.get?_push_of_some _ e)
end
end Qo
-- QA
set_option maxRecDepth 100000
set_option maxHeartbeats 4000000
/-! QA: data, what it is in the heap, steps. -/
namespace Qo
open PySem PySem.Spec PyProof.Rows

abbrev Ky := L2.Key
/-- inline data: what never changes; ref: a cell that may change -/
inductive D where
  | non | bl (b : Bool) | int (i : Int) | str (x : Str)
  | tup (xs : List D) | lst (xs : List D) | dct (ks : List Ky) (vs : List D) | obj (c : Addr) (ns : List Str) (vs : List D)
  | ref (i : Nat) | fn (a : Addr) | ty (n : String)
/-- what may change -/
inductive Cell where
  | lst (xs : List D) | dct (ks : List Ky) (vs : List D) | ins (c : Addr) (ns : List Str) (vs : List D)
/-- the cells: true: frozen -/
abbrev Hs := List (Bool × Cell)
/-- where the cells stand (an instance's own dict beside), what is known never to change -/
structure Gh where
  mu : List (Addr × Addr)
  im : Addr → Prop
/-- the program, its written part -/
structure Stat where
  P : Program
  w : World
  K : PySem.W.Frag
  mg : Str → Option Value
  base : Heap

mutual
def VR (S : Stat) (G : Gh) (h : Heap) : D → Value → Prop
  | .non, u => u = Value.none
  | .bl b, u => u = Value.bool b
  | .int i, u => ∃ t, u = Value.int i t
  | .str x, u => ∃ t, u = Value.str x t
  | .tup xs, u => ∃ a its, u = Value.ref a ∧ G.im a ∧ xs.length ≤ sizeLine ∧ IsTup h a its ∧ VRs S G h xs its.toList
  | .lst xs, u => ∃ a its, u = Value.ref a ∧ G.im a ∧ xs.length ≤ sizeLine ∧ h.PlainList a its ∧ VRs S G h xs its.toList
  | .dct ks vs, u => ∃ a us, u = Value.ref a ∧ G.im a ∧ ks.length ≤ sizeLine ∧ (a == sysModules) = false ∧ us.length = ks.length ∧ h.DictOf (L2.mixKind S.P S.w) a (ks.zip us) ∧ VRs S G h vs us
  | .obj c ns vs, u => ∃ a dx m us, u = Value.ref a ∧ G.im a ∧ G.im dx ∧ L2.ObjM h a dx c m ∧ us.length = ns.length ∧ (∀ f, m f = (ns.zip us).lookup f) ∧ VRs S G h vs us
  | .ref i, u => ∃ p, G.mu[i]? = some p ∧ u = Value.ref p.1
  | .fn a, u => u = Value.ref a
  | .ty n, u => u = Value.type n
def VRs (S : Stat) (G : Gh) (h : Heap) : List D → List Value → Prop
  | [], us => us = []
  | x :: xs, us => ∃ u r, us = u :: r ∧ VR S G h x u ∧ VRs S G h xs r
end

theorem VRs.len {S : Stat} {G : Gh} {h : Heap} : ∀ {xs : List D} {us : List Value}, VRs S G h xs us → us.length = xs.length
  | [], us, e => by rw [VRs] at e; subst e; rfl
  | x :: xs, us, e => by
    rw [VRs] at e
    obtain ⟨u, r, rfl, _, q⟩ := e
    simp [VRs.len q]
theorem VRs.get {S : Stat} {G : Gh} {h : Heap} : ∀ {xs : List D} {us : List Value} {i : Nat} {x : D}, VRs S G h xs us → xs[i]? = some x → ∃ u, us[i]? = some u ∧ VR S G h x u
  | [], us, i, x, e, q => by simp at q
  | y :: xs, us, 0, x, e, q => by
    rw [VRs] at e
    obtain ⟨u, r, rfl, z, _⟩ := e
    simp at q; subst q
    exact ⟨u, rfl, z⟩
  | y :: xs, us, i + 1, x, e, q => by
    rw [VRs] at e
    obtain ⟨u, r, rfl, _, z⟩ := e
    obtain ⟨v, h1, h2⟩ := VRs.get (i := i) (x := x) z (by simpa using q)
    exact ⟨v, by simpa using h1, h2⟩
theorem VRs.nil {S : Stat} {G : Gh} {h : Heap} : VRs S G h [] [] := by rw [VRs]
theorem VRs.cons {S : Stat} {G : Gh} {h : Heap} {x : D} {u : Value} {xs : List D} {us : List Value} (a : VR S G h x u) (b : VRs S G h xs us) : VRs S G h (x :: xs) (u :: us) := by
  rw [VRs]; exact ⟨u, us, rfl, a, b⟩
theorem VRs.one {S : Stat} {G : Gh} {h : Heap} {x : D} {u : Value} (a : VR S G h x u) : VRs S G h [x] [u] := .cons a .nil
theorem VRs.append {S : Stat} {G : Gh} {h : Heap} : ∀ {xs ys : List D} {us vs : List Value}, VRs S G h xs us → VRs S G h ys vs → VRs S G h (xs ++ ys) (us ++ vs)
  | [], _, us, _, e, q => by rw [VRs] at e; subst e; exact q
  | x :: xs, _, us, _, e, q => by
    rw [VRs] at e
    obtain ⟨u, r, rfl, z, e⟩ := e
    exact .cons z (VRs.append e q)
theorem VRs.take {S : Stat} {G : Gh} {h : Heap} : ∀ {xs : List D} {us : List Value} (n : Nat), VRs S G h xs us → VRs S G h (xs.take n) (us.take n)
  | _, _, 0, _ => by simp [VRs]
  | [], us, n + 1, e => by rw [VRs] at e; subst e; simp [VRs]
  | x :: xs, us, n + 1, e => by
    rw [VRs] at e
    obtain ⟨u, r, rfl, z, e⟩ := e
    exact .cons z (VRs.take n e)
theorem VRs.drop {S : Stat} {G : Gh} {h : Heap} : ∀ {xs : List D} {us : List Value} (n : Nat), VRs S G h xs us → VRs S G h (xs.drop n) (us.drop n)
  | _, _, 0, e => e
  | [], us, n + 1, e => by rw [VRs] at e; subst e; simp [VRs]
  | x :: xs, us, n + 1, e => by
    rw [VRs] at e
    obtain ⟨u, r, rfl, z, e⟩ := e
    exact VRs.drop n e
theorem VRs.set {S : Stat} {G : Gh} {h : Heap} {x : D} {u : Value} (a : VR S G h x u) : ∀ {xs : List D} {us : List Value} (i : Nat), VRs S G h xs us → VRs S G h (xs.set i x) (us.set i u)
  | [], us, i, e => by rw [VRs] at e; subst e; simp [VRs]
  | y :: xs, us, 0, e => by
    rw [VRs] at e
    obtain ⟨v, r, rfl, z, e⟩ := e
    exact .cons a e
  | y :: xs, us, i + 1, e => by
    rw [VRs] at e
    obtain ⟨v, r, rfl, z, e⟩ := e
    exact .cons z (VRs.set a i e)

/-- G' knows all that G knows; what G knows never to change stands in h' as in h -/
structure Grow (G G' : Gh) (h h' : Heap) : Prop where
  im : ∀ a, G.im a → G'.im a
  keep : ∀ a o, G.im a → h.get? a = some o → h'.get? a = some o
  mu : ∀ (i : Nat) (p : Addr × Addr), G.mu[i]? = some p → G'.mu[i]? = some p
theorem Grow.refl {G : Gh} {h : Heap} : Grow G G h h := ⟨fun _ x => x, fun _ _ _ x => x, fun _ _ x => x⟩
theorem Grow.trans {G G1 G2 : Gh} {h h1 h2 : Heap} (a : Grow G G1 h h1) (b : Grow G1 G2 h1 h2) : Grow G G2 h h2 :=
  ⟨fun _ x => b.im _ (a.im _ x), fun c o x y => b.keep c o (a.im c x) (a.keep c o x y), fun i p x => b.mu i p (a.mu i p x)⟩

theorem tup_keep {h h' : Heap} {a : Addr} {its : Array Value} (x : IsTup h a its) (k : ∀ o, h.get? a = some o → h'.get? a = some o) : IsTup h' a its := let ⟨o, e, r⟩ := x; ⟨o, k o e, r⟩
theorem dct_keep {P : Program} {w : World} {h h' : Heap} {a : Addr} {kvs : List (Ky × Value)} (x : h.DictOf (L2.mixKind P w) a kvs) (k : ∀ o, h.get? a = some o → h'.get? a = some o) : h'.DictOf (L2.mixKind P w) a kvs := let ⟨o, es, ep, e, r⟩ := x; ⟨o, es, ep, k o e, r⟩
theorem obj_keep {h h' : Heap} {a dx c : Addr} {m : Str → Option Value} (x : L2.ObjM h a dx c m) (k : ∀ o, h.get? a = some o → h'.get? a = some o) (k2 : ∀ o, h.get? dx = some o → h'.get? dx = some o) : L2.ObjM h' a dx c m := ⟨k _ x.obj, x.ns.at k2, x.ne⟩

mutual
theorem VR.mono {S : Stat} {G G' : Gh} {h h' : Heap} (g : Grow G G' h h') : ∀ (d : D) (u : Value), VR S G h d u → VR S G' h' d u
  | .non, u, x => by rw [VR] at x ⊢; exact x
  | .bl b, u, x => by rw [VR] at x ⊢; exact x
  | .int i, u, x => by rw [VR] at x ⊢; exact x
  | .str i, u, x => by rw [VR] at x ⊢; exact x
  | .tup xs, u, x => by
    rw [VR] at x ⊢
    obtain ⟨a, its, e, i, l, t, r⟩ := x
    exact ⟨a, its, e, g.im a i, l, tup_keep t fun o => g.keep a o i, VRs.mono g xs _ r⟩
  | .lst xs, u, x => by
    rw [VR] at x ⊢
    obtain ⟨a, its, e, i, l, t, r⟩ := x
    exact ⟨a, its, e, g.im a i, l, t.at fun o => g.keep a o i, VRs.mono g xs _ r⟩
  | .dct ks vs, u, x => by
    rw [VR] at x ⊢
    obtain ⟨a, us, e, i, l, n, z, t, r⟩ := x
    exact ⟨a, us, e, g.im a i, l, n, z, dct_keep t fun o => g.keep a o i, VRs.mono g vs _ r⟩
  | .obj c ns vs, u, x => by
    rw [VR] at x ⊢
    obtain ⟨a, dx, m, us, e, i, j, o, z, l, r⟩ := x
    exact ⟨a, dx, m, us, e, g.im a i, g.im dx j, obj_keep o (fun o => g.keep a o i) (fun o => g.keep dx o j), z, l, VRs.mono g vs _ r⟩
  | .ref i, u, x => by
    rw [VR] at x ⊢
    obtain ⟨p, e, q⟩ := x
    exact ⟨p, g.mu i p e, q⟩
  | .fn i, u, x => by rw [VR] at x ⊢; exact x
  | .ty i, u, x => by rw [VR] at x ⊢; exact x
theorem VRs.mono {S : Stat} {G G' : Gh} {h h' : Heap} (g : Grow G G' h h') : ∀ (d : List D) (u : List Value), VRs S G h d u → VRs S G' h' d u
  | [], u, x => by rw [VRs] at x ⊢; exact x
  | d :: ds, u, x => by
    rw [VRs] at x ⊢
    obtain ⟨v, r, e, a, b⟩ := x
    exact ⟨v, r, e, VR.mono g d v a, VRs.mono g ds r b⟩
end

/-- a cell's content -/
def CellAt (S : Stat) (G : Gh) (h : Heap) (p : Addr × Addr) : Cell → Prop
  | .lst xs => p.2 = p.1 ∧ xs.length ≤ sizeLine ∧ ∃ its, h.PlainList p.1 its ∧ VRs S G h xs its.toList
  | .dct ks vs => p.2 = p.1 ∧ ks.length ≤ sizeLine ∧ (p.1 == sysModules) = false ∧ ∃ us, us.length = ks.length ∧ h.DictOf (L2.mixKind S.P S.w) p.1 (ks.zip us) ∧ VRs S G h vs us
  | .ins c ns vs => ns.length ≤ 1000 ∧ ∃ m us, L2.ObjM h p.1 p.2 c m ∧ us.length = ns.length ∧ (∀ f, m f = (ns.zip us).lookup f) ∧ VRs S G h vs us
/-- what a step may write: the cells that are not frozen -/
def Wr (G : Gh) (hs : Hs) (a : Addr) : Prop := ∃ (i : Nat) (p : Addr × Addr) (c : Cell), G.mu[i]? = some p ∧ hs[i]? = some (false, c) ∧ (a = p.1 ∨ a = p.2)
structure HInv (S : Stat) (G : Gh) (hs : Hs) (h : Heap) : Prop where
  len : G.mu.length = hs.length
  inj : ∀ (i j : Nat) (p q : Addr × Addr), G.mu[i]? = some p → G.mu[j]? = some q → i ≠ j → p.1 ≠ q.1 ∧ p.1 ≠ q.2 ∧ p.2 ≠ q.1 ∧ p.2 ≠ q.2
  cell : ∀ (i : Nat) (p : Addr × Addr) (f : Bool) (c : Cell), G.mu[i]? = some p → hs[i]? = some (f, c) → CellAt S G h p c
  free : ∀ (i : Nat) (p : Addr × Addr) (c : Cell), G.mu[i]? = some p → hs[i]? = some (false, c) → ¬ G.im p.1 ∧ ¬ G.im p.2
  froz : ∀ (i : Nat) (p : Addr × Addr) (c : Cell), G.mu[i]? = some p → hs[i]? = some (true, c) → G.im p.1 ∧ G.im p.2
  live : ∀ a, G.im a → ∃ o, h.get? a = some o
  base : ∀ a o, S.base.get? a = some o → h.get? a = some o ∧ G.im a
theorem HInv.notIm {S : Stat} {G : Gh} {hs : Hs} {h : Heap} (I : HInv S G hs h) {a : Addr} (x : Wr G hs a) : ¬ G.im a := by
  obtain ⟨i, p, c, e1, e2, e3⟩ := x
  have := I.free i p c e1 e2
  rcases e3 with rfl | rfl
  · exact this.1
  · exact this.2
theorem CellAt.ex {S : Stat} {G : Gh} {h : Heap} {p : Addr × Addr} {c : Cell} (x : CellAt S G h p c) : (∃ o, h.get? p.1 = some o) ∧ ∃ o, h.get? p.2 = some o := by
  cases c with
  | lst xs =>
    obtain ⟨e, _, its, ⟨n, q⟩, _⟩ := x
    rw [e]
    exact ⟨⟨_, q⟩, ⟨_, q⟩⟩
  | dct ks vs =>
    obtain ⟨e, _, _, us, _, ⟨o, es, ep, q, _⟩, _⟩ := x
    rw [e]
    exact ⟨⟨_, q⟩, ⟨_, q⟩⟩
  | ins c ns vs =>
    obtain ⟨_, m, us, o, _⟩ := x
    obtain ⟨od, es, ep, e, _⟩ := o.ns
    exact ⟨⟨_, o.obj⟩, ⟨_, e⟩⟩
theorem CellAt.mono {S : Stat} {G G' : Gh} {h h' : Heap} {p : Addr × Addr} {c : Cell} (g : Grow G G' h h') (k1 : ∀ o, h.get? p.1 = some o → h'.get? p.1 = some o) (k2 : ∀ o, h.get? p.2 = some o → h'.get? p.2 = some o) (x : CellAt S G h p c) : CellAt S G' h' p c := by
  cases c with
  | lst xs => obtain ⟨e, l, its, q, r⟩ := x; exact ⟨e, l, its, q.at k1, VRs.mono g _ _ r⟩
  | dct ks vs => obtain ⟨e, l, n, us, z, q, r⟩ := x; exact ⟨e, l, n, us, z, dct_keep q k1, VRs.mono g _ _ r⟩
  | ins c ns vs => obtain ⟨l, m, us, o, z, q, r⟩ := x; exact ⟨l, m, us, obj_keep o k1 k2, z, q, VRs.mono g _ _ r⟩

/-- whatever generator sleeps over another one asks nothing of the collector -/
def Soft (s : Shared) : Prop := ∀ (g : Nat) (k : Resume → Sem PySem.Fin) (l : List Value) (c : Code) (p : Pos) (fs : List Frame), s.gens[g]? = some (.suspended k l c p fs true) → fs.any Frame.guarded = false ∧ YfOver s.heap c
theorem YfOver.keeps {h h' : Heap} {c : Code} (x : YfOver h c) (k : ∀ a, GenObj h a → GenObj h' a) : YfOver h' c := let ⟨a, r, kw, e, g⟩ := x; ⟨a, r, kw, e, k a g⟩
theorem Soft.keeps {s s' : Shared} (x : Soft s) (hg : s'.gens = s.gens) (k : ∀ a, GenObj s.heap a → GenObj s'.heap a) : Soft s' := fun g kk l c p fs e => by
  rw [hg] at e
  obtain ⟨h1, h2⟩ := x g kk l c p fs e
  exact ⟨h1, h2.keeps k⟩
theorem GenObj.keeps {h h' : Heap} {a : Addr} (x : GenObj h a) (k : ∀ o, h.get? a = some o → h'.get? a = some o) : GenObj h' a := let ⟨o, e, r⟩ := x; ⟨o, k o e, r⟩
theorem notGen {h : Heap} {a : Addr} {o : Obj} (e : h.get? a = some o) (d : ∀ vs, o.data ≠ .fields vs) : ¬ GenObj h a := fun ⟨o', e', g⟩ => by
  rw [e] at e'
  cases e'
  unfold Obj.genNumber? at g
  split at g
  · rename_i h2; exact d _ h2
  · rename_i h2; exact d _ h2
  · rename_i h2; exact d _ h2
  · cases g
theorem notGenC {h : Heap} {a : Addr} {o : Obj} {T : String} (e : h.get? a = some o) (c : o.cls = .type T) (n : (T == "generator" || T == "coroutine" || T == "async_generator") = false) : ¬ GenObj h a := fun ⟨o', e', g⟩ => by
  rw [e] at e'
  cases e'
  simp only [Bool.or_eq_false_iff, beq_eq_false_iff_ne] at n
  unfold Obj.genNumber? at g
  split at g
  · rename_i h1 h2; rw [c] at h1; cases h1; exact n.1.1 rfl
  · rename_i h1 h2; rw [c] at h1; cases h1; exact n.1.2 rfl
  · rename_i h1 h2; rw [c] at h1; cases h1; exact n.2 rfl
  · cases g
/-- all but one object stands, that one is no generator -/
theorem Soft.but {s s' : Shared} {b : Addr} (x : Soft s) (hg : s'.gens = s.gens) (k : ∀ a o, a ≠ b → s.heap.get? a = some o → s'.heap.get? a = some o) (n : ¬ GenObj s.heap b) : Soft s' := x.keeps hg fun a y => y.keeps fun o e => k a o (fun z => n (z ▸ y)) e
/-- a step that writes at most Z -/
structure Stp (Z : Addr → Prop) (s s' : Shared) : Prop where
  keep : ∀ a o, ¬ Z a → s.heap.get? a = some o → s'.heap.get? a = some o
  live : ∀ a o, s.heap.get? a = some o → ∃ o', s'.heap.get? a = some o'
  os : s'.os = s.os
  gens : ∀ (g : Nat) (x : GenState), s.gens[g]? = some x → s'.gens[g]? = some x
  bare : Soft s → Soft s'
theorem Stp.refl {Z : Addr → Prop} {s : Shared} : Stp Z s s := ⟨fun _ _ _ x => x, fun _ _ x => ⟨_, x⟩, rfl, fun _ _ x => x, fun x => x⟩
theorem Stp.trans {Z Z1 Z2 : Addr → Prop} {s s1 s2 : Shared} (a : Stp Z s s1) (b : Stp Z1 s1 s2) (h : ∀ c o, s.heap.get? c = some o → Z c → Z2 c) (h1 : ∀ c o, s.heap.get? c = some o → Z1 c → Z2 c) : Stp Z2 s s2 :=
  ⟨fun c o n x => b.keep c o (fun z => n (h1 c o x z)) (a.keep c o (fun z => n (h c o x z)) x), fun c o x => let ⟨o', y⟩ := a.live c o x; b.live c o' y, b.os.trans a.os, fun g x y => b.gens g x (a.gens g x y), fun x => b.bare (a.bare x)⟩

/-- what an evaluation does: it may write the cells that are not frozen, and Z -/
structure Ev (S : Stat) (Z : Addr → Prop) (G : Gh) (hs : Hs) (s : Shared) (G' : Gh) (hs' : Hs) (s' : Shared) : Prop where
  stp : Stp (fun a => Wr G hs a ∨ Z a) s s'
  len : hs.length ≤ hs'.length
  mu : ∀ (i : Nat) (p : Addr × Addr), G.mu[i]? = some p → G'.mu[i]? = some p
  im : ∀ a, G.im a → G'.im a
  new : ∀ (i : Nat) (p : Addr × Addr), G'.mu[i]? = some p → G.mu[i]? = none → s.heap.get? p.1 = none ∧ s.heap.get? p.2 = none
  fz : ∀ (i : Nat) (c : Cell), hs[i]? = some (true, c) → hs'[i]? = some (true, c)
  imn : ∀ a, G'.im a → G.im a ∨ s.heap.get? a = none ∨ Wr G hs a
  inv : HInv S G' hs' s'.heap
  gl : G.mu.length = hs.length
theorem Stp.dead {Z : Addr → Prop} {s s' : Shared} (e : Stp Z s s') {a : Addr} (x : s'.heap.get? a = none) : s.heap.get? a = none := by
  cases q : s.heap.get? a with
  | none => rfl
  | some o =>
    obtain ⟨o', y⟩ := e.live a o q
    rw [x] at y; cases y
theorem Ev.wr {S : Stat} {Z : Addr → Prop} {G G' : Gh} {hs hs' : Hs} {s s' : Shared} (e : Ev S Z G hs s G' hs' s') {a : Addr} {o : Obj} (x : s.heap.get? a = some o) (w : Wr G' hs' a) : Wr G hs a := by
  obtain ⟨i, p, c, h1, h2, h3⟩ := w
  cases q : G.mu[i]? with
  | none =>
    have := e.new i p h1 q
    rcases h3 with rfl | rfl
    · rw [this.1] at x; cases x
    · rw [this.2] at x; cases x
  | some p' =>
    have := e.mu i p' q
    rw [h1] at this
    cases this
    have hi : i < hs.length := by rw [← e.gl]; exact (List.getElem?_eq_some_iff.mp q).1
    cases z : hs[i]? with
    | none => rw [List.getElem?_eq_none_iff] at z; omega
    | some bc =>
      obtain ⟨b, c'⟩ := bc
      cases b with
      | true =>
        have := e.fz i c' z
        rw [h2] at this
        cases this
      | false => exact ⟨i, p, c', q, z, h3⟩
theorem Ev.trans {S : Stat} {Z Z1 Z2 : Addr → Prop} {G G1 G2 : Gh} {hs hs1 hs2 : Hs} {s s1 s2 : Shared} (a : Ev S Z G hs s G1 hs1 s1) (b : Ev S Z1 G1 hs1 s1 G2 hs2 s2)
    (h : ∀ c o, s.heap.get? c = some o → Z c → Z2 c) (h1 : ∀ c o, s.heap.get? c = some o → Z1 c → Z2 c) : Ev S Z2 G hs s G2 hs2 s2 where
  stp := a.stp.trans b.stp (fun c o x z => z.elim .inl fun z => .inr (h c o x z)) fun c o x z => z.elim (fun z => .inl (a.wr x z)) fun z => .inr (h1 c o x z)
  len := Nat.le_trans a.len b.len
  mu := fun i p x => b.mu i p (a.mu i p x)
  im := fun c x => b.im c (a.im c x)
  new := fun i p x y => by
    cases q : G1.mu[i]? with
    | none =>
      have := b.new i p x q
      exact ⟨a.stp.dead this.1, a.stp.dead this.2⟩
    | some p' =>
      have := b.mu i p' q
      rw [x] at this
      cases this
      exact a.new i p q y
  fz := fun i c x => b.fz i c (a.fz i c x)
  imn := fun c x => by
    rcases b.imn c x with y | y | y
    · exact a.imn c y
    · exact .inr (.inl (a.stp.dead y))
    · cases q : s.heap.get? c with
      | none => exact .inr (.inl rfl)
      | some o => exact .inr (.inr (a.wr q y))
  inv := b.inv
  gl := a.gl
theorem Ev.grow {S : Stat} {Z : Addr → Prop} {G G' : Gh} {hs hs' : Hs} {s s' : Shared} (e : Ev S Z G hs s G' hs' s') (I : HInv S G hs s.heap) (hz : ∀ a, Z a → ¬ G.im a) : Grow G G' s.heap s'.heap :=
  ⟨e.im, fun a o x y => e.stp.keep a o (fun z => z.elim (fun z => I.notIm z x) fun z => hz a z x) y, e.mu⟩
theorem Ev.weak {S : Stat} {Z Z' : Addr → Prop} {G G' : Gh} {hs hs' : Hs} {s s' : Shared} (e : Ev S Z G hs s G' hs' s') (h : ∀ c o, s.heap.get? c = some o → Z c → Z' c) : Ev S Z' G hs s G' hs' s' :=
  { e with stp := ⟨fun a o n x => e.stp.keep a o (fun z => n (z.elim .inl fun z => .inr (h a o x z))) x, e.stp.live, e.stp.os, e.stp.gens, e.stp.bare⟩ }
end Qo
-- QB
set_option maxRecDepth 100000
set_option maxHeartbeats 4000000
/-! QB: results, a frame's context, the judgements. -/
namespace Qo
open PySem PySem.Spec PyProof.Rows

/-- an exception: its class, its fields -/
structure Exn where
  cls : D
  ns : List Str
  vs : List D
inductive Res (α : Type) where
  | ok (a : α) (hs : Hs) | exc (x : Exn) (hs : Hs) | bad
def Res.bind {α β : Type} : Res α → (α → Hs → Res β) → Res β
  | .ok a hs, k => k a hs
  | .exc x hs, _ => .exc x hs
  | .bad, _ => .bad
@[simp] theorem Res.bind_ok {α β : Type} (a : α) (hs : Hs) (k : α → Hs → Res β) : (Res.ok a hs).bind k = k a hs := rfl
@[simp] theorem Res.bind_exc {α β : Type} (a : Exn) (hs : Hs) (k : α → Hs → Res β) : (Res.exc a hs).bind k = .exc a hs := rfl
@[simp] theorem Res.bind_bad {α β : Type} (k : α → Hs → Res β) : (Res.bad).bind k = .bad := rfl

abbrev St := List (Option D)
/-- what an expression, arguments, a test compute -/
abbrev SE := St → Hs → Res D
abbrev SA := St → Hs → Res (List D)
abbrev ST := St → Hs → Res Bool

/-- a frame that runs: vars: the names seen, by slot; own: what it alone may write -/
structure Cx where
  S : Stat
  A : Around
  env : Env
  vars : List (Str × Nat)
  own : Addr → Prop
  fn : Str → Bool
def Cx.fr (X : Cx) (a : Addr) : Prop := a = X.env.locals ∨ ∃ x, X.env.cells.lookup x = some a
structure Cx.Ok (X : Cx) : Prop where
  mod : L2.Mod X.S.K X.S.mg X.S.base
  kind : X.env.scope.kind = .function
  glob : X.env.globals = mainGlobals
  blt : X.env.builtins = builtinsNs
  hd : X.A.handled = none
  inj : ∀ x y c, X.env.cells.lookup x = some c → X.env.cells.lookup y = some c → x = y
  ownf : ∀ a, X.own a → X.fr a
  vinj : ∀ x y i, X.vars.lookup x = some i → X.vars.lookup y = some i → x = y
  ownl : X.own X.env.locals
  ownc : ∀ x c, X.fn x = true → X.env.cells.lookup x = some c → X.own c
  hasc : ∀ x, X.env.scope.names.lookup x = some .cell → ∃ c, X.env.cells.lookup x = some c
structure FrInv (X : Cx) (G : Gh) (σ : St) (h : Heap) : Prop where
  loc : ∃ m, h.Ns X.env.locals m ∧ ∀ (x : Str) (i : Nat) (d : D), X.vars.lookup x = some i → σ[i]? = some (some d) → L2.Vis X.env.scope x → ∃ u, VR X.S G h d u ∧ L2.Look X.env h m x u
  cell : ∀ x c, X.env.cells.lookup x = some c → ∃ v, h.IsCell c v
  apart : ∀ a, X.fr a → ∀ (i : Nat) (p : Addr × Addr), G.mu[i]? = some p → a ≠ p.1 ∧ a ≠ p.2
  nim : ∀ a, X.own a → ¬ G.im a
structure Inv (X : Cx) (G : Gh) (σ : St) (hs : Hs) (s : Shared) : Prop where
  ok : X.Ok
  hinv : HInv X.S G hs s.heap
  fr : FrInv X G σ s.heap
  bare : Soft s
section
variable {X : Cx} {G G' : Gh} {σ : St} {hs hs' : Hs} {s s' : Shared} {Z : Addr → Prop}
theorem FrInv.lt {h : Heap} (I : FrInv X G σ h) {a : Addr} (x : X.fr a) : ∃ o, h.get? a = some o := by
  rcases x with rfl | ⟨y, e⟩
  · obtain ⟨m, ⟨o, _, _, e, _⟩, _⟩ := I.loc
    exact ⟨o, e⟩
  · obtain ⟨v, o, e, _⟩ := I.cell y a e
    exact ⟨o, e⟩
theorem FrInv.notWr {h : Heap} (I : FrInv X G σ h) {a : Addr} (x : X.fr a) : ¬ Wr G hs a := fun ⟨i, p, c, e, _, q⟩ => by
  have := I.apart a x i p e
  rcases q with rfl | rfl
  · exact this.1 rfl
  · exact this.2 rfl
theorem FrInv.step (I : FrInv X G σ s.heap) (H : HInv X.S G hs s.heap) (e : Ev X.S Z G hs s G' hs' s') (hz : ∀ a, X.fr a → ¬ Z a) (hi : ∀ a, Z a → ¬ G.im a) (hof : ∀ a, X.own a → X.fr a) : FrInv X G' σ s'.heap := by
  have g := e.grow H hi
  have k : ∀ a, X.fr a → ∀ o, s.heap.get? a = some o → s'.heap.get? a = some o := fun a x o y => e.stp.keep a o (fun z => z.elim (I.notWr x) (hz a x)) y
  refine ⟨?_, fun x c y => ?_, fun a x i p h1 => ?_, fun a x z => ?_⟩
  · obtain ⟨m, ⟨o, es, ep, e1, r⟩, q⟩ := I.loc
    refine ⟨m, ⟨o, es, ep, k _ (.inl rfl) o e1, r⟩, fun x i d h1 h2 hv => ?_⟩
    obtain ⟨u, r1, l⟩ := q x i d h1 h2 hv
    refine ⟨u, VR.mono g d u r1, ?_⟩
    rcases l with l | ⟨kk, c, h3, o', h4, h5⟩
    · exact .inl l
    · exact .inr ⟨kk, c, h3, o', k c (.inr ⟨x, h3⟩) o' h4, h5⟩
  · obtain ⟨v, o, h1, h2⟩ := I.cell x c y
    exact ⟨v, o, k c (.inr ⟨x, y⟩) o h1, h2⟩
  · obtain ⟨o, ho⟩ := I.lt x
    cases q : G.mu[i]? with
    | none =>
      have := e.new i p h1 q
      exact ⟨fun z => (by rw [z, this.1] at ho; cases ho), fun z => (by rw [z, this.2] at ho; cases ho)⟩
    | some p' =>
      have := e.mu i p' q
      rw [h1] at this
      cases this
      exact I.apart a x i p q
  · obtain ⟨o, ho⟩ := I.lt (hof a x)
    rcases e.imn a z with y | y | y
    · exact I.nim a x y
    · rw [y] at ho; cases ho
    · exact I.notWr (hof a x) y
def noZ : Addr → Prop := fun _ => False
theorem Inv.step (I : Inv X G σ hs s) (e : Ev X.S noZ G hs s G' hs' s') : Inv X G' σ hs' s' :=
  ⟨I.ok, e.inv, I.fr.step I.hinv e (fun _ _ z => z) (fun _ z => z.elim) I.ok.ownf, e.stp.bare I.bare⟩
theorem Inv.grow (I : Inv X G σ hs s) (e : Ev X.S noZ G hs s G' hs' s') : Grow G G' s.heap s'.heap := e.grow I.hinv fun _ z => z.elim
theorem Inv.bk (I : Inv X G σ hs s) : ∀ b o, X.S.base.get? b = some o → s.heap.get? b = some o := fun b o e => (I.hinv.base b o e).1
theorem Inv.kIn (I : Inv X G σ hs s) : X.S.K.In s.heap := I.ok.mod.kin.keeps I.bk
theorem Inv.nolimit (I : Inv X G σ hs s) : s.heap.NoLimit := I.ok.mod.nolimit.keeps I.bk

/-- what is wanted behind, for a result r -/
structure Out {α β : Type} (X : Cx) (Z : Addr → Prop) (R : Gh → Heap → β → α → Prop) (G : Gh) (hs : Hs) (s : Shared) (r : Res β) (Q : α → Shared → Prop) (E : Value → Shared → Prop) : Prop where
  ok : ∀ b hs', r = .ok b hs' → ∀ a s' G', Ev X.S Z G hs s G' hs' s' → R G' s'.heap b a → Q a s'
  exc : ∀ x hs', r ≠ .exc x hs'
  nb : r ≠ .bad
def Sat {α β : Type} (X : Cx) (Z : Addr → Prop) (t : Sem α) (R : Gh → Heap → β → α → Prop) (G : Gh) (hs : Hs) (s : Shared) (r : Res β) : Prop :=
  ∀ Q E, Out X Z R G hs s r Q E → wpAny (model X.S.P X.S.w) X.A t Q E s
/-- one behind the other -/
theorem Sat.thn {α β γ δ : Type} {t : Sem α} {R : Gh → Heap → β → α → Prop} {R2 : Gh → Heap → δ → γ → Prop} {r : Res β} {k : β → Hs → Res δ} {Q' : α → Shared → Prop} {Q : γ → Shared → Prop} {E : Value → Shared → Prop}
    (h : Sat X Z t R G hs s r) (O : Out X Z R2 G hs s (r.bind k) Q E)
    (c : ∀ b hs1 a s1 G1, r = .ok b hs1 → Ev X.S Z G hs s G1 hs1 s1 → R G1 s1.heap b a → Out X Z R2 G1 hs1 s1 (k b hs1) Q E → Q' a s1) : wpAny (model X.S.P X.S.w) X.A t Q' E s := by
  refine h Q' E ⟨fun b hs1 e a s1 G1 e1 r1 => c b hs1 a s1 G1 e e1 r1 ?_, fun x hs' e => ?_, fun e => ?_⟩
  · subst e
    exact ⟨fun d hs2 e2 a2 s2 G2 e3 r2 => O.ok d hs2 e2 a2 s2 G2 (e1.trans e3 (fun _ _ _ z => z) (fun _ _ _ z => z)) r2, O.exc, O.nb⟩
  · subst e; exact O.exc x hs' rfl
  · subst e; exact O.nb rfl
/-- the same where the first writes less -/
theorem Sat.thnZ {α β γ δ : Type} {Z' : Addr → Prop} {t : Sem α} {R : Gh → Heap → β → α → Prop} {R2 : Gh → Heap → δ → γ → Prop} {r : Res β} {k : β → Hs → Res δ} {Q' : α → Shared → Prop} {Q : γ → Shared → Prop} {E : Value → Shared → Prop}
    (h : Sat X noZ t R G hs s r) (O : Out X Z' R2 G hs s (r.bind k) Q E)
    (c : ∀ b hs1 a s1 G1, r = .ok b hs1 → Ev X.S noZ G hs s G1 hs1 s1 → R G1 s1.heap b a → Out X Z' R2 G1 hs1 s1 (k b hs1) Q E → Q' a s1) : wpAny (model X.S.P X.S.w) X.A t Q' E s := by
  refine h Q' E ⟨fun b hs1 e a s1 G1 e1 r1 => c b hs1 a s1 G1 e e1 r1 ?_, fun x hs' e => ?_, fun e => ?_⟩
  · subst e
    exact ⟨fun d hs2 e2 a2 s2 G2 e3 r2 => O.ok d hs2 e2 a2 s2 G2 (e1.trans e3 (fun _ _ _ z => z.elim) (fun _ _ _ z => z)) r2, O.exc, O.nb⟩
  · subst e; exact O.exc x hs' rfl
  · subst e; exact O.nb rfl

/-- nothing is written, nothing is made -/
theorem Ev.tok (I : HInv X.S G hs s.heap) (t : Nat) : Ev X.S Z G hs s G hs { s with toks := t } where
  stp := ⟨fun _ _ _ x => x, fun _ _ x => ⟨_, x⟩, rfl, fun _ _ x => x, fun x => x⟩
  len := Nat.le_refl _
  mu := fun _ _ x => x
  im := fun _ x => x
  new := fun i p x y => by rw [x] at y; cases y
  fz := fun _ _ x => x
  imn := fun _ x => .inl x
  inv := I
  gl := I.len
theorem Ev.refl (I : HInv X.S G hs s.heap) : Ev X.S Z G hs s G hs s := Ev.tok (X := X) I s.toks
/-- the heap grows by objects that nothing knows yet -/
theorem Ev.kept (I : HInv X.S G hs s.heap) {h' : Heap} {t : Nat} (k : ∀ a o, s.heap.get? a = some o → h'.get? a = some o) : Ev X.S Z G hs s G hs { s with heap := h', toks := t } where
  stp := ⟨fun a o _ x => k a o x, fun _ _ x => ⟨_, k _ _ x⟩, rfl, fun _ _ x => x, fun x => x.keeps rfl fun a y => y.keeps fun o e => k a o e⟩
  len := Nat.le_refl _
  mu := fun _ _ x => x
  im := fun _ x => x
  new := fun i p x y => by rw [x] at y; cases y
  fz := fun _ _ x => x
  imn := fun _ x => .inl x
  inv := ⟨I.len, I.inj, fun i p f c x y => (I.cell i p f c x y).mono ⟨fun _ x => x, fun a o _ x => k a o x, fun _ _ x => x⟩ (fun o x => k _ o x) (fun o x => k _ o x), I.free, I.froz, fun a x => let ⟨o, y⟩ := I.live a x; ⟨o, k a o y⟩, fun a o x => ⟨k a o (I.base a o x).1, (I.base a o x).2⟩⟩
  gl := I.len
/-- a new object that never changes -/
def Gh.add (G : Gh) (p : Addr) : Gh := ⟨G.mu, fun a => G.im a ∨ a = p⟩
theorem Ev.newIm (I : HInv X.S G hs s.heap) {h' : Heap} {t : Nat} {p : Addr} {o : Obj} (k : ∀ a o, s.heap.get? a = some o → h'.get? a = some o) (hp : s.heap.get? p = none) (ho : h'.get? p = some o) :
    Ev X.S Z G hs s (G.add p) hs { s with heap := h', toks := t } := by
  have e := Ev.kept (X := X) (Z := Z) (t := t) I k
  have g : Grow G (G.add p) h' h' := ⟨fun _ x => .inl x, fun _ _ _ x => x, fun _ _ x => x⟩
  have ne : ∀ a o, s.heap.get? a = some o → a ≠ p := fun a o x y => by subst y; rw [hp] at x; cases x
  refine ⟨e.stp, e.len, fun _ _ x => x, fun _ x => .inl x, fun i q x y => ?_, fun _ _ x => x, fun a x => x.elim .inl fun y => .inr (.inl (by rw [y]; exact hp)), ?_, I.len⟩
  · have x : G.mu[i]? = some q := x
    rw [x] at y; cases y
  · refine ⟨I.len, I.inj, fun i q f c x y => (e.inv.cell i q f c x y).mono g (fun _ x => x) (fun _ x => x), fun i q c x y => ?_, fun i q c x y => ⟨.inl (I.froz i q c x y).1, .inl (I.froz i q c x y).2⟩, fun a x => ?_, fun a o x => ⟨k a o (I.base a o x).1, .inl (I.base a o x).2⟩⟩
    · obtain ⟨⟨o1, h1⟩, o2, h2⟩ := (I.cell i q false c x y).ex
      have := I.free i q c x y
      exact ⟨fun z => z.elim this.1 (ne _ _ h1), fun z => z.elim this.2 (ne _ _ h2)⟩
    · rcases x with x | rfl
      · obtain ⟨o, y⟩ := I.live a x
        exact ⟨o, k a o y⟩
      · exact ⟨o, ho⟩
theorem VR.add {S : Stat} {p : Addr} {h h' : Heap} {d : D} {u : Value} (k : ∀ a o, h.get? a = some o → h'.get? a = some o) (x : VR S G h d u) : VR S (G.add p) h' d u := VR.mono (show Grow G (G.add p) h h' from ⟨fun _ x => Or.inl x, fun a o _ x => k a o x, fun _ _ x => x⟩) d u x
theorem VRs.add {S : Stat} {p : Addr} {h h' : Heap} {d : List D} {u : List Value} (k : ∀ a o, h.get? a = some o → h'.get? a = some o) (x : VRs S G h d u) : VRs S (G.add p) h' d u := VRs.mono (show Grow G (G.add p) h h' from ⟨fun _ x => Or.inl x, fun a o _ x => k a o x, fun _ _ x => x⟩) d u x
end

/-! ### the judgements -/
structure PE (X : Cx) (e : Expr) (m : SE) : Prop where
  run : ∀ (G : Gh) (σ : St) (hs : Hs) (s : Shared), Inv X G σ hs s → Sat X noZ (eval e X.env) (fun G' h d u => VR X.S G' h d u) G hs s (m σ hs)
structure PT (X : Cx) (e : Expr) (m : ST) : Prop where
  run : ∀ (G : Gh) (σ : St) (hs : Hs) (s : Shared), Inv X G σ hs s → Sat X noZ (isTrue e X.env (eval e X.env)) (fun _ _ d u => u = d) G hs s (m σ hs)
/-- arguments from the left, no star -/
structure PA (X : Cx) (es : List Expr) (m : SA) : Prop where
  run : ∀ (pos : Pos) (G : Gh) (σ : St) (hs : Hs) (s : Shared), Inv X G σ hs s → Sat X noZ (spliced (backTo pos (starEach es X.env))) (fun G' h d u => VRs X.S G' h d u) G hs s (m σ hs)
/-- an operator by values -/
def OpR (X : Cx) (f : Value → Value → Sem Value) (r : D → D → Hs → Res D) : Prop :=
  ∀ (G : Gh) (σ : St) (hs : Hs) (s : Shared) (x y : D) (u v : Value), Inv X G σ hs s → VR X.S G s.heap x u → VR X.S G s.heap y v → Sat X noZ (f u v) (fun G' h d w => VR X.S G' h d w) G hs s (r x y hs)
section
variable {X : Cx} {G : Gh} {σ : St} {hs : Hs} {s : Shared} {Z : Addr → Prop} {Q : Value → Shared → Prop} {E : Value → Shared → Prop}
abbrev VRX (X : Cx) : Gh → Heap → D → Value → Prop := fun G h d u => VR X.S G h d u
/-- a value, nothing made -/
theorem Out.val {d : D} {u : Value} (O : Out X Z (VRX X) G hs s (.ok d hs) Q E) (I : HInv X.S G hs s.heap) (t : Nat) (r : VR X.S G s.heap d u) : Q u { s with toks := t } :=
  O.ok d hs rfl u _ G (Ev.tok I t) r
theorem Out.val' {d : D} {u : Value} (O : Out X Z (VRX X) G hs s (.ok d hs) Q E) (I : HInv X.S G hs s.heap) (r : VR X.S G s.heap d u) : Q u s :=
  O.ok d hs rfl u _ G (Ev.refl I) r
theorem Out.tt {b : Bool} {Q : Bool → Shared → Prop} (O : Out X Z (fun _ _ d u => u = d) G hs s (.ok b hs) Q E) (I : HInv X.S G hs s.heap) : Q b s :=
  O.ok b hs rfl b _ G (Ev.refl I) rfl
theorem vr_int {S : Stat} {h : Heap} {i : Int} {t : Tok} : VR S G h (.int i) (.int i t) := by rw [VR]; exact ⟨t, rfl⟩
theorem vr_str {S : Stat} {h : Heap} {i : Str} {t : Tok} : VR S G h (.str i) (.str i t) := by rw [VR]; exact ⟨t, rfl⟩
theorem vr_bl {S : Stat} {h : Heap} {b : Bool} : VR S G h (.bl b) (.bool b) := by rw [VR]
theorem vr_non {S : Stat} {h : Heap} : VR S G h .non .none := by rw [VR]

/-! ### names and constants -/
def eVar (i : Nat) : SE := fun σ hs => match σ[i]? with | some (some d) => .ok d hs | _ => .bad
def eC (d : D) : SE := fun _ hs => .ok d hs
theorem pe_var {i : Nat} {x : Str} {pos : Pos} (hN : X.vars.lookup x = some i) (hv : L2.Vis X.env.scope x) (hd : (x == ("__debug__" : Str)) = false) (hcd : (x == ("__classdict__" : Str)) = false) : PE X (.Name x pos) (eVar i) := by
  refine ⟨fun G σ hs s I Q E O => ?_⟩
  unfold eVar at O
  split at O
  · rename_i d e
    obtain ⟨m, hn, hl⟩ := I.fr.loc
    obtain ⟨u, r, l⟩ := hl x i d hN e hv
    have fin : Q u s := O.val' I.hinv r
    rcases l with ⟨hk, hm⟩ | ⟨hk, c, hc, hcell⟩
    · exact wpAny_Name (lf (wpAny_loadName_local I.ok.kind hk hn hm fin)) hd
    · rcases hk with hk | hk
      · exact wpAny_Name (lf (wpAny_loadName_cell I.ok.kind hk hc hcell fin)) hd
      · exact wpAny_Name (lf (wpAny_loadName_free I.ok.kind hk hc hcell fin hcd)) hd
  · exact absurd rfl O.nb
theorem pe_int {i j pos} : PE X (.Constant (.int i) j pos) (eC (.int i)) := ⟨fun _ _ _ _ I _ _ O => lf (wpAny_Constant_int (O.val I.hinv _ vr_int))⟩
theorem pe_bl {b j pos} : PE X (.Constant (.bool b) j pos) (eC (.bl b)) := ⟨fun _ _ _ _ I _ _ O => lf (Constant_bool (O.val' I.hinv vr_bl))⟩
theorem pe_non {j pos} : PE X (.Constant .none j pos) (eC .non) := ⟨fun _ _ _ _ I _ _ O => lf (Constant_none (O.val' I.hinv vr_non))⟩
theorem pe_str {x j pos} : PE X (.Constant (.str x) j pos) (eC (.str x)) := ⟨fun _ _ _ _ I _ _ O => lf (Calls.Constant_str (O.val I.hinv _ vr_str))⟩
def Gl (X : Cx) (x : Str) : Prop := X.env.kindOf x = some .globalImplicit
theorem ld_glob {x : Str} {u : Value} {pos : Pos} {Q : Value → Shared → Prop} (I : Inv X G σ hs s) (hg : Gl X x) (hm : X.S.mg x = some u) (hd : (x == ("__debug__" : Str)) = false) (h : Q u s) : wpAny (model X.S.P X.S.w) X.A (eval (.Name x pos) X.env) Q E s :=
  lf (Calls.Name_function_global I.ok.kind hg (Calls.loadGlobal_global (by rw [I.ok.glob]; exact I.ok.mod.glob.keeps I.bk) hm h) hd)
theorem ld_blt {x : Str} {u : Value} {pos : Pos} {Q : Value → Shared → Prop} (I : Inv X G σ hs s) (hg : Gl X x) (hm : X.S.mg x = none) (hv : bootBuiltins x = some u) (hn : x ≠ "__name__") (hd : (x == ("__debug__" : Str)) = false) (h : Q u s) : wpAny (model X.S.P X.S.w) X.A (eval (.Name x pos) X.env) Q E s := by
  obtain ⟨mb, h1, h2⟩ := I.ok.mod.blt
  exact lf (Calls.Name_function_global I.ok.kind hg (Calls.loadGlobal_builtin (by rw [I.ok.glob]; exact I.ok.mod.glob.keeps I.bk) hm (by rw [I.ok.blt]; exact h1.keeps I.bk) ((h2 x hn).trans hv) h) hd)
/-- a value of the module, the same in every state -/
theorem pe_glob {x : Str} {u : Value} {d : D} {pos : Pos} (hg : Gl X x) (hm : X.S.mg x = some u) (hd : (x == ("__debug__" : Str)) = false) (r : ∀ G h, (∀ a o, X.S.base.get? a = some o → h.get? a = some o ∧ G.im a) → VR X.S G h d u) : PE X (.Name x pos) (eC d) :=
  ⟨fun _ _ _ _ I _ _ O => ld_glob I hg hm hd (O.val' I.hinv (r _ _ I.hinv.base))⟩
theorem pe_bltn {x : Str} {u : Value} {d : D} {pos : Pos} (hg : Gl X x) (hm : X.S.mg x = none) (hv : bootBuiltins x = some u) (hn : x ≠ "__name__") (hd : (x == ("__debug__" : Str)) = false) (r : ∀ G h, VR X.S G h d u) : PE X (.Name x pos) (eC d) :=
  ⟨fun _ _ _ _ I _ _ O => ld_blt I hg hm hv hn hd (O.val' I.hinv (r _ _))⟩

/-! ### operators -/
def eOp (f : D → D → Hs → Res D) (a b : SE) : SE := fun σ hs => (a σ hs).bind fun x h1 => (b σ h1).bind fun y h2 => f x y h2
theorem two {a b : Expr} {ma mb : SE} (ha : PE X a ma) (hb : PE X b mb) {f : D → D → Hs → Res D} {g : Value → Value → Sem Value} (ho : OpR X g f) (I : Inv X G σ hs s) (O : Out X noZ (VRX X) G hs s (eOp f ma mb σ hs) Q E) :
    wpAny (model X.S.P X.S.w) X.A (eval a X.env) (fun v s1 => wpAny (model X.S.P X.S.w) X.A (eval b X.env) (fun u s2 => wpAny (model X.S.P X.S.w) X.A (g v u) Q E s2) E s1) E s := by
  refine (ha.run G σ hs s I).thn O fun x h1 v s1 G1 _ e1 r1 O1 => ?_
  have I1 := I.step e1
  refine (hb.run G1 σ h1 s1 I1).thn O1 fun y h2 u s2 G2 _ e2 r2 O2 => ?_
  exact ho G2 σ h2 s2 x y v u (I1.step e2) (VR.mono (I1.grow e2) _ _ r1) r2 Q E O2
theorem pe_op {a b : Expr} {ma mb : SE} {op : Operator} {f : D → D → Hs → Res D} {pos : Pos} (ho : OpR X (binaryOp op) f) (ha : PE X a ma) (hb : PE X b mb) : PE X (.BinOp a op b pos) (eOp f ma mb) :=
  ⟨fun _ _ _ _ I _ _ O => wpAny_BinOp (two ha hb ho I O)⟩
theorem pe_cmp {a b : Expr} {ma mb : SE} {op : CmpOp} {f : D → D → Hs → Res D} {pos : Pos} (ho : OpR X (compareOp op) f) (ha : PE X a ma) (hb : PE X b mb) (h1 : behindInMarks op b = false) : PE X (.Compare a [op] [b] pos) (eOp f ma mb) :=
  ⟨fun _ _ _ _ I _ _ O => wpAny_Compare1 (two ha hb ho I O) h1⟩
/-! ### more of what is wanted -/
theorem Out.fst {α β γ δ : Type} {R : Gh → Heap → β → α → Prop} {R2 : Gh → Heap → δ → γ → Prop} {r : Res β} {k : β → Hs → Res δ} {Q' : α → Shared → Prop} {Q : γ → Shared → Prop}
    (O : Out X Z R2 G hs s (r.bind k) Q E)
    (c : ∀ b hs1 a s1 G1, r = .ok b hs1 → Ev X.S Z G hs s G1 hs1 s1 → R G1 s1.heap b a → Out X Z R2 G1 hs1 s1 (k b hs1) Q E → Q' a s1) : Out X Z R G hs s r Q' E := by
  refine ⟨fun b hs1 e a s1 G1 e1 r1 => c b hs1 a s1 G1 e e1 r1 ?_, fun x hs' e => ?_, fun e => ?_⟩
  · subst e
    exact ⟨fun d hs2 e2 a2 s2 G2 e3 r2 => O.ok d hs2 e2 a2 s2 G2 (e1.trans e3 (fun _ _ _ z => z) (fun _ _ _ z => z)) r2, O.exc, O.nb⟩
  · subst e; exact O.exc x hs' rfl
  · subst e; exact O.nb rfl
/-- what is wanted moves along a step -/
theorem Out.mv {α β : Type} {R : Gh → Heap → β → α → Prop} {r : Res β} {Q : α → Shared → Prop} {hs1 : Hs} {s1 : Shared} {G1 : Gh} (O : Out X Z R G hs s r Q E) (e : Ev X.S noZ G hs s G1 hs1 s1) : Out X Z R G1 hs1 s1 r Q E :=
  ⟨fun d hs2 e2 a2 s2 G2 e3 r2 => O.ok d hs2 e2 a2 s2 G2 (e.trans e3 (fun _ _ _ z => z.elim) (fun _ _ _ z => z)) r2, O.exc, O.nb⟩
theorem Res.bind_assoc {α β γ : Type} (r : Res α) (f : α → Hs → Res β) (g : β → Hs → Res γ) : (r.bind f).bind g = r.bind fun a h => (f a h).bind g := by cases r <;> rfl

/-! ### tests -/
def grd {α : Type} (c : Prop) [Decidable c] (r : Res α) : Res α := if c then r else .bad
theorem grd_pos {α : Type} {c : Prop} [Decidable c] {r : Res α} (h : c) : grd c r = r := if_pos h
theorem Out.grd {α β : Type} {R : Gh → Heap → β → α → Prop} {r : Res β} {Q : α → Shared → Prop} {c : Prop} [Decidable c] (O : Out X Z R G hs s (grd c r) Q E) : c ∧ Out X Z R G hs s r Q E := by
  unfold Qo.grd at O
  by_cases h : c
  · rw [if_pos h] at O; exact ⟨h, O⟩
  · rw [if_neg h] at O; exact absurd rfl O.nb
def truR (d : D) (hs : Hs) : Res Bool := match d with
  | .non => .ok false hs
  | .bl b => .ok b hs
  | .int i => .ok (i != 0) hs
  | .str x => grd (x.length ≤ sizeLine) (.ok ((x.length : Int) != 0) hs)
  | .tup xs => .ok (!xs.isEmpty) hs
  | .lst xs => .ok (!xs.isEmpty) hs
  | .dct ks _ => .ok (!ks.isEmpty) hs
  | .ref i => match hs[i]? with
    | some (_, .lst xs) => .ok (!xs.isEmpty) hs
    | some (_, .dct ks _) => .ok (!ks.isEmpty) hs
    | _ => .bad
  | _ => .bad
def tOf (m : SE) : ST := fun σ hs => (m σ hs).bind fun d h => truR d h
theorem arr_empty {xs : List D} {S : Stat} {h : Heap} {its : Array Value} (r : VRs S G h xs its.toList) : (!its.isEmpty) = !xs.isEmpty := by
  have := r.len
  cases xs with
  | nil => simp at this; simp [this]
  | cons x xs =>
    cases hi : its.toList with
    | nil => rw [hi] at this; simp at this
    | cons a b =>
      have : its.size ≠ 0 := by rw [← Array.length_toList, hi]; simp
      simp [Array.isEmpty, this]
theorem zip_isEmpty {ks : List Ky} {us : List Value} (h : us.length = ks.length) : (!(ks.zip us).isEmpty) = !ks.isEmpty := by
  cases ks <;> cases us <;> simp_all
theorem tru_ok {d : D} {u : Value} {Q : Bool → Shared → Prop} (I : HInv X.S G hs s.heap) (r : VR X.S G s.heap d u) (O : Out X Z (fun _ _ d u => u = d) G hs s (truR d hs) Q E) : wpAny (model X.S.P X.S.w) X.A (truthy u) Q E s := by
  have fin : ∀ {b : Bool} {t : Nat}, Out X Z (fun _ _ d u => u = d) G hs s (.ok b hs) Q E → Q b { s with toks := t } := fun {b t} O => O.ok b hs rfl b _ G (Ev.tok I t) rfl
  have fit : ∀ {n : Nat}, n ≤ sizeLine → (n : Int) < 2 ^ 63 := fun h => by rw [sizeLine_eq] at h; omega
  cases d with
  | non => rw [VR] at r; subst r; exact lf (truthy_none (fin (t := s.toks) O))
  | bl b => rw [VR] at r; subst r; exact lf (wpAny_truthy_bool (fin (t := s.toks) O))
  | int i => rw [VR] at r; obtain ⟨t, rfl⟩ := r; exact lf (PySem.P.truthy_int (fin (t := s.toks) O))
  | str x =>
    rw [VR] at r; obtain ⟨t, rfl⟩ := r
    have O : Out X Z _ G hs s (grd (x.length ≤ sizeLine) _) Q E := O
    exact lf (PySem.P.truthy_str (by have := fit O.grd.1; omega) (fin O.grd.2))
  | tup xs =>
    rw [VR] at r
    obtain ⟨a, its, rfl, _, hz, t, q⟩ := r
    have l := q.len
    rw [Array.length_toList] at l
    refine lf (truthy_tuple t (fit (by omega)) ?_)
    rw [arr_empty q]; exact fin O
  | lst xs =>
    rw [VR] at r
    obtain ⟨a, its, rfl, _, hz, t, q⟩ := r
    have l := q.len
    rw [Array.length_toList] at l
    refine lf (wpAny_truthy_list t.isList (fit (by omega)) ?_)
    rw [arr_empty q]; exact fin O
  | dct ks vs =>
    rw [VR] at r
    obtain ⟨a, us, rfl, _, hz, hn, l, t, q⟩ := r
    refine lf (wpAny_truthy_dict hn t (fit (by rw [List.length_zip]; omega)) ?_)
    rw [zip_isEmpty l]; exact fin O
  | ref i =>
    rw [VR] at r
    obtain ⟨p, e, rfl⟩ := r
    unfold truR at O
    simp only at O
    split at O
    · rename_i f xs hc
      obtain ⟨_, hz, its, t, q⟩ := I.cell i p f _ e hc
      have l := q.len
      rw [Array.length_toList] at l
      refine lf (wpAny_truthy_list t.isList (fit (by omega)) ?_)
      rw [arr_empty q]; exact fin O
    · rename_i f ks vs hc
      obtain ⟨_, hz, hn, us, l, t, q⟩ := I.cell i p f _ e hc
      refine lf (wpAny_truthy_dict hn t (fit (by rw [List.length_zip]; omega)) ?_)
      rw [zip_isEmpty l]; exact fin O
    · exact absurd rfl O.nb
  | _ => exact absurd rfl O.nb
theorem pt_plain {e : Expr} {m : SE} (h : PE X e m) (he : ∀ whole, isTrue e X.env whole = (do let v ← whole; standAt e.pos; holding [v] (truthy v))) : PT X e (tOf m) := by
  refine ⟨fun G σ hs s I Q E O => isTrue_plain ((h.run G σ hs s I).thn O fun d h1 v s1 G1 _ e1 r1 O1 => ?_) (he _)⟩
  exact tru_ok e1.inv r1 O1
theorem pt_cmp {a b : Expr} {ma mb : SE} {op : CmpOp} {f : D → D → Hs → Res D} {pos : Pos} (ho : OpR X (compareOp op) f) (ha : PE X a ma) (hb : PE X b mb) (h1 : behindInMarks op b = false) : PT X (.Compare a [op] [b] pos) (tOf (eOp f ma mb)) := by
  refine ⟨fun G σ hs s I Q E O => wpAny_isTrue_Compare1 ?_ h1⟩
  exact two ha hb ho I (O.fst fun d h1 v s1 G1 _ e1 r1 O1 => tru_ok e1.inv r1 O1)
def tAnd (a b : ST) : ST := fun σ hs => (a σ hs).bind fun c h => if c = true then b σ h else .ok false h
def tOr (a b : ST) : ST := fun σ hs => (a σ hs).bind fun c h => if c = true then .ok true h else b σ h
def tNot (a : ST) : ST := fun σ hs => (a σ hs).bind fun c h => .ok (!c) h
/-- a test whatever its whole is -/
structure PW (X : Cx) (e : Expr) (m : ST) : Prop where
  run : ∀ (whole : Sem Value) (G : Gh) (σ : St) (hs : Hs) (s : Shared), Inv X G σ hs s → Sat X noZ (isTrue e X.env whole) (fun _ _ d u => u = d) G hs s (m σ hs)
theorem PW.pt {e : Expr} {m : ST} (h : PW X e m) : PT X e m := ⟨h.run _⟩
theorem pw_and1 {a : Expr} {ma : ST} {pos : Pos} (ha : PT X a ma) : PW X (.BoolOp .And [a] pos) ma := by
  refine ⟨fun wh G σ hs s I Q E O => isTrue_and (ha.run G σ hs s I _ E ⟨fun c hs1 e a s1 G1 e1 r1 => ?_, O.exc, O.nb⟩)⟩
  subst r1
  cases a with
  | true => exact isTrue_and_nil (O.ok _ _ e _ _ _ e1 rfl)
  | false => exact O.ok _ _ e _ _ _ e1 rfl
theorem pw_or1 {a : Expr} {ma : ST} {pos : Pos} (ha : PT X a ma) : PW X (.BoolOp .Or [a] pos) ma := by
  refine ⟨fun wh G σ hs s I Q E O => isTrue_or (ha.run G σ hs s I _ E ⟨fun c hs1 e a s1 G1 e1 r1 => ?_, O.exc, O.nb⟩)⟩
  subst r1
  cases a with
  | false => exact isTrue_or_nil (O.ok _ _ e _ _ _ e1 rfl)
  | true => exact O.ok _ _ e _ _ _ e1 rfl
theorem pw_and {a b : Expr} {rest : List Expr} {ma mb : ST} {pos : Pos} (ha : PT X a ma) (hb : PW X (.BoolOp .And (b :: rest) pos) mb) : PW X (.BoolOp .And (a :: b :: rest) pos) (tAnd ma mb) := by
  refine ⟨fun wh G σ hs s I Q E O => isTrue_and ((ha.run G σ hs s I).thn O fun c h1 v s1 G1 _ e1 r1 O1 => ?_)⟩
  subst r1
  cases v with
  | true => exact hb.run wh G1 σ h1 s1 (I.step e1) Q E O1
  | false => exact O1.tt e1.inv
theorem pw_or {a b : Expr} {rest : List Expr} {ma mb : ST} {pos : Pos} (ha : PT X a ma) (hb : PW X (.BoolOp .Or (b :: rest) pos) mb) : PW X (.BoolOp .Or (a :: b :: rest) pos) (tOr ma mb) := by
  refine ⟨fun wh G σ hs s I Q E O => isTrue_or ((ha.run G σ hs s I).thn O fun c h1 v s1 G1 _ e1 r1 O1 => ?_)⟩
  subst r1
  cases v with
  | false => exact hb.run wh G1 σ h1 s1 (I.step e1) Q E O1
  | true => exact O1.tt e1.inv
theorem pt_not {a : Expr} {ma : ST} {pos : Pos} (ha : PT X a ma) : PT X (.UnaryOp .Not a pos) (tNot ma) := by
  refine ⟨fun G σ hs s I Q E O => isTrue_not ((ha.run G σ hs s I).thn O fun c h1 v s1 G1 _ e1 r1 O1 => ?_)⟩
  subst r1
  exact O1.tt e1.inv

/-! ### and, or, not as values -/
def eAnd (a b : SE) : SE := fun σ hs => (a σ hs).bind fun x h => (truR x h).bind fun c h => if c = true then b σ h else .ok x h
def eOr (a b : SE) : SE := fun σ hs => (a σ hs).bind fun x h => (truR x h).bind fun c h => if c = true then .ok x h else b σ h
def eNot (a : SE) : SE := fun σ hs => (a σ hs).bind fun x h => (truR x h).bind fun c h => .ok (.bl (!c)) h
theorem pe_not {a : Expr} {ma : SE} {pos : Pos} (ha : PE X a ma) : PE X (.UnaryOp .Not a pos) (eNot ma) := by
  refine ⟨fun G σ hs s I Q E O => UnaryOp_ ((ha.run G σ hs s I).thn O fun x h1 v s1 G1 _ e1 r1 O1 => not_of ?_)⟩
  refine tru_ok e1.inv r1 (O1.fst fun c h2 c' s2 G2 _ e2 q O2 => ?_)
  subst q
  exact O2.val' e2.inv vr_bl
def eIf (t : ST) (a b : SE) : SE := fun σ hs => (t σ hs).bind fun c h => if c = true then a σ h else b σ h
theorem pe_ifExp {c a b : Expr} {mt : ST} {ma mb : SE} {pos : Pos} (hc : PT X c mt) (ha : PE X a ma) (hb : PE X b mb) : PE X (.IfExp c a b pos) (eIf mt ma mb) := by
  refine ⟨fun G σ hs s I Q E O => wpAny_IfExp ((hc.run G σ hs s I).thn O fun d h1 d' s1 G1 _ e1 q O1 => ?_)⟩
  subst q
  cases d' with
  | true => exact ha.run G1 σ h1 s1 (I.step e1) Q E O1
  | false => exact hb.run G1 σ h1 s1 (I.step e1) Q E O1
end
end Qo
-- QC
set_option maxRecDepth 100000
set_option maxHeartbeats 4000000
/-! QC: new objects, plain data, operators. -/
namespace Qo
open PySem PySem.Spec PyProof.Rows

/-! ### new objects -/
section
variable {X : Cx} {G : Gh} {σ : St} {hs : Hs} {s : Shared} {Z : Addr → Prop} {Q : Value → Shared → Prop} {E : Value → Shared → Prop}
theorem Ev.newCell (I : HInv X.S G hs s.heap) {h' : Heap} {t : Nat} {q : Addr × Addr} {c : Cell} (k : ∀ a o, s.heap.get? a = some o → h'.get? a = some o) (hp : s.heap.get? q.1 = none) (hd : s.heap.get? q.2 = none)
    (hc : CellAt X.S G h' q c) : Ev X.S Z G hs s ⟨G.mu ++ [q], G.im⟩ (hs ++ [(false, c)]) { s with heap := h', toks := t } := by
  have e := Ev.kept (X := X) (Z := Z) (t := t) I k
  have g : Grow G ⟨G.mu ++ [q], G.im⟩ h' h' := ⟨fun _ x => x, fun _ _ _ x => x, fun i p x => by rw [List.getElem?_append_left (List.getElem?_eq_some_iff.mp x).1]; exact x⟩
  have old : ∀ {a o}, s.heap.get? a = some o → a ≠ q.1 ∧ a ≠ q.2 := fun {a o} x => ⟨fun y => (by rw [y, hp] at x; cases x), fun y => (by rw [y, hd] at x; cases x)⟩
  have notIm : ∀ {a}, s.heap.get? a = none → ¬ G.im a := fun {a} l x => by
    obtain ⟨o, y⟩ := I.live a x
    rw [l] at y; cases y
  have at_ : ∀ {i : Nat} {p : Addr × Addr}, (G.mu ++ [q])[i]? = some p → G.mu[i]? = some p ∨ (i = G.mu.length ∧ p = q) := fun {i p} x => by
    by_cases hi : i < G.mu.length
    · rw [List.getElem?_append_left hi] at x; exact .inl x
    · rw [List.getElem?_append_right (Nat.le_of_not_lt hi)] at x
      cases hj : i - G.mu.length with
      | zero => rw [hj] at x; simp at x; exact .inr ⟨by omega, x.symm⟩
      | succ n => rw [hj] at x; simp at x
  have alive : ∀ {i : Nat} {p : Addr × Addr}, G.mu[i]? = some p → (∃ o, s.heap.get? p.1 = some o) ∧ ∃ o, s.heap.get? p.2 = some o := fun {i p} x => by
    have hi : i < hs.length := by rw [← I.len]; exact (List.getElem?_eq_some_iff.mp x).1
    exact (I.cell i p (hs[i]).1 (hs[i]).2 x (by rw [List.getElem?_eq_getElem hi])).ex
  have hat : ∀ {i : Nat} {f : Bool} {c' : Cell}, (hs ++ [(false, c)])[i]? = some (f, c') → hs[i]? = some (f, c') ∨ (i = hs.length ∧ f = false ∧ c' = c) := fun {i f c'} x => by
    by_cases hi : i < hs.length
    · rw [List.getElem?_append_left hi] at x; exact .inl x
    · rw [List.getElem?_append_right (Nat.le_of_not_lt hi)] at x
      cases hj : i - hs.length with
      | zero => rw [hj] at x; simp at x; exact .inr ⟨by omega, by first | exact x.1 | exact x.1.symm, by first | exact x.2 | exact x.2.symm⟩
      | succ n => rw [hj] at x; simp at x
  have clash : ∀ {i : Nat} {p : Addr × Addr}, G.mu[i]? = some p → i ≠ hs.length := fun {i p} x => by
    have := (List.getElem?_eq_some_iff.mp x).1
    rw [I.len] at this
    omega
  refine ⟨e.stp, by simp, fun i p x => g.mu i p x, fun _ x => x, fun i p x y => ?_, fun i c' x => ?_, fun a x => .inl x, ⟨?_, ?_, ?_, ?_, ?_, ?_, ?_⟩, I.len⟩
  · have x : (G.mu ++ [q])[i]? = some p := x
    rcases at_ x with x | ⟨_, rfl⟩
    · rw [x] at y; cases y
    · exact ⟨hp, hd⟩
  · rw [List.getElem?_append_left (List.getElem?_eq_some_iff.mp x).1]; exact x
  · simp [I.len]
  · intro i j p r x y n
    have x : (G.mu ++ [q])[i]? = some p := x
    have y : (G.mu ++ [q])[j]? = some r := y
    rcases at_ x with x1 | ⟨hi, hq⟩
    · rcases at_ y with y1 | ⟨hj, hq⟩
      · exact I.inj i j p r x1 y1 n
      · obtain ⟨⟨o1, h1⟩, o2, h2⟩ := alive x1
        subst hq
        exact ⟨(old h1).1, (old h1).2, (old h2).1, (old h2).2⟩
    · rcases at_ y with y1 | ⟨hj, hq⟩
      · obtain ⟨⟨o1, h1⟩, o2, h2⟩ := alive y1
        subst hq
        exact ⟨fun z => (old h1).1 z.symm, fun z => (old h2).1 z.symm, fun z => (old h1).2 z.symm, fun z => (old h2).2 z.symm⟩
      · exact absurd (hi.trans hj.symm) n
  · intro i p f c' x y
    have x : (G.mu ++ [q])[i]? = some p := x
    rcases at_ x with x | ⟨hi, rfl⟩
    · rcases hat y with y | ⟨hj, _, _⟩
      · obtain ⟨⟨o1, h1⟩, o2, h2⟩ := alive x
        exact (e.inv.cell i p f c' x y).mono g (fun _ x => x) (fun _ x => x)
      · exact absurd hj (clash x)
    · rcases hat y with y | ⟨hj, _, rfl⟩
      · have := (List.getElem?_eq_some_iff.mp y).1
        have := I.len
        omega
      · exact hc.mono g (fun _ x => x) (fun _ x => x)
  · intro i p c' x y
    have x : (G.mu ++ [q])[i]? = some p := x
    rcases at_ x with x | ⟨hi, rfl⟩
    · rcases hat y with y | ⟨hj, _, _⟩
      · exact I.free i p c' x y
      · exact absurd hj (clash x)
    · exact ⟨notIm hp, notIm hd⟩
  · intro i p c' x y
    have x : (G.mu ++ [q])[i]? = some p := x
    rcases at_ x with x | ⟨hi, rfl⟩
    · rcases hat y with y | ⟨hj, hf, _⟩
      · exact I.froz i p c' x y
      · cases hf
    · rcases hat y with y | ⟨hj, hf, _⟩
      · have := (List.getElem?_eq_some_iff.mp y).1
        have := I.len
        omega
      · cases hf
  · exact e.inv.live
  · exact e.inv.base
/-- a new list: one that may change (b), or not -/
def mkL (b : Bool) (xs : List D) (hs : Hs) : Res D := grd (xs.length ≤ sizeLine) (if b = true then .ok (.ref hs.length) (hs ++ [(false, .lst xs)]) else .ok (.lst xs) hs)
def mkT (xs : List D) (hs : Hs) : Res D := grd (xs.length ≤ sizeLine) (.ok (.tup xs) hs)
theorem Out.newL {b : Bool} {xs : List D} (O : Out X Z (VRX X) G hs s (mkL b xs hs) Q E) (I : HInv X.S G hs s.heap) {h' : Heap} {t : Nat} {p : Addr} {its : Array Value} (k : ∀ a o, s.heap.get? a = some o → h'.get? a = some o) (hp : s.heap.get? p = none)
    (hl : h'.PlainList p its) (r : VRs X.S G s.heap xs its.toList) : Q (.ref p) { s with heap := h', toks := t } := by
  obtain ⟨hz, O⟩ := O.grd
  have r' : VRs X.S G h' xs its.toList := VRs.mono ⟨fun _ x => x, fun a o _ x => k a o x, fun _ _ x => x⟩ _ _ r
  cases b with
  | true =>
    rw [if_pos rfl] at O
    have e := Ev.newCell (X := X) (Z := Z) (t := t) (q := (p, p)) (c := .lst xs) I k hp hp ⟨rfl, hz, its, hl, r'⟩
    refine O.ok _ _ rfl _ _ _ e ?_
    show VR X.S _ _ _ _
    rw [VR]
    exact ⟨(p, p), by show (G.mu ++ [(p, p)])[hs.length]? = _; rw [← I.len]; simp, rfl⟩
  | false =>
    rw [if_neg Bool.false_ne_true] at O
    obtain ⟨n, hn⟩ := id hl
    have e := Ev.newIm (X := X) (Z := Z) (t := t) I k hp hn
    refine O.ok _ _ rfl _ _ _ e ?_
    show VR X.S _ _ _ _
    rw [VR]
    exact ⟨p, its, rfl, .inr rfl, hz, hl, VRs.add (fun a o x => k a o x) r⟩
theorem Out.newT {xs : List D} (O : Out X Z (VRX X) G hs s (mkT xs hs) Q E) (I : HInv X.S G hs s.heap) {h' : Heap} {t : Nat} {p : Addr} {its : Array Value} (k : ∀ a o, s.heap.get? a = some o → h'.get? a = some o) (hp : s.heap.get? p = none)
    (hl : IsTup h' p its) (r : VRs X.S G s.heap xs its.toList) : Q (.ref p) { s with heap := h', toks := t } := by
  obtain ⟨hz, O⟩ := O.grd
  obtain ⟨o, ho, _⟩ := id hl
  have e := Ev.newIm (X := X) (Z := Z) (t := t) I k hp ho
  refine O.ok _ _ rfl _ _ _ e ?_
  show VR X.S _ _ _ _
  rw [VR]
  exact ⟨p, its, rfl, .inr rfl, hz, hl, VRs.add (fun a o x => k a o x) r⟩
theorem push_new (h : Heap) : h.get? h.objs.size = none := Heap.get?_none_of_le (Nat.le_refl _)
theorem Out.pushL {b : Bool} {xs : List D} (O : Out X Z (VRX X) G hs s (mkL b xs hs) Q E) (I : HInv X.S G hs s.heap) {t : Nat} {its : Array Value} (r : VRs X.S G s.heap xs its.toList) :
    Q (.ref s.heap.objs.size) { s with heap := s.heap.push { cls := .type "list", data := .seq its }, toks := t } :=
  O.newL I (fun _ _ x => Heap.get?_push_of_some _ x) (push_new _) ⟨0, Heap.get?_push_size _ rfl⟩ r
theorem Out.pushT {xs : List D} (O : Out X Z (VRX X) G hs s (mkT xs hs) Q E) (I : HInv X.S G hs s.heap) {t : Nat} {its : Array Value} (r : VRs X.S G s.heap xs its.toList) :
    Q (.ref s.heap.objs.size) { s with heap := s.heap.push { cls := .type "tuple", data := .seq its }, toks := t } :=
  O.newT I (fun _ _ x => Heap.get?_push_of_some _ x) (push_new _) (IsTup.new _ _) r

/-! ### lists and tuples that are read -/
def asL (hs : Hs) : D → Option (List D)
  | .lst xs => some xs
  | .ref i => match hs[i]? with | some (_, .lst xs) => some xs | _ => none
  | _ => none
theorem asL_at {h : Heap} {d : D} {u : Value} {xs : List D} (I : HInv X.S G hs h) (r : VR X.S G h d u) (e : asL hs d = some xs) : ∃ a its, u = .ref a ∧ h.PlainList a its ∧ xs.length ≤ sizeLine ∧ its.size = xs.length ∧ VRs X.S G h xs its.toList := by
  cases d with
  | lst ys =>
    cases e
    rw [VR] at r
    obtain ⟨a, its, rfl, _, hz, t, q⟩ := r
    exact ⟨a, its, rfl, t, hz, by have := q.len; rwa [Array.length_toList] at this, q⟩
  | ref i =>
    rw [VR] at r
    obtain ⟨p, e1, rfl⟩ := r
    unfold asL at e
    simp only at e
    split at e
    · rename_i f ys hc
      cases e
      obtain ⟨_, hz, its, t, q⟩ := I.cell i p f _ e1 hc
      exact ⟨p.1, its, rfl, t, hz, by have := q.len; rwa [Array.length_toList] at this, q⟩
    · cases e
  | _ => cases e
theorem tup_at {S : Stat} {h : Heap} {xs : List D} {u : Value} (r : VR S G h (.tup xs) u) : ∃ a its, u = .ref a ∧ IsTup h a its ∧ xs.length ≤ sizeLine ∧ its.size = xs.length ∧ VRs S G h xs its.toList := by
  rw [VR] at r
  obtain ⟨a, its, rfl, _, hz, t, q⟩ := r
  exact ⟨a, its, rfl, t, hz, by have := q.len; rwa [Array.length_toList] at this, q⟩
theorem vr_tup {S : Stat} {h : Heap} {xs : List D} {a : Addr} {its : Array Value} (i : G.im a) (z : xs.length ≤ sizeLine) (t : IsTup h a its) (q : VRs S G h xs its.toList) : VR S G h (.tup xs) (.ref a) := by rw [VR]; exact ⟨a, its, rfl, i, z, t, q⟩
end

/-! ### plain data -/
mutual
def toPy : D → Option PyData
  | .non => some .none
  | .bl b => some (.bool b)
  | .int i => some (.int i)
  | .str x => some (.str x)
  | .tup xs => (toPys xs).map .tuple
  | .lst xs => (toPys xs).map .list
  | _ => none
def toPys : List D → Option (List PyData)
  | [] => some []
  | x :: xs => match toPy x, toPys xs with
    | some a, some b => some (a :: b)
    | _, _ => none
end
mutual
theorem reads_of {S : Stat} {G : Gh} {h : Heap} : ∀ (d : D) (u : Value) (a : PyData), VR S G h d u → toPy d = some a → ∃ as, Reads h u a as
  | .non, u, a, r, e => by rw [VR] at r; subst r; cases e; exact ⟨_, .none⟩
  | .bl b, u, a, r, e => by rw [VR] at r; subst r; cases e; exact ⟨_, .bool _⟩
  | .int b, u, a, r, e => by rw [VR] at r; obtain ⟨t, rfl⟩ := r; cases e; exact ⟨_, .int _ _⟩
  | .str b, u, a, r, e => by rw [VR] at r; obtain ⟨t, rfl⟩ := r; cases e; exact ⟨_, .str _ _⟩
  | .tup xs, u, a, r, e => by
    rw [VR] at r
    obtain ⟨p, its, rfl, _, hz, ⟨o, h1, h2, n, h3⟩, q⟩ := r
    rw [toPy] at e
    cases e' : toPys xs with
    | none => rw [e'] at e; cases e
    | some ys =>
      rw [e'] at e; cases e
      obtain ⟨as, r⟩ := readsAll_of xs _ ys q e'
      exact ⟨_, .tuple h1 h2 h3 r⟩
  | .lst xs, u, a, r, e => by
    rw [VR] at r
    obtain ⟨p, its, rfl, _, hz, ⟨n, h1⟩, q⟩ := r
    rw [toPy] at e
    cases e' : toPys xs with
    | none => rw [e'] at e; cases e
    | some ys =>
      rw [e'] at e; cases e
      obtain ⟨as, r⟩ := readsAll_of xs _ ys q e'
      exact ⟨_, .list h1 rfl rfl r⟩
  | .dct _ _, u, a, r, e => by simp [toPy] at e
  | .obj _ _ _, u, a, r, e => by simp [toPy] at e
  | .ref _, u, a, r, e => by simp [toPy] at e
  | .fn _, u, a, r, e => by simp [toPy] at e
  | .ty _, u, a, r, e => by simp [toPy] at e
theorem readsAll_of {S : Stat} {G : Gh} {h : Heap} : ∀ (xs : List D) (us : List Value) (ys : List PyData), VRs S G h xs us → toPys xs = some ys → ∃ as, ReadsAll h us ys as
  | [], us, ys, r, e => by rw [VRs] at r; subst r; cases e; exact ⟨_, .nil⟩
  | x :: xs, us, ys, r, e => by
    rw [VRs] at r
    obtain ⟨u, us, rfl, q, r⟩ := r
    rw [toPys] at e
    split at e
    · rename_i a b e1 e2
      cases e
      obtain ⟨as, q⟩ := reads_of x u a q e1
      obtain ⟨bs, r⟩ := readsAll_of xs us b r e2
      exact ⟨_, .cons q r⟩
    · cases e
end
def pyOf (hs : Hs) (d : D) : Option PyData := match d with
  | .ref i => match hs[i]? with | some (_, .lst xs) => (toPys xs).map .list | _ => none
  | d => toPy d
theorem pyOf_at {X : Cx} {G : Gh} {hs : Hs} {h : Heap} {d : D} {u : Value} {a : PyData} (I : HInv X.S G hs h) (r : VR X.S G h d u) (e : pyOf hs d = some a) : ∃ as, Reads h u a as := by
  cases d with
  | ref i =>
    rw [VR] at r
    obtain ⟨p, e1, rfl⟩ := r
    unfold pyOf at e
    simp only at e
    split at e
    · rename_i f ys hc
      obtain ⟨_, hz, its, ⟨n, t⟩, q⟩ := I.cell i p f _ e1 hc
      cases e' : toPys ys with
      | none => rw [e'] at e; cases e
      | some zs =>
        rw [e'] at e; cases e
        obtain ⟨as, r⟩ := readsAll_of ys _ zs q e'
        exact ⟨_, .list t rfl rfl r⟩
    · cases e
  | _ => exact reads_of _ u a r e
/-- what an operation on data asks of its size -/
def okPy (a : PyData) : Bool := SeqAt.shaped a
structure Roomy (X : Cx) : Prop where
  un : X.A.units + 200 < cLine
  dp : X.A.depth + 5 < recursionLimit
  gd : X.A.guards = some []

section
variable {X : Cx}
def dEq (n : Bool) : D → D → Hs → Res D := fun x y hs => match pyOf hs x, pyOf hs y with
  | some a, some b => grd (okPy a = true ∧ okPy b = true) (.ok (.bl (n != a.eqv b)) hs)
  | _, _ => .bad
theorem op_eq (R : Roomy X) : OpR X (compareOp .Eq) (dEq false) := by
  intro G σ hs s x y u v I r1 r2 Q E O
  unfold dEq at O
  split at O
  · rename_i a b e1 e2
    obtain ⟨⟨h1, h2⟩, O⟩ := O.grd
    obtain ⟨as, q1⟩ := pyOf_at I.hinv r1 e1
    obtain ⟨bs, q2⟩ := pyOf_at I.hinv r2 e2
    refine lf (SeqAt.compareEq_shaped q1 q2 h1 h2 (by have := R.un; omega) (O.val' I.hinv ?_))
    rw [VR]; simp
  · exact absurd rfl O.nb
theorem op_ne (R : Roomy X) : OpR X (compareOp .NotEq) (dEq true) := by
  intro G σ hs s x y u v I r1 r2 Q E O
  unfold dEq at O
  split at O
  · rename_i a b e1 e2
    obtain ⟨⟨h1, h2⟩, O⟩ := O.grd
    obtain ⟨as, q1⟩ := pyOf_at I.hinv r1 e1
    obtain ⟨bs, q2⟩ := pyOf_at I.hinv r2 e2
    refine lf (SeqAt.compareNe_shaped q1 q2 h1 h2 (by have := R.un; omega) (O.val' I.hinv ?_))
    rw [VR]; simp
  · exact absurd rfl O.nb
/-- is None, is not None -/
def isNon : D → Bool | .non => true | _ => false
def dIs (n : Bool) : D → D → Hs → Res D := fun x y hs => match y with
  | .non => .ok (.bl (n != isNon x)) hs
  | .bl c => match x with | .bl b => .ok (.bl (n != (b == c))) hs | _ => .bad
  | _ => .bad
theorem isNon_at {S : Stat} {G : Gh} {h : Heap} {x : D} {u : Value} (r : VR S G h x u) : (u == Value.none) = isNon x := by
  cases x with
  | non => rw [VR] at r; subst r; rfl
  | bl b => rw [VR] at r; subst r; rfl
  | int b => rw [VR] at r; obtain ⟨t, rfl⟩ := r; rfl
  | str b => rw [VR] at r; obtain ⟨t, rfl⟩ := r; rfl
  | tup b => rw [VR] at r; obtain ⟨a, _, rfl, _⟩ := r; rfl
  | lst b => rw [VR] at r; obtain ⟨a, _, rfl, _⟩ := r; rfl
  | dct b c => rw [VR] at r; obtain ⟨a, _, rfl, _⟩ := r; rfl
  | obj b c e => rw [VR] at r; obtain ⟨a, _, _, _, rfl, _⟩ := r; rfl
  | ref b => rw [VR] at r; obtain ⟨p, _, rfl⟩ := r; rfl
  | fn b => rw [VR] at r; subst r; rfl
  | ty b => rw [VR] at r; subst r; rfl
theorem op_is : OpR X (compareOp .Is) (dIs false) := by
  intro G σ hs s x y u v I r1 r2 Q E O
  cases y with
  | non =>
    rw [VR] at r2; subst r2
    refine lf (is_none_gen (O.val' I.hinv ?_))
    rw [isNon_at r1, VR]; simp
  | bl c =>
    rw [VR] at r2; subst r2
    cases x with
    | bl b =>
      rw [VR] at r1; subst r1
      refine lf (is_bool (O.val' I.hinv ?_))
      rw [VR]; simp
    | _ => exact absurd rfl O.nb
  | _ => exact absurd rfl O.nb
theorem op_isnot : OpR X (compareOp .IsNot) (dIs true) := by
  intro G σ hs s x y u v I r1 r2 Q E O
  cases y with
  | non =>
    rw [VR] at r2; subst r2
    refine lf (isnot_none_gen (O.val' I.hinv ?_))
    rw [isNon_at r1, VR]; simp
  | bl c =>
    rw [VR] at r2; subst r2
    cases x with
    | bl b =>
      rw [VR] at r1; subst r1
      refine lf (isnot_bool (O.val' I.hinv ?_))
      rw [VR]; cases b <;> cases c <;> rfl
    | _ => exact absurd rfl O.nb
  | _ => exact absurd rfl O.nb
end
end Qo
-- QD
set_option maxRecDepth 100000
set_option maxHeartbeats 4000000
/-! QD: operators, displays, items. -/
namespace Qo
open PySem PySem.Spec PyProof.Rows

section
variable {X : Cx} {G : Gh} {σ : St} {hs : Hs} {s : Shared} {Z : Addr → Prop} {Q : Value → Shared → Prop} {E : Value → Shared → Prop}
theorem line63 : (sizeLine : Nat) < 2 ^ 63 := by rw [sizeLine_eq]; decide
theorem Out.i {i : Int} (O : Out X Z (VRX X) G hs s (.ok (.int i) hs) Q E) (I : HInv X.S G hs s.heap) (t : Nat) {u : Tok} : Q (.int i u) { s with toks := t } := O.val I t vr_int
theorem Out.b {b : Bool} (O : Out X Z (VRX X) G hs s (.ok (.bl b) hs) Q E) (I : HInv X.S G hs s.heap) : Q (.bool b) s := O.val' I vr_bl
theorem Out.st {i : Str} (O : Out X Z (VRX X) G hs s (.ok (.str i) hs) Q E) (I : HInv X.S G hs s.heap) (t : Nat) {u : Tok} : Q (.str i u) { s with toks := t } := O.val I t vr_str
theorem int_of {h : Heap} {i : Int} {u : Value} {S : Stat} (r : VR S G h (.int i) u) : ∃ t, u = .int i t := by rw [VR] at r; exact r
theorem str_of {h : Heap} {i : Str} {u : Value} {S : Stat} (r : VR S G h (.str i) u) : ∃ t, u = .str i t := by rw [VR] at r; exact r
theorem bl_of {h : Heap} {i : Bool} {u : Value} {S : Stat} (r : VR S G h (.bl i) u) : u = .bool i := by rw [VR] at r; exact r

/-! ### arithmetic -/
def dAdd (b : Bool) : D → D → Hs → Res D := fun x y hs => match x, y with
  | .int i, .int j => .ok (.int (i + j)) hs
  | .str i, .str j => grd (i.length + j.length ≤ sizeLine) (.ok (.str (i ++ j)) hs)
  | .tup (x :: xs), .tup ys => grd ((x :: xs).length + ys.length ≤ sizeLine) (.ok (.tup (x :: xs ++ ys)) hs)
  | x, y => match asL hs x, asL hs y with
    | some xs, some ys => mkL b (xs ++ ys) hs
    | _, _ => .bad
theorem op_add (b : Bool) : OpR X (binaryOp .Add) (dAdd b) := by
  intro G σ hs s x y u v I r1 r2 Q E O
  unfold dAdd at O
  split at O
  · obtain ⟨t, rfl⟩ := int_of r1
    obtain ⟨t', rfl⟩ := int_of r2
    exact lf (add_int (O.i I.hinv _))
  · obtain ⟨t, rfl⟩ := str_of r1
    obtain ⟨t', rfl⟩ := str_of r2
    exact lf (add_str (fun _ _ => O.grd.2.st I.hinv _) O.grd.1)
  · rename_i x xs ys
    obtain ⟨a, its, rfl, t1, z1, l1, q1⟩ := tup_at r1
    obtain ⟨a2, its2, rfl, t2, z2, l2, q2⟩ := tup_at r2
    obtain ⟨hz, O⟩ := O.grd
    have n1 : its.toList ≠ [] := fun e => by
      have := q1.len
      rw [e] at this
      simp at this
    refine lf (HT.cat_tup (vs := its.toList) (ws := its2.toList) (by simpa using t1) (by simpa using t2) n1 (fun e => ?_) (fun e => ?_) (by simp only [Array.length_toList]; omega))
    · have := q2.len
      rw [e] at this
      cases ys with
      | nil => simp at O; exact O.val' I.hinv r1
      | cons _ _ => simp at this
    · exact Out.pushT (xs := x :: xs ++ ys) (by unfold mkT; rw [grd_pos (by rw [List.length_append]; exact hz)]; exact O) I.hinv (q1.append q2)
  · split at O
    · rename_i xs ys e1 e2
      obtain ⟨a, its, rfl, ⟨n1, t1⟩, z1, l1, q1⟩ := asL_at I.hinv r1 e1
      obtain ⟨a2, its2, rfl, ⟨n2, t2⟩, z2, l2, q2⟩ := asL_at I.hinv r2 e2
      obtain ⟨hz, _⟩ := id O.grd
      refine lf (PySem.P.add_list t1 t2 (O.pushL I.hinv ?_) (by rw [List.length_append] at hz; omega))
      rw [Array.toList_append]
      exact q1.append q2
    · exact absurd rfl O.nb
def dSub : D → D → Hs → Res D := fun x y hs => match x, y with
  | .int i, .int j => .ok (.int (i - j)) hs
  | _, _ => .bad
theorem op_sub : OpR X (binaryOp .Sub) dSub := by
  intro G σ hs s x y u v I r1 r2 Q E O
  unfold dSub at O
  split at O
  · obtain ⟨t, rfl⟩ := int_of r1
    obtain ⟨t', rfl⟩ := int_of r2
    exact lf (sub_int (O.i I.hinv _))
  · exact absurd rfl O.nb
def mulOk (i j : Int) : Prop := (i.natAbs < 2 ^ 64 ∨ j.natAbs < 2 ^ 64) ∨ i.natAbs.log2 + j.natAbs.log2 < 1000000
instance (i j : Int) : Decidable (mulOk i j) := by unfold mulOk; exact inferInstance
theorem mulOk.ok {i j : Int} (h : mulOk i j) : IntMulOk i j := by
  rcases h with h | h
  · exact L2.CMul.ok (by unfold L2.CMul; omega)
  · exact L2.CMulW.ok h
/-- a text i times -/
def repS (x : Str) (n : Int) : Str := ⟨((List.replicate n.toNat x.cps.toList).flatten).toArray⟩
def dMul (b : Bool) : D → D → Hs → Res D := fun x y hs => match x, y with
  | .int i, .int j => grd (mulOk i j) (.ok (.int (i * j)) hs)
  | _, _ => .bad
theorem op_mul (b : Bool) : OpR X (binaryOp .Mult) (dMul b) := by
  intro G σ hs s x y u v I r1 r2 Q E O
  unfold dMul at O
  split at O
  · obtain ⟨t, rfl⟩ := int_of r1
    obtain ⟨t', rfl⟩ := int_of r2
    exact lf (mul_int (O.grd.2.i I.hinv _) O.grd.1.ok)
  · exact absurd rfl O.nb
def dvOk (j : Int) : Prop := 0 < j ∧ j.natAbs.log2 < 9000
instance (j : Int) : Decidable (dvOk j) := by unfold dvOk; exact inferInstance
def dFdiv : D → D → Hs → Res D := fun x y hs => match x, y with
  | .int i, .int j => grd (dvOk j) (.ok (.int (i / j)) hs)
  | _, _ => .bad
theorem op_fdiv : OpR X (binaryOp .FloorDiv) dFdiv := by
  intro G σ hs s x y u v I r1 r2 Q E O
  unfold dFdiv at O
  split at O
  · obtain ⟨t, rfl⟩ := int_of r1
    obtain ⟨t', rfl⟩ := int_of r2
    obtain ⟨⟨h1, h2⟩, O⟩ := O.grd
    exact lf (floordiv_int (by omega) (by rw [Int.fdiv_eq_ediv_of_nonneg _ (by omega)]; exact O.i I.hinv _) (.inl (PyProof.noPylong_of_log2 h2)))
  · exact absurd rfl O.nb
def dMod : D → D → Hs → Res D := fun x y hs => match x, y with
  | .int i, .int j => grd (0 < j) (.ok (.int (i % j)) hs)
  | _, _ => .bad
theorem op_mod : OpR X (binaryOp .Mod) dMod := by
  intro G σ hs s x y u v I r1 r2 Q E O
  unfold dMod at O
  split at O
  · obtain ⟨t, rfl⟩ := int_of r1
    obtain ⟨t', rfl⟩ := int_of r2
    obtain ⟨h1, O⟩ := O.grd
    exact lf (mod_int' (by omega) (by rw [Int.fmod_eq_emod_of_nonneg _ (by omega)]; exact O.i I.hinv _))
  · exact absurd rfl O.nb
def dPow : D → D → Hs → Res D := fun x y hs => match x, y with
  | .int i, .int j => grd (0 ≤ j ∧ j ≤ 1000000 ∧ i.natAbs < 2 ^ 64) (.ok (.int (i ^ j.toNat)) hs)
  | _, _ => .bad
theorem op_pow : OpR X (binaryOp .Pow) dPow := by
  intro G σ hs s x y u v I r1 r2 Q E O
  unfold dPow at O
  split at O
  · obtain ⟨t, rfl⟩ := int_of r1
    obtain ⟨t', rfl⟩ := int_of r2
    obtain ⟨⟨h1, h2, h3⟩, O⟩ := O.grd
    exact lf (pow_int_small h1 h2 h3 (O.i I.hinv _))
  · exact absurd rfl O.nb
/-! ### order -/
inductive Cmp | lt | le | gt | ge
def cmpI : Cmp → Int → Int → Bool
  | .lt, i, j => decide (i < j) | .le, i, j => decide (i ≤ j) | .gt, i, j => decide (j < i) | .ge, i, j => decide (j ≤ i)
def ltS (x y : Str) : Bool := decide (x.cps.toList < y.cps.toList)
def cmpS : Cmp → Str → Str → Option Bool
  | .lt, x, y => some (ltS x y) | .gt, x, y => some (ltS y x) | .le, x, y => some (!ltS y x) | .ge, x, y => some (!ltS x y)
def dCmp (c : Cmp) : D → D → Hs → Res D := fun x y hs => match x, y with
  | .int i, .int j => .ok (.bl (cmpI c i j)) hs
  | .str i, .str j => match cmpS c i j with | some b => .ok (.bl b) hs | none => .bad
  | _, _ => .bad
def cmpOf : Cmp → CmpOp | .lt => .Lt | .le => .LtE | .gt => .Gt | .ge => .GtE
theorem op_cmp (c : Cmp) : OpR X (compareOp (cmpOf c)) (dCmp c) := by
  intro G σ hs s x y u v I r1 r2 Q E O
  unfold dCmp at O
  split at O
  · obtain ⟨t, rfl⟩ := int_of r1
    obtain ⟨t', rfl⟩ := int_of r2
    have fin := O.b I.hinv
    cases c with
    | lt => exact lf (lt_int fin)
    | le => exact lf (le_int fin)
    | gt => exact lf (gt_int fin)
    | ge => exact lf (ge_int fin)
  · obtain ⟨t, rfl⟩ := str_of r1
    obtain ⟨t', rfl⟩ := str_of r2
    cases c with
    | lt => exact lf (lt_str (O.b I.hinv))
    | le => exact lf (PySem.P.le_str (O.b I.hinv))
    | gt => exact lf (PySem.P.gt_str (O.b I.hinv))
    | ge => exact lf (PySem.P.ge_str (O.b I.hinv))
  · exact absurd rfl O.nb
/-! ### in -/
def inS (x y : Str) : Bool := !(Builtin.Str.occurrences y x 0 y.length 1).isEmpty
def dIn (n : Bool) : D → D → Hs → Res D := fun x y hs => match x, y with
  | .str i, .str j => .ok (.bl (n != inS i j)) hs
  | x, y => match pyOf hs x, pyOf hs y with
    | some a, some (.tuple bs) => grd (okPy a = true ∧ okPy (.tuple bs) = true) (.ok (.bl (n != bs.any fun b => b.eqv a)) hs)
    | some a, some (.list bs) => grd (okPy a = true ∧ okPy (.list bs) = true) (.ok (.bl (n != bs.any fun b => b.eqv a)) hs)
    | _, _ => .bad
theorem room_in {a : PyData} {bs : List PyData} (h : okPy a = true) (hu : X.A.units + 200 < cLine) : X.A.units + 1 + min (PyData.depthAll bs) a.depth < cLine := by
  have h1 := SeqAt.depth_of_shaped h
  have h2 : min (PyData.depthAll bs) a.depth ≤ a.depth := Nat.min_le_right _ _
  omega
theorem op_in (R : Roomy X) : OpR X (compareOp .In) (dIn false) := by
  intro G σ hs s x y u v I r1 r2 Q E O
  unfold dIn at O
  split at O
  · obtain ⟨t, rfl⟩ := str_of r1
    obtain ⟨t', rfl⟩ := str_of r2
    refine lf (in_str (O.val' I.hinv ?_))
    rw [VR]; simp [inS]
  · split at O
    · rename_i a bs e1 e2
      obtain ⟨⟨h1, h2⟩, O⟩ := O.grd
      obtain ⟨as, q1⟩ := pyOf_at I.hinv r1 e1
      obtain ⟨cs, q2⟩ := pyOf_at I.hinv r2 e2
      refine lf (SeqAt.in_tuple_reads q2 q1 (SeqAt.canLay_of_shaped h2) (SeqAt.canLay_of_shaped h1) (room_in h1 R.un) (O.val' I.hinv ?_))
      rw [VR]; simp
    · rename_i a bs e1 e2
      obtain ⟨⟨h1, h2⟩, O⟩ := O.grd
      obtain ⟨as, q1⟩ := pyOf_at I.hinv r1 e1
      obtain ⟨cs, q2⟩ := pyOf_at I.hinv r2 e2
      refine lf (SeqAt.in_list_reads q2 q1 (SeqAt.canLay_of_shaped h2) (SeqAt.canLay_of_shaped h1) (room_in h1 R.un) (O.val' I.hinv ?_))
      rw [VR]; simp
    · exact absurd rfl O.nb
theorem op_notin (R : Roomy X) : OpR X (compareOp .NotIn) (dIn true) := by
  intro G σ hs s x y u v I r1 r2 Q E O
  unfold dIn at O
  split at O
  · obtain ⟨t, rfl⟩ := str_of r1
    obtain ⟨t', rfl⟩ := str_of r2
    refine lf (notIn_str (O.val' I.hinv ?_))
    rw [VR]; simp [inS]
  · split at O
    · rename_i a bs e1 e2
      obtain ⟨⟨h1, h2⟩, O⟩ := O.grd
      obtain ⟨as, q1⟩ := pyOf_at I.hinv r1 e1
      obtain ⟨cs, q2⟩ := pyOf_at I.hinv r2 e2
      refine lf (SeqAt.notIn_tuple_reads q2 q1 (SeqAt.canLay_of_shaped h2) (SeqAt.canLay_of_shaped h1) (room_in h1 R.un) (O.val' I.hinv ?_))
      rw [VR]; simp
    · rename_i a bs e1 e2
      obtain ⟨⟨h1, h2⟩, O⟩ := O.grd
      obtain ⟨as, q1⟩ := pyOf_at I.hinv r1 e1
      obtain ⟨cs, q2⟩ := pyOf_at I.hinv r2 e2
      refine lf (SeqAt.notIn_list_reads q2 q1 (SeqAt.canLay_of_shaped h2) (SeqAt.canLay_of_shaped h1) (room_in h1 R.un) (O.val' I.hinv ?_))
      rw [VR]; simp
    · exact absurd rfl O.nb
/-! ### arguments, displays -/
def aNil : SA := fun _ hs => .ok [] hs
def aCons (a : SE) (b : SA) : SA := fun σ hs => (a σ hs).bind fun x h => (b σ h).bind fun xs h => .ok (x :: xs) h
theorem pa_nil : PA X [] aNil := ⟨fun _ G _ _ s I _ _ O => Calls.spliced_nil (O.ok [] _ rfl [] s G (Ev.refl I.hinv) .nil)⟩
theorem pa_cons {e : Expr} {es : List Expr} {m : SE} {ms : SA} (ha : PE X e m) (hr : PA X es ms) (hs : starEach (e :: es) X.env = (false, eval e X.env) :: starEach es X.env) : PA X (e :: es) (aCons m ms) := by
  refine ⟨fun pos G σ hs' s I Q E O => ?_⟩
  rw [hs]
  show wpAny _ _ (spliced ((false, eval e X.env) :: backTo pos (starEach es X.env))) _ _ s
  refine Calls.spliced_cons ((ha.run G σ hs' s I).thn O fun x h1 u s1 G1 _ e1 r1 O1 => ?_)
  refine (hr.run pos G1 σ h1 s1 (I.step e1)).thn O1 fun xs h2 us s2 G2 _ e2 r2 O2 => ?_
  exact O2.ok _ _ rfl _ _ _ (Ev.refl e2.inv) (.cons (VR.mono ((I.step e1).grow e2) _ _ r1) r2)
def eTup (a : SA) : SE := fun σ hs => (a σ hs).bind fun xs h => mkT xs h
def eLst (b : Bool) (a : SA) : SE := fun σ hs => (a σ hs).bind fun xs h => mkL b xs h
theorem pe_tup {es : List Expr} {m : SA} {x1 : Nat} {pos : Pos} (h : PA X es m) : PE X (.Tuple es x1 pos) (eTup m) := by
  refine ⟨fun G σ hs s I Q E O => wpAny_Tuple_spliced ((h.run pos G σ hs s I).thn O fun xs h1 us s1 G1 _ e1 r1 O1 => ?_)⟩
  have hz : xs.length ≤ sizeLine := O1.grd.1
  exact ⟨by rw [r1.len]; exact hz, O1.pushT e1.inv (t := s1.toks) (by simpa using r1)⟩
theorem pe_lst {es : List Expr} {m : SA} {pos : Pos} (b : Bool) (h : PA X es m) : PE X (.List es pos) (eLst b m) := by
  refine ⟨fun G σ hs s I Q E O => wpAny_List_spliced ((h.run pos G σ hs s I).thn O fun xs h1 us s1 G1 _ e1 r1 O1 => ?_)⟩
  have hz : xs.length ≤ sizeLine := O1.grd.1
  exact ⟨by rw [r1.len]; exact hz, O1.pushL e1.inv (t := s1.toks) (by simpa using r1)⟩
/-! ### items -/
abbrev atI {α : Type} (xs : List α) (i : Int) : Option α := L2.atI xs i
def dIx : D → D → Hs → Res D := fun x y hs => match x, y with
  | .str z, .int i => match atI z.cps.toList i with
    | some c => grd (z.length ≤ sizeLine) (.ok (.str ⟨#[c]⟩) hs)
    | none => .bad
  | .tup xs, .int i => match atI xs i with
    | some d => .ok d hs
    | none => .bad
  | x, .int i => match asL hs x with
    | some xs => match atI xs i with
      | some d => .ok d hs
      | none => .bad
    | none => .bad
  | _, _ => .bad
theorem ix_ok {value slice : Expr} {x y : D} {u v : Value} (I : Inv X G σ hs s) (r1 : VR X.S G s.heap x u) (r2 : VR X.S G s.heap y v) (O : Out X Z (VRX X) G hs s (dIx x y hs) Q E) (hsb : subscripted slice false u v = operate [u, v] (getItem u v)) : wpAny (model X.S.P X.S.w) X.A (subscriptTail value slice u v) Q E s := by
  have hn := line63
  unfold dIx at O
  split at O
  · rename_i z i
    obtain ⟨t, rfl⟩ := str_of r1
    obtain ⟨t', rfl⟩ := int_of r2
    split at O
    · rename_i c he
      obtain ⟨hz, O⟩ := O.grd
      obtain ⟨j, h1, h2, h3, h4, h5⟩ := L2.atI_get he
      have hl : z.cps.toList.length = z.length := by simp [Str.length]
      rw [hl] at h1 h4 h5
      exact tail_any (typeIs_str s z t) slot_str_getitem.lookup (lf (getItem_str (c := c) (by
        have e1 : decide (i < -(2 ^ 63 : Int)) = false := decide_eq_false (by omega)
        have e2 : decide (i ≥ 2 ^ 63) = false := decide_eq_false (by omega)
        rw [e1, e2, Bool.or_false]) (by rw [h1]; simpa using h2) (O.st I.hinv _))) hsb
    · exact absurd rfl O.nb
  · rename_i xs i
    obtain ⟨a, its, rfl, t1, z1, l1, q1⟩ := tup_at r1
    obtain ⟨t', rfl⟩ := int_of r2
    split at O
    · rename_i d he
      obtain ⟨j, h1, h2, h3, h4, h5⟩ := L2.atI_get he
      obtain ⟨w', ew, rw'⟩ := q1.get h2
      exact lf (subscriptTail_builtinR (x := w') t1.typeIs slot_tuple_getitem.lookup
        (PyProof.Rows.getItem_tuple (j := j) (Q := fun r s' => r = w' ∧ Q r s') t1 (by omega) (by omega) (by rw [l1]; exact h1) (by simpa using ew) ⟨rfl, O.val' I.hinv rw'⟩) hsb)
    · exact absurd rfl O.nb
  · rename_i i hne1 hne2
    split at O
    · rename_i xs e1
      obtain ⟨a, its, rfl, t1, z1, l1, q1⟩ := asL_at I.hinv r1 e1
      obtain ⟨t', rfl⟩ := int_of r2
      split at O
      · rename_i d he
        obtain ⟨j, h1, h2, h3, h4, h5⟩ := L2.atI_get he
        obtain ⟨w', ew, rw'⟩ := q1.get h2
        have fin : Q w' s := O.val' I.hinv rw'
        by_cases h0 : 0 ≤ i
        · have hj : i.toNat = j := by
            rw [seqIndex_of h0 h5] at h1
            exact Option.some.inj h1
          exact lf (item_listR t1.isList h0 (by omega) (by rw [hj]; simpa using ew) fin hsb)
        · have hj : (i + (its.size : Int)).toNat = j := by
            rw [l1]
            rw [seqIndex_neg (by omega) h4] at h1
            exact Option.some.inj h1
          exact lf (subscriptTail_builtinR (x := w') t1.isList.typeIs slot_list_getitem.lookup
            (wpAny_getItem_list_neg (Q := fun r s' => r = w' ∧ Q r s') t1.isList (by omega) (by omega) (by omega) (by rw [hj]; simpa using ew) ⟨rfl, fin⟩) hsb)
      · exact absurd rfl O.nb
    · exact absurd rfl O.nb
  · exact absurd rfl O.nb
theorem pe_ix {a b : Expr} {ma mb : SE} {pos : Pos} (ha : PE X a ma) (hb : PE X b mb) (hsb : ∀ o i, subscripted b false o i = operate [o, i] (getItem o i)) : PE X (.Subscript a b pos) (eOp dIx ma mb) := by
  refine ⟨fun G σ hs s I Q E O => Subscript_ ((ha.run G σ hs s I).thn O fun x h1 v s1 G1 _ e1 r1 O1 => ?_)⟩
  have I1 := I.step e1
  refine (hb.run G1 σ h1 s1 I1).thn O1 fun y h2 u s2 G2 _ e2 r2 O2 => ?_
  exact ix_ok (I1.step e2) (VR.mono (I1.grow e2) _ _ r1) r2 O2 (hsb _ _)
end
end Qo
-- QE
set_option maxRecDepth 100000
set_option maxHeartbeats 4000000
/-! QE: statements, targets. -/
namespace Qo
open PySem PySem.Spec PyProof.Rows

inductive Fl where
  | nx | bk | ct | rt (d : D)
abbrev SS := St → Hs → Res (Fl × St)
def FlR (S : Stat) (G : Gh) (h : Heap) : Fl → Flow → Prop
  | .nx, .next => True
  | .bk, .brk => True
  | .ct, .cont => True
  | .rt d, .ret u => VR S G h d u
  | _, _ => False
def SR (X : Cx) : Gh → Heap → Fl × St → Flow → Prop := fun G h r f => FrInv X G r.2 h ∧ FlR X.S G h r.1 f
structure PS (X : Cx) (st : Stmt) (m : SS) : Prop where
  run : ∀ (G : Gh) (σ : St) (hs : Hs) (s : Shared), Inv X G σ hs s → Sat X X.own (exec st X.env) (SR X) G hs s (m σ hs)
structure PSs (X : Cx) (st : List Stmt) (m : SS) : Prop where
  run : ∀ (G : Gh) (σ : St) (hs : Hs) (s : Shared), Inv X G σ hs s → Sat X X.own (execs st X.env) (SR X) G hs s (m σ hs)
/-- a target: the value comes in -/
abbrev SG := D → St → Hs → Res St
abbrev SGs := List D → St → Hs → Res St
def FR (X : Cx) : Gh → Heap → St → Unit → Prop := fun G h σ _ => FrInv X G σ h
structure PG (X : Cx) (t : Expr) (g : SG) : Prop where
  run : ∀ (G : Gh) (σ : St) (hs : Hs) (s : Shared) (d : D) (u : Value), Inv X G σ hs s → VR X.S G s.heap d u → Sat X X.own (assign t X.env u) (FR X) G hs s (g d σ hs)
structure PGs (X : Cx) (ts : List Expr) (g : SGs) : Prop where
  run : ∀ (G : Gh) (σ : St) (hs : Hs) (s : Shared) (ds : List D) (us : List Value), Inv X G σ hs s → VRs X.S G s.heap ds us → Sat X X.own (assignInOrder ((assignEach ts X.env).map (·.2)) us) (FR X) G hs s (g ds σ hs)

section
variable {X : Cx} {G : Gh} {σ : St} {hs : Hs} {s : Shared} {Z : Addr → Prop} {E : Value → Shared → Prop}
theorem Inv.notOwn (I : Inv X G σ hs s) : ∀ a, X.own a → ¬ G.im a := fun a x => I.fr.nim a x
/-- the invariant behind a step that stored names -/
theorem Inv.stepS {σ' : St} {hs' : Hs} {s' : Shared} {G' : Gh} (I : Inv X G σ hs s) (e : Ev X.S X.own G hs s G' hs' s') (f : FrInv X G' σ' s'.heap) : Inv X G' σ' hs' s' := ⟨I.ok, e.inv, f, e.stp.bare I.bare⟩
theorem Inv.growS {hs' : Hs} {s' : Shared} {G' : Gh} (I : Inv X G σ hs s) (e : Ev X.S X.own G hs s G' hs' s') : Grow G G' s.heap s'.heap := e.grow I.hinv I.notOwn
/-- one object of Z is written, no cell, nothing that is known -/
theorem Ev.wrZ (I : HInv X.S G hs s.heap) {h' : Heap} {t : Nat} {a : Addr} (hz : Z a) (hi : ¬ G.im a) (hm : ∀ (i : Nat) (p : Addr × Addr), G.mu[i]? = some p → a ≠ p.1 ∧ a ≠ p.2) (sb : Heap.SameBut a s.heap h') (al : ∃ o, h'.get? a = some o) (ng : ¬ GenObj s.heap a) :
    Ev X.S Z G hs s G hs { s with heap := h', toks := t } := by
  have k : ∀ b o, b ≠ a → s.heap.get? b = some o → h'.get? b = some o := fun b o n x => (sb.2 b n).trans x
  have g : Grow G G s.heap h' := ⟨fun _ x => x, fun b o x y => k b o (fun z => hi (z ▸ x)) y, fun _ _ x => x⟩
  refine ⟨⟨fun b o n x => k b o (fun z => n (.inr (z ▸ hz))) x, fun b o x => ?_, rfl, fun _ _ x => x, fun x => x.but rfl k ng⟩, Nat.le_refl _, fun _ _ x => x, fun _ x => x, fun i p x y => (by rw [x] at y; cases y), fun _ _ x => x, fun _ x => .inl x, ?_, I.len⟩
  · by_cases hb : b = a
    · rw [hb]; exact al
    · exact ⟨o, k b o hb x⟩
  · refine ⟨I.len, I.inj, fun i p f c x y => (I.cell i p f c x y).mono g (fun o q => k _ o (fun z => (hm i p x).1 z.symm) q) (fun o q => k _ o (fun z => (hm i p x).2 z.symm) q), I.free, I.froz, fun b x => ?_, fun b o x => ?_⟩
    · obtain ⟨o, y⟩ := I.live b x
      exact ⟨o, g.keep b o x y⟩
    · obtain ⟨h1, h2⟩ := I.base b o x
      exact ⟨g.keep b o h2 h1, h2⟩
def Loc (X : Cx) (x : Str) : Prop := X.env.scope.names.lookup x = some .local ∨ (X.env.scope.names.lookup x = some .cell ∧ X.fn x = true)
theorem store_ok {x : Str} {i : Nat} {d : D} {u : Value} {Q : Unit → Shared → Prop} (I : Inv X G σ hs s) (hi : X.vars.lookup x = some i) (hx : Loc X x) (r : VR X.S G s.heap d u)
    (h : ∀ s', Ev X.S X.own G hs s G hs s' → FrInv X G (σ.set i (some d)) s'.heap → Q () s') : wpAny (model X.S.P X.S.w) X.A (storeName X.env x u) Q E s := by
  obtain ⟨m, hn, hl⟩ := id I.fr.loc
  have hcls : (X.env.scope.kind == .class || (X.env.scope.kind == .module && X.env.locals != X.env.globals)) = false := by rw [I.ok.kind]; rfl
  have get : ∀ {y : Str} {j : Nat} {d' : D}, X.vars.lookup y = some j → (σ.set i (some d))[j]? = some (some d') → (y = x ∧ d' = d) ∨ (y ≠ x ∧ σ[j]? = some (some d')) := fun {y j d'} h1 h2 => by
    by_cases hj : j = i
    · subst hj
      have := I.ok.vinj y x j h1 hi
      rw [List.getElem?_set] at h2
      simp at h2
      exact .inl ⟨this, h2.2.symm⟩
    · rw [List.getElem?_set_ne (Ne.symm hj)] at h2
      exact .inr ⟨fun z => by rw [z, hi] at h1; exact hj (Option.some.inj h1).symm, h2⟩
  rcases hx with hk | ⟨hk, hfn⟩
  · refine lf (wpAny_storeName_local hk hn (fun h' hn' sb => ?_) hcls)
    have ap := I.fr.apart _ (.inl rfl)
    have e : Ev X.S X.own G hs s G hs { s with heap := h', toks := s.toks + 1 } := Ev.wrZ I.hinv I.ok.ownl (I.fr.nim _ I.ok.ownl) ap sb (let ⟨o, _, _, e, _⟩ := hn'; ⟨o, e⟩) (let ⟨o, _, _, e, d, _⟩ := hn; notGen e fun vs z => by rw [d] at z; cases z)
    have g := I.growS e
    refine h _ e ⟨⟨_, hn', fun y j d' h1 h2 hv => ?_⟩, fun y c z => ?_, I.fr.apart, I.fr.nim⟩
    · rcases get h1 h2 with ⟨rfl, rfl⟩ | ⟨ny, h2⟩
      · exact ⟨u, VR.mono g _ _ r, .inl ⟨hk, by simp⟩⟩
      · obtain ⟨u', r', l⟩ := hl y j d' h1 h2 hv
        refine ⟨u', VR.mono g _ _ r', ?_⟩
        rcases l with ⟨k, l⟩ | ⟨k, c, l, q⟩
        · exact .inl ⟨k, by simp [ny, l]⟩
        · refine .inr ⟨k, c, l, q.sameBut sb ?_⟩
          intro z
          obtain ⟨o1, e1, f1⟩ := q
          obtain ⟨o2, es, ep, e2, f2, _⟩ := hn
          rw [z, e2] at e1
          cases e1
          rw [f2] at f1
          cases f1
    · obtain ⟨v, q⟩ := I.fr.cell y c z
      refine ⟨v, q.sameBut sb ?_⟩
      intro z
      obtain ⟨o1, e1, f1⟩ := q
      obtain ⟨o2, es, ep, e2, f2, _⟩ := hn
      rw [z, e2] at e1
      cases e1
      rw [f2] at f1
      cases f1
  · obtain ⟨c, hc⟩ := I.ok.hasc x hk
    obtain ⟨v0, z⟩ := I.fr.cell x c hc
    refine lf (wpAny_storeName_cell I.ok.kind hk hc z fun h' hc' sb => ?_)
    have ap := I.fr.apart c (.inr ⟨x, hc⟩)
    have e : Ev X.S X.own G hs s G hs { s with heap := h', toks := s.toks } := Ev.wrZ I.hinv (I.ok.ownc x c hfn hc) (I.fr.nim _ (I.ok.ownc x c hfn hc)) ap sb (let ⟨o, e, _⟩ := hc'; ⟨o, e⟩) (let ⟨o, e, d⟩ := z; notGen e fun vs z => by rw [d] at z; cases z)
    have g := I.growS e
    have nl : X.env.locals ≠ c := fun q => by
      obtain ⟨o1, e1, f1⟩ := z
      obtain ⟨o2, es, ep, e2, f2, _⟩ := hn
      rw [← q, e2] at e1
      cases e1
      rw [f2] at f1
      cases f1
    refine h _ e ⟨⟨m, hn.sameBut sb nl, fun y j d' h1 h2 hv => ?_⟩, fun y c' q => ?_, I.fr.apart, I.fr.nim⟩
    · rcases get h1 h2 with ⟨rfl, rfl⟩ | ⟨ny, h2⟩
      · exact ⟨u, VR.mono g _ _ r, .inr ⟨.inl hk, c, hc, hc'⟩⟩
      · obtain ⟨u', r', l⟩ := hl y j d' h1 h2 hv
        refine ⟨u', VR.mono g _ _ r', ?_⟩
        rcases l with l | ⟨k, c', l, q⟩
        · exact .inl l
        · exact .inr ⟨k, c', l, q.sameBut sb fun w => ny (I.ok.inj y x c' l (w ▸ hc))⟩
    · by_cases w : c' = c
      · rw [w]; exact ⟨_, hc'⟩
      · obtain ⟨v, y⟩ := I.fr.cell y c' q
        exact ⟨v, y.sameBut sb w⟩

/-! ### blocks -/
def sNil : SS := fun σ hs => .ok (.nx, σ) hs
def sCons (a b : SS) : SS := fun σ hs => (a σ hs).bind fun r h => match r.1 with | .nx => b r.2 h | _ => .ok r h
theorem pss_nil : PSs X [] sNil := ⟨fun G σ hs s I Q E O => wpAny_execs_nil (O.ok _ _ rfl _ _ G (Ev.refl I.hinv) ⟨I.fr, trivial⟩)⟩
theorem pss_cons {st : Stmt} {rest : List Stmt} {a b : SS} (h1 : PS X st a) (h2 : PSs X rest b) : PSs X (st :: rest) (sCons a b) := by
  refine ⟨fun G σ hs s I Q E O => wpAny_execs_cons ((h1.run G σ hs s I).thn O fun r hs1 f s1 G1 _ e1 r1 O1 => ?_)⟩
  obtain ⟨fl, σ1⟩ := r
  obtain ⟨f1, q⟩ := r1
  have fin : ∀ {fl f}, FlR X.S G1 s1.heap fl f → Out X X.own (SR X) G1 hs1 s1 (.ok (fl, σ1) hs1) Q E → Q f s1 := fun q O => O.ok _ _ rfl _ _ _ (Ev.refl e1.inv) ⟨f1, q⟩
  cases fl <;> cases f <;> first | exact h2.run G1 σ1 hs1 s1 (I.stepS e1 f1) Q E O1 | exact q.elim | exact fin q O1
def sSkip : SS := fun σ hs => .ok (.nx, σ) hs
theorem ps_pass {pos : Pos} : PS X (.Pass pos) sSkip := ⟨fun G σ hs s I Q E O => wpAny_Pass (O.ok _ _ rfl _ _ G (Ev.refl I.hinv) ⟨I.fr, trivial⟩)⟩
theorem ps_break {pos : Pos} : PS X (.Break pos) (fun σ hs => .ok (.bk, σ) hs) := ⟨fun G σ hs s I Q E O => wpAny_Break (O.ok _ _ rfl _ _ G (Ev.refl I.hinv) ⟨I.fr, trivial⟩)⟩
theorem ps_continue {pos : Pos} : PS X (.Continue pos) (fun σ hs => .ok (.ct, σ) hs) := ⟨fun G σ hs s I Q E O => wpAny_Continue (O.ok _ _ rfl _ _ G (Ev.refl I.hinv) ⟨I.fr, trivial⟩)⟩
theorem Inv.quiet (I : Inv X G σ hs s) : interactive X.env = false := by simp [interactive, I.ok.kind]
def sExpr (m : SE) : SS := fun σ hs => (m σ hs).bind fun _ h => .ok (.nx, σ) h
theorem Inv.frE {G' : Gh} {hs' : Hs} {s' : Shared} (I : Inv X G σ hs s) (e : Ev X.S noZ G hs s G' hs' s') : FrInv X G' σ s'.heap := (I.step e).fr
theorem ps_expr {e : Expr} {m : SE} {pos : Pos} (h : PE X e m) (hs' : swapsWith e none pos.line X.env = pure false) : PS X (.Expr e pos) (sExpr m) := by
  refine ⟨fun G σ hs s I Q E O => wpAny_Expr_any ((h.run G σ hs s I).thnZ O fun d hs1 v s1 G1 _ e1 r1 O1 => ?_) I.quiet hs'⟩
  exact O1.ok _ _ rfl _ _ _ (Ev.refl e1.inv) ⟨I.frE e1, trivial⟩
def sRet (m : SE) : SS := fun σ hs => (m σ hs).bind fun d h => .ok (.rt d, σ) h
theorem ps_ret {e : Expr} {m : SE} {pos : Pos} (h : PE X e m) : PS X (.Return (some e) pos) (sRet m) := by
  refine ⟨fun G σ hs s I Q E O => wpAny_Return_some ((h.run G σ hs s I).thnZ O fun d hs1 v s1 G1 _ e1 r1 O1 => ?_)⟩
  exact O1.ok _ _ rfl _ _ _ (Ev.refl e1.inv) ⟨I.frE e1, r1⟩
theorem ps_retN {pos : Pos} : PS X (.Return none pos) (fun σ hs => .ok (.rt .non, σ) hs) := ⟨fun G σ hs s I Q E O => wpAny_Return_none (O.ok _ _ rfl _ _ G (Ev.refl I.hinv) ⟨I.fr, by show VR _ _ _ _ _; rw [VR]⟩)⟩
def sIf (c : ST) (a b : SS) : SS := fun σ hs => (c σ hs).bind fun t h => if t = true then a σ h else b σ h
theorem ps_if {c : Expr} {a b : List Stmt} {mc : ST} {ma mb : SS} {pos : Pos} (hc : PT X c mc) (ha : PSs X a ma) (hb : PSs X b mb) : PS X (.If c a b pos) (sIf mc ma mb) := by
  refine ⟨fun G σ hs s I Q E O => wpAny_If ((hc.run G σ hs s I).thnZ O fun d h1 d' s1 G1 _ e1 q O1 => ?_)⟩
  subst q
  cases d' with
  | true => exact ha.run G1 σ h1 s1 (I.step e1) Q E O1
  | false => exact hb.run G1 σ h1 s1 (I.step e1) Q E O1

/-! ### targets -/
def gName (i : Nat) : SG := fun d σ hs => .ok (σ.set i (some d)) hs
theorem pg_name {x : Str} {i : Nat} {pos : Pos} (hi : X.vars.lookup x = some i) (hx : Loc X x) : PG X (.Name x pos) (gName i) :=
  ⟨fun G σ hs s d u I r Q E O => assign_Name (store_ok I hi hx r fun s' e f => O.ok _ _ rfl _ _ _ e f)⟩
def gNil : SGs := fun ds σ hs => match ds with | [] => .ok σ hs | _ => .bad
def gCons (a : SG) (b : SGs) : SGs := fun ds σ hs => match ds with | d :: ds => (a d σ hs).bind fun σ1 h => b ds σ1 h | _ => .bad
theorem pgs_nil : PGs X [] gNil := by
  refine ⟨fun G σ hs s ds us I r Q E O => ?_⟩
  cases ds with
  | nil =>
    rw [VRs] at r; subst r
    exact lf (assignInOrder_nil (O.ok _ _ rfl _ _ _ (Ev.refl I.hinv) I.fr))
  | cons _ _ => exact absurd rfl O.nb
theorem pgs_cons {t : Expr} {ts : List Expr} {a : SG} {b : SGs} (h1 : PG X t a) (h2 : PGs X ts b) (hst : (assignEach (t :: ts) X.env).map (·.2) = assign t X.env :: (assignEach ts X.env).map (·.2)) : PGs X (t :: ts) (gCons a b) := by
  refine ⟨fun G σ hs s ds us I r Q E O => ?_⟩
  cases ds with
  | nil => exact absurd rfl O.nb
  | cons d ds =>
    rw [VRs] at r
    obtain ⟨u, us, rfl, r1, r2⟩ := r
    rw [hst]
    refine assignInOrder_cons ((h1.run G σ hs s d u I r1).thn O fun σ1 hs1 _ s1 G1 _ e1 f1 O1 => ?_)
    exact h2.run G1 σ1 hs1 s1 ds us (I.stepS e1 f1) (VRs.mono (I.growS e1) _ _ r2) Q E O1
/-- (a, b, ..) = a tuple of that length -/
def gTup (n : Nat) (g : SGs) : SG := fun d σ hs => match d with | .tup xs => grd (xs.length = n) (g xs σ hs) | _ => .bad
theorem pg_tup {es : List Expr} {k n : Nat} {pos : Pos} {g : SGs} (h : PGs X es g) (hn : (assignEach es X.env).length = n) (hst : (assignEach es X.env).findIdx? (·.1) = none) : PG X (.Tuple es k pos) (gTup n g) := by
  refine ⟨fun G σ hs s d u I r Q E O => ?_⟩
  unfold gTup at O
  split at O
  · rename_i xs
    obtain ⟨a, its, rfl, t1, z1, l1, q1⟩ := tup_at r
    obtain ⟨hl, O⟩ := O.grd
    refine assign_Tuple_tuple I.ok.hd t1 (by omega) hst fun h' hx => ?_
    have kk : ∀ b o, s.heap.get? b = some o → h'.get? b = some o := fun b o e => hx b o (Nat.ne_of_lt (Heap.lt_size e)) e
    have e : Ev X.S noZ G hs s G hs { s with heap := h' } := Ev.kept I.hinv kk
    exact h.run G σ hs _ xs _ (I.step e) (VRs.mono (I.grow e) _ _ q1) Q E (O.mv e)
  · exact absurd rfl O.nb
end
end Qo
-- QF
set_option maxRecDepth 100000
set_option maxHeartbeats 4000000
/-! QF: what a def hands back is frozen; calls of defs. -/
namespace Qo
open PySem PySem.Spec PyProof.Rows

mutual
def wk (f : Nat → Option D) : D → Option D
  | .ref i => f i
  | .tup xs => (wks f xs).map .tup
  | .lst xs => (wks f xs).map .lst
  | .dct ks vs => (wks f vs).map (.dct ks)
  | .obj c ns vs => (wks f vs).map (.obj c ns)
  | .non => some .non
  | .bl b => some (.bl b)
  | .int i => some (.int i)
  | .str x => some (.str x)
  | .fn a => some (.fn a)
  | .ty n => some (.ty n)
def wks (f : Nat → Option D) : List D → Option (List D)
  | [] => some []
  | x :: xs => match wk f x, wks f xs with
    | some a, some b => some (a :: b)
    | _, _ => none
end
/-- a ref below b stands, one above it is told by what it holds -/
def rsv (hs : Hs) (b : Nat) : Nat → Nat → Option D
  | 0, i => if i < b then some (.ref i) else none
  | n + 1, i => if i < b then some (.ref i) else match hs[i]? with
    | some (_, .lst xs) => (wks (rsv hs b n) xs).map .lst
    | some (_, .dct ks vs) => (wks (rsv hs b n) vs).map (.dct ks)
    | some (_, .ins c ns vs) => (wks (rsv hs b n) vs).map (.obj c ns)
    | none => none
def frz (hs : Hs) (b : Nat) (d : D) : Option D := wk (rsv hs b 4) d
def low (b : Nat) (i : Nat) : Option D := if i < b then some (.ref i) else none
def cloC (b : Nat) : Cell → Bool
  | .lst xs => (wks (low b) xs).isSome
  | .dct _ vs => (wks (low b) vs).isSome
  | .ins _ _ vs => (wks (low b) vs).isSome
/-- what a def hands back: all that it made is known, and frozen; or (m) it stays as it is -/
def finR (m : Bool) (b : Nat) (d : D) (hs : Hs) : Res D := if m = true then .ok d hs else match frz hs b d with
  | some d' => grd ((hs.take b).all (fun c => cloC b c.2) = true) (.ok d' (hs.take b))
  | none => .bad

mutual
theorem VR.wk {S : Stat} {G G' : Gh} {h : Heap} {f : Nat → Option D} (im : ∀ a, G.im a → G'.im a) (hf : ∀ i p d, G.mu[i]? = some p → f i = some d → VR S G' h d (.ref p.1)) : ∀ (d : D) (u : Value) (d' : D), VR S G h d u → Qo.wk f d = some d' → VR S G' h d' u
  | .ref i, u, d', r, e => by
    rw [VR] at r
    obtain ⟨p, e1, rfl⟩ := r
    exact hf i p d' e1 e
  | .tup xs, u, d', r, e => by
    rw [VR] at r
    obtain ⟨a, its, rfl, i, z, t, q⟩ := r
    rw [Qo.wk] at e
    cases h1 : Qo.wks f xs with
    | none => rw [h1] at e; cases e
    | some ys =>
      rw [h1] at e; cases e
      have := VRs.wks im hf xs _ ys q h1
      have l1 := this.len
      have l2 := q.len
      rw [VR]
      exact ⟨a, its, rfl, im a i, by omega, t, this⟩
  | .lst xs, u, d', r, e => by
    rw [VR] at r
    obtain ⟨a, its, rfl, i, z, t, q⟩ := r
    rw [Qo.wk] at e
    cases h1 : Qo.wks f xs with
    | none => rw [h1] at e; cases e
    | some ys =>
      rw [h1] at e; cases e
      have := VRs.wks im hf xs _ ys q h1
      have l1 := this.len
      have l2 := q.len
      rw [VR]
      exact ⟨a, its, rfl, im a i, by omega, t, this⟩
  | .dct ks vs, u, d', r, e => by
    rw [VR] at r
    obtain ⟨a, us, rfl, i, z, n, l, t, q⟩ := r
    rw [Qo.wk] at e
    cases h1 : Qo.wks f vs with
    | none => rw [h1] at e; cases e
    | some ys =>
      rw [h1] at e; cases e
      rw [VR]
      exact ⟨a, us, rfl, im a i, z, n, l, t, VRs.wks im hf vs _ ys q h1⟩
  | .obj c ns vs, u, d', r, e => by
    rw [VR] at r
    obtain ⟨a, dx, m, us, rfl, i, j, o, l, t, q⟩ := r
    rw [Qo.wk] at e
    cases h1 : Qo.wks f vs with
    | none => rw [h1] at e; cases e
    | some ys =>
      rw [h1] at e; cases e
      rw [VR]
      exact ⟨a, dx, m, us, rfl, im a i, im dx j, o, l, t, VRs.wks im hf vs _ ys q h1⟩
  | .non, u, d', r, e => by cases e; rw [VR] at r ⊢; exact r
  | .bl b, u, d', r, e => by cases e; rw [VR] at r ⊢; exact r
  | .int b, u, d', r, e => by cases e; rw [VR] at r ⊢; exact r
  | .str b, u, d', r, e => by cases e; rw [VR] at r ⊢; exact r
  | .fn b, u, d', r, e => by cases e; rw [VR] at r ⊢; exact r
  | .ty b, u, d', r, e => by cases e; rw [VR] at r ⊢; exact r
theorem VRs.wks {S : Stat} {G G' : Gh} {h : Heap} {f : Nat → Option D} (im : ∀ a, G.im a → G'.im a) (hf : ∀ i p d, G.mu[i]? = some p → f i = some d → VR S G' h d (.ref p.1)) : ∀ (ds : List D) (us : List Value) (ds' : List D), VRs S G h ds us → Qo.wks f ds = some ds' → VRs S G' h ds' us
  | [], us, ds', r, e => by rw [VRs] at r; subst r; cases e; rw [VRs]
  | d :: ds, us, ds', r, e => by
    rw [VRs] at r
    obtain ⟨u, us, rfl, q, r⟩ := r
    rw [Qo.wks] at e
    split at e
    · rename_i a b e1 e2
      cases e
      exact .cons (VR.wk im hf d u a q e1) (VRs.wks im hf ds us b r e2)
    · cases e
end
section
variable {S : Stat} {G G2 : Gh} {hs hs2 : Hs} {s s2 : Shared} {Z : Addr → Prop} {b : Nat}
/-- the cells from b on are known now -/
def Gh.cut (G : Gh) (b : Nat) : Gh := ⟨G.mu.take b, fun a => G.im a ∨ ∃ (i : Nat) (p : Addr × Addr), b ≤ i ∧ G.mu[i]? = some p ∧ (a = p.1 ∨ a = p.2)⟩
theorem cut_mu {i : Nat} {p : Addr × Addr} (x : (G.cut b).mu[i]? = some p) : G.mu[i]? = some p ∧ i < b := by
  have x : (G.mu.take b)[i]? = some p := x
  by_cases hi : i < b
  · rw [List.getElem?_take_of_lt hi] at x; exact ⟨x, hi⟩
  · rw [List.getElem?_eq_none] at x
    · cases x
    · rw [List.length_take]; omega
theorem cut_low {h : Heap} {i : Nat} {p : Addr × Addr} {d : D} (x : G.mu[i]? = some p) (e : low b i = some d) : VR S (G.cut b) h d (.ref p.1) := by
  unfold low at e
  split at e
  · rename_i hi
    cases e
    rw [VR]
    exact ⟨p, by show (G.mu.take b)[i]? = some p; rw [List.getElem?_take_of_lt hi]; exact x, rfl⟩
  · cases e
theorem rsv_ok {h : Heap} (I : HInv S G hs h) : ∀ (n i : Nat) (p : Addr × Addr) (d : D), G.mu[i]? = some p → rsv hs b n i = some d → VR S (G.cut b) h d (.ref p.1)
  | 0, i, p, d, x, e => cut_low x e
  | n + 1, i, p, d, x, e => by
    rw [rsv] at e
    by_cases hi : i < b
    · rw [if_pos hi] at e
      exact cut_low x (by unfold low; rw [if_pos hi]; exact e)
    · rw [if_neg hi] at e
      have im : ∀ a, G.im a → (G.cut b).im a := fun a x => .inl x
      have i1 : (G.cut b).im p.1 := .inr ⟨i, p, by omega, x, .inl rfl⟩
      have i2 : (G.cut b).im p.2 := .inr ⟨i, p, by omega, x, .inr rfl⟩
      have ih := rsv_ok I n
      split at e
      · rename_i f xs hc
        obtain ⟨_, z, its, t, q⟩ := I.cell i p f _ x hc
        cases h1 : wks (rsv hs b n) xs with
        | none => rw [h1] at e; cases e
        | some ys =>
          rw [h1] at e; cases e
          have := VRs.wks im ih xs _ ys q h1
          have l1 := this.len
          have l2 := q.len
          rw [VR]
          exact ⟨p.1, its, rfl, i1, by omega, t, this⟩
      · rename_i f ks vs hc
        obtain ⟨_, z, n', us, l, t, q⟩ := I.cell i p f _ x hc
        cases h1 : wks (rsv hs b n) vs with
        | none => rw [h1] at e; cases e
        | some ys =>
          rw [h1] at e; cases e
          rw [VR]
          exact ⟨p.1, us, rfl, i1, z, n', l, t, VRs.wks im ih vs _ ys q h1⟩
      · rename_i f c ns vs hc
        obtain ⟨z, m, us, o, l, t, q⟩ := I.cell i p f _ x hc
        cases h1 : wks (rsv hs b n) vs with
        | none => rw [h1] at e; cases e
        | some ys =>
          rw [h1] at e; cases e
          rw [VR]
          exact ⟨p.1, p.2, m, us, rfl, i1, i2, o, l, t, VRs.wks im ih vs _ ys q h1⟩
      · cases e
mutual
theorem wk_low : ∀ (d d' : D), wk (low b) d = some d' → d' = d
  | .ref i, d', e => by
    rw [wk] at e
    unfold low at e
    split at e
    · cases e; rfl
    · cases e
  | .tup xs, d', e => by
    rw [wk] at e
    cases h1 : wks (low b) xs with
    | none => rw [h1] at e; cases e
    | some ys => rw [h1] at e; cases e; rw [wks_low xs ys h1]
  | .lst xs, d', e => by
    rw [wk] at e
    cases h1 : wks (low b) xs with
    | none => rw [h1] at e; cases e
    | some ys => rw [h1] at e; cases e; rw [wks_low xs ys h1]
  | .dct ks xs, d', e => by
    rw [wk] at e
    cases h1 : wks (low b) xs with
    | none => rw [h1] at e; cases e
    | some ys => rw [h1] at e; cases e; rw [wks_low xs ys h1]
  | .obj c ns xs, d', e => by
    rw [wk] at e
    cases h1 : wks (low b) xs with
    | none => rw [h1] at e; cases e
    | some ys => rw [h1] at e; cases e; rw [wks_low xs ys h1]
  | .non, d', e => by cases e; rfl
  | .bl _, d', e => by cases e; rfl
  | .int _, d', e => by cases e; rfl
  | .str _, d', e => by cases e; rfl
  | .fn _, d', e => by cases e; rfl
  | .ty _, d', e => by cases e; rfl
theorem wks_low : ∀ (ds ds' : List D), wks (low b) ds = some ds' → ds' = ds
  | [], ds', e => by cases e; rfl
  | d :: ds, ds', e => by
    rw [wks] at e
    split at e
    · rename_i x y e1 e2
      cases e
      rw [wk_low d x e1, wks_low ds y e2]
    · cases e
end
theorem cut_cell {h : Heap} {p : Addr × Addr} {c : Cell} (x : CellAt S G h p c) (e : cloC b c = true) : CellAt S (G.cut b) h p c := by
  have im : ∀ a, G.im a → (G.cut b).im a := fun a x => .inl x
  have key : ∀ xs us, VRs S G h xs us → (wks (low b) xs).isSome = true → VRs S (G.cut b) h xs us := fun xs us r e => by
    obtain ⟨ys, e⟩ := Option.isSome_iff_exists.mp e
    have e' := wks_low xs ys e
    subst e'
    exact VRs.wks im (fun i p d x e => cut_low x e) _ _ _ r e
  cases c with
  | lst xs => obtain ⟨e1, z, its, t, q⟩ := x; exact ⟨e1, z, its, t, key _ _ q e⟩
  | dct ks vs => obtain ⟨e1, z, n, us, l, t, q⟩ := x; exact ⟨e1, z, n, us, l, t, key _ _ q e⟩
  | ins c ns vs => obtain ⟨z, m, us, o, l, t, q⟩ := x; exact ⟨z, m, us, o, l, t, key _ _ q e⟩
theorem Ev.cut (e : Ev S Z G hs s G2 hs2 s2) (hb : hs.length = b) (hc : (hs2.take b).all (fun c => cloC b c.2) = true) : Ev S Z G hs s (G2.cut b) (hs2.take b) s2 := by
  have l2 : b ≤ hs2.length := by rw [← hb]; exact e.len
  have lm : G.mu.length = b := by rw [e.gl, hb]
  have nn : ∀ (i : Nat) (p : Addr × Addr), b ≤ i → G2.mu[i]? = some p → s.heap.get? p.1 = none ∧ s.heap.get? p.2 = none := fun i p hi x => e.new i p x (by rw [List.getElem?_eq_none]; omega)
  refine ⟨e.stp, by rw [List.length_take]; omega, fun i p x => ?_, fun a x => .inl (e.im a x), fun i p x y => ?_, fun i c x => ?_, fun a x => ?_, ?_, e.gl⟩
  · have hi : i < b := by rw [← lm]; exact (List.getElem?_eq_some_iff.mp x).1
    show (G2.mu.take b)[i]? = some p
    rw [List.getElem?_take_of_lt hi]
    exact e.mu i p x
  · obtain ⟨_, hi⟩ := cut_mu x
    rw [List.getElem?_eq_none_iff] at y
    omega
  · have hi : i < b := by rw [← hb]; exact (List.getElem?_eq_some_iff.mp x).1
    rw [List.getElem?_take_of_lt hi]
    exact e.fz i c x
  · rcases x with x | ⟨i, p, hi, x, y⟩
    · exact e.imn a x
    · have := nn i p hi x
      rcases y with rfl | rfl
      · exact .inr (.inl this.1)
      · exact .inr (.inl this.2)
  · have at_ : ∀ {i : Nat} {x : Bool × Cell}, (hs2.take b)[i]? = some x → hs2[i]? = some x ∧ cloC b x.2 = true := fun {i x} y => by
      have hm : x ∈ hs2.take b := List.mem_of_getElem? y
      have hi : i < b := by
        have := (List.getElem?_eq_some_iff.mp y).1
        rw [List.length_take] at this; omega
      rw [List.getElem?_take_of_lt hi] at y
      exact ⟨y, (List.all_eq_true.mp hc) x hm⟩
    have I := e.inv
    refine ⟨?_, fun i j p q x y n => I.inj i j p q (cut_mu x).1 (cut_mu y).1 n, fun i p f c x y => cut_cell (I.cell i p f c (cut_mu x).1 (at_ y).1) (at_ y).2, fun i p c x y => ?_, fun i p c x y => ?_, fun a x => ?_, fun a o x => ⟨(I.base a o x).1, .inl (I.base a o x).2⟩⟩
    · show (G2.mu.take b).length = _
      rw [List.length_take, List.length_take, I.len]
    · obtain ⟨h1, h2⟩ := I.free i p c (cut_mu x).1 (at_ y).1
      have hi := (cut_mu x).2
      refine ⟨fun z => z.elim h1 fun ⟨j, q, hj, w, v⟩ => ?_, fun z => z.elim h2 fun ⟨j, q, hj, w, v⟩ => ?_⟩
      · have := I.inj i j p q (cut_mu x).1 w (by omega)
        exact v.elim this.1 this.2.1
      · have := I.inj i j p q (cut_mu x).1 w (by omega)
        exact v.elim this.2.2.1 this.2.2.2
    · obtain ⟨h1, h2⟩ := I.froz i p c (cut_mu x).1 (at_ y).1
      exact ⟨.inl h1, .inl h2⟩
    · rcases x with x | ⟨i, p, hi, x, y⟩
      · exact I.live a x
      · have hl : i < hs2.length := by rw [← I.len]; exact (List.getElem?_eq_some_iff.mp x).1
        have := (I.cell i p _ _ x (by rw [List.getElem?_eq_getElem hl])).ex
        rcases y with rfl | rfl
        · exact this.1
        · exact this.2
end
section
variable {X : Cx} {G G2 : Gh} {hs hs2 : Hs} {s s2 : Shared} {Z : Addr → Prop} {Q : Value → Shared → Prop} {E : Value → Shared → Prop}
theorem Out.fin {m : Bool} {d : D} {u : Value} (O : Out X Z (VRX X) G hs s (finR m hs.length d hs2) Q E) (e : Ev X.S Z G hs s G2 hs2 s2) (r : VR X.S G2 s2.heap d u) : Q u s2 := by
  unfold finR at O
  cases m with
  | true =>
    rw [if_pos rfl] at O
    exact O.ok _ _ rfl _ _ _ e r
  | false =>
    rw [if_neg Bool.false_ne_true] at O
    cases h1 : frz hs2 hs.length d with
    | none => rw [h1] at O; exact absurd rfl O.nb
    | some d' =>
      rw [h1] at O
      obtain ⟨hc, O⟩ := O.grd
      exact O.ok _ _ rfl _ _ _ (e.cut rfl hc) (VR.wk (G := G2) (G' := G2.cut hs.length) (fun _ x => Or.inl x) (fun i p d x y => rsv_ok e.inv 4 i p d x y) d u d' r h1)
end
end Qo
-- QG
set_option maxRecDepth 100000
set_option maxHeartbeats 4000000
/-! QG: a def's call. -/
namespace Qo
open PySem PySem.Spec PyProof.Rows

structure Rm (k : Nat) (A : Around) : Prop where
  rm : L2.Room k A
  gd : A.guards = some []
theorem Rm.mono {j k : Nat} {A : Around} (r : Rm k A) (h : j ≤ k) : Rm j A := ⟨r.rm.mono h, r.gd⟩
theorem Rm.deeper {k : Nat} {A : Around} (r : Rm (k + 1) A) (env : Env) : Rm k (A.deeper env) := ⟨r.rm.deeper env, r.gd⟩
def Cx0 (S : Stat) : Cx := ⟨S, {}, default, [], fun _ => False, fun _ => false⟩
/-- what a caller gets -/
def RetR (Q : Value → Shared → Prop) (E : Value → Shared → Prop) (r : Result) (s : Shared) : Prop :=
  match r with
  | .ok (.ret v) => Q v s
  | .ok _ => False
  | .error e => E e s
structure CallOk (S : Stat) (k : Nat) (a : Addr) (fd : FuncData) (ps : List Str) (f : List D → Hs → Res D) : Prop where
  len : ∀ ds hs, f ds hs ≠ .bad → ds.length = ps.length
  run : ∀ (A : Around) (G : Gh) (hs : Hs) (s : Shared) (args : Args) (us : List Value) (ds : List D) (Q : Value → Shared → Prop) (E : Value → Shared → Prop), Rm k A → L2.Mod S.K S.mg S.base → HInv S G hs s.heap → Soft s →
    BindsTo s fd args (ps.zip us) → VRs S G s.heap ds us → Out (Cx0 S) noZ (VRX (Cx0 S)) G hs s (f ds hs) Q E → codeAny (model S.P S.w) A (.call (.ref a) args) (RetR Q E) s

def varsOf (N : List Str) : List (Str × Nat) := N.zipIdx
theorem varsOf_get {N : List Str} {x : Str} {i : Nat} (h : (varsOf N).lookup x = some i) : N[i]? = some x := by
  have := PySem.mem_of_lookup h
  unfold varsOf at this
  rw [List.mem_zipIdx_iff_getElem?] at this
  exact this
def startS (n : Nat) (ds : List D) : St := ds.map some ++ List.replicate (n - ds.length) none
/-- the context of a def's body -/
def cxFn (S : Stat) (N : List Str) (qual : Str) (scope : Scope) (L : Addr) (f : Addr) (cd : Value) (A : Around) : Cx where
  S := S
  A := A.deeper (PyProof.Rows.envOfC qual scope L f cd)
  env := PyProof.Rows.envOfC qual scope L f cd
  vars := varsOf N
  own := fun a => a = L ∨ ∃ x, (cellsFrom (L + 1) scope.names []).lookup x = some a
  fn := fun x => scope.names.lookup x == some .cell
/-- what a def computes: its body's end; m: what it made may change later -/
def fnS (m : Bool) (np n : Nat) (b : SS) (ds : List D) (hs : Hs) : Res D := grd (ds.length = np) ((b (startS n ds) hs).bind fun r h => match r.1 with
  | .rt d => finR m hs.length d h
  | .nx => finR m hs.length .non h
  | _ => .bad)
section
variable {S : Stat} {G : Gh} {hs : Hs} {s s1 : Shared} {N ps : List Str} {qual : Str} {scope : Scope} {f : Addr} {cd : Value} {A : Around} {us : List Value} {ds : List D}
theorem inv_start (mod : L2.Mod S.K S.mg S.base) (F : L2.FnScope N ps scope) (hd : A.handled = none) (H : HInv S G hs s.heap) (bare : Soft s) (hl : ds.length = ps.length) (r : VRs S G s.heap ds us)
    (x : InCallC s s.heap.objs.size (bindL (PyProof.Rows.envOfC qual scope s.heap.objs.size f cd).kindOf (ps.zip us) fun _ => none) (cellsFrom (s.heap.objs.size + 1) scope.names []) (bindC (PyProof.Rows.envOfC qual scope s.heap.objs.size f cd).kindOf (ps.zip us) fun _ => none) s1) :
    Inv (cxFn S N qual scope s.heap.objs.size f cd A) G (startS N.length ds) hs s1 ∧ Ev S noZ G hs s G hs s1 ∧ ∀ a, (cxFn S N qual scope s.heap.objs.size f cd A).own a → s.heap.get? a = none := by
  obtain ⟨h1, tk, rfl, hk⟩ := x.done
  have e : Ev S noZ G hs s G hs { s with heap := h1, toks := tk } := Ev.kept (X := Cx0 S) H hk
  have fresh : ∀ a, (cxFn S N qual scope s.heap.objs.size f cd A).fr a → s.heap.get? a = none := fun a y => by
    rcases y with rfl | ⟨z, y⟩
    · exact Heap.get?_none_of_le (Nat.le_refl _)
    · exact Heap.get?_none_of_le (Nat.le_of_lt (x.above z a (PySem.mem_of_lookup y)))
  refine ⟨⟨⟨mod, F.kind, rfl, rfl, hd, fun y z c h1 h2 => PySem.name_of_addr x.apart (PySem.mem_of_lookup h1) (PySem.mem_of_lookup h2), fun a y => y, fun y z i h1 h2 => ?_, .inl rfl, fun y c _ h => .inr ⟨y, h⟩, fun y h => L2.cell_has h⟩, e.inv, ⟨⟨_, x.toInCall.ns, fun y i d h1 h2 _ => ?_⟩, fun y c h => ⟨_, x.cell y c h⟩, fun a y i p q => ?_, fun a y z => ?_⟩, e.stp.bare bare⟩, e, fresh⟩
  · have a := varsOf_get h1
    have b := varsOf_get h2
    rw [a] at b
    exact Option.some.inj b
  · have hN := varsOf_get h1
    have hi : i < ds.length := by
      unfold startS at h2
      by_cases hi : i < ds.length
      · exact hi
      · rw [List.getElem?_append_right (by simpa using hi)] at h2
        rw [List.getElem?_replicate] at h2
        split at h2 <;> cases h2
    have ha : ds[i]? = some d := by
      unfold startS at h2
      rw [List.getElem?_append_left (by simpa using hi), List.getElem?_map] at h2
      cases e : ds[i]? with
      | none => rw [e] at h2; cases h2
      | some a => rw [e] at h2; cases h2; rfl
    obtain ⟨u, hu, rv⟩ := r.get ha
    have hp : ps[i]? = some y := by
      rw [← F.pre, List.getElem?_take_of_lt (by omega)]; exact hN
    have ndP : ps.Nodup := by rw [← F.pre]; exact F.nd.sublist (List.take_sublist _ _)
    refine ⟨u, VR.mono (e.grow H fun _ z => z.elim) _ _ rv, ?_⟩
    rcases F.par y (List.mem_of_getElem? hp) with k | k
    · exact .inl ⟨k, L2.bindL_get ndP hp hu k⟩
    · obtain ⟨c, e⟩ := L2.cell_has (n := s.heap.objs.size + 1) k
      refine .inr ⟨.inl k, c, e, ?_⟩
      have q := x.cell y c e
      rw [L2.bindC_get ndP hp hu (by show scope.names.lookup y ≠ _; rw [k]; decide)] at q
      exact q
  · have hl : i < hs.length := by rw [← H.len]; exact (List.getElem?_eq_some_iff.mp q).1
    obtain ⟨⟨o1, h1⟩, o2, h2⟩ := (H.cell i p _ _ q (by rw [List.getElem?_eq_getElem hl])).ex
    have := fresh a y
    exact ⟨fun z => (by rw [z, h1] at this; cases this), fun z => (by rw [z, h2] at this; cases this)⟩
  · obtain ⟨o, q⟩ := H.live a z
    rw [fresh a y] at q; cases q
/-- a def of the text, by its body -/
theorem call_of {k : Nat} {name : Str} {params : Arguments} {body : List Stmt} {dV kV doc pm cdv ct oc : Value} {an od : Option Addr} {osl : Array (Option Value)} {m : Bool} {b : SS}
    (lk : S.K.lookup f = some ⟨oc, od, .func (PySem.W.fnOf name qual params body scope dV kV doc pm an cdv ct), osl⟩) (hcd : PySem.W.codeIn S.K cdv qual = true) (F : L2.FnScope N ps scope)
    (hbody : ∀ (A : Around) (L : Addr), Rm k A → PSs (cxFn S N qual scope L f cdv A) body b) : CallOk S (k + 1) f (PySem.W.fnOf name qual params body scope dV kV doc pm an cdv ct) ps (fnS m ps.length N.length b) := by
  refine ⟨fun ds hs h => ?_, fun A G hs s args us ds Q E hr mod H bare hb r O => ?_⟩
  · unfold fnS grd at h
    split at h
    · assumption
    · exact absurd rfl h
  obtain ⟨hl, O⟩ := O.grd
  have hlu : us.length = ps.length := by rw [r.len]; exact hl
  have KX : S.K.In s.heap := mod.kin.keeps fun b o e => (H.base b o e).1
  have lim : s.heap.NoLimit := mod.nolimit.keeps fun b o e => (H.base b o e).1
  have hkind : ∀ y ∈ ps.zip us, scope.names.lookup y.1 = some .local ∨ (scope.names.lookup y.1 = some .cell ∧ ((cellsFrom (s.heap.objs.size + 1) scope.names []).lookup y.1).isSome = true) := fun ⟨n, v⟩ hy => by
    rcases F.par n (List.of_mem_zip hy).1 with q | q
    · exact .inl q
    · exact .inr ⟨q, PySem.W.cellsFrom_some _ _ _ (.inl q)⟩
  refine codeAny_call_function hr.rm.depth (KX _ _ lk) rfl F.co F.gen rfl (PySem.W.codeRec_of KX hcd) (lf (hb _ _ _ _ ?_))
  refine lf (wpAny_newFunctionEnv_cells F.kind hkind fun env he s1 x => ?_)
  subst he
  obtain ⟨I, e, fresh⟩ := inv_start (A := A) (f := f) (cd := cdv) (qual := qual) mod F hr.rm.hd H bare hl r x
  refine ⟨I.nolimit, codeAny_func ?_⟩
  refine (hbody A s.heap.objs.size (hr.mono (Nat.le_succ k))).run G (startS N.length ds) hs s1 I _ _ ⟨fun fr hs' e1 fl s' G' ev sr => ?_, fun y hs' e1 => ?_, fun e1 => ?_⟩
  · obtain ⟨fm, σ'⟩ := fr
    have ev' : Ev S noZ G hs s G' hs' s' := e.trans ev (fun _ _ _ z => z) fun c o y z => by rw [fresh c z] at y; cases y
    rw [e1] at O
    obtain ⟨_, q⟩ := sr
    cases fm with
    | rt d =>
      cases fl with
      | ret u => exact Out.fin (X := Cx0 S) O ev' q
      | _ => exact False.elim q
    | nx =>
      cases fl with
      | next => exact Out.fin (X := Cx0 S) (d := .non) (u := .none) O ev' (by rw [VR])
      | _ => exact False.elim q
    | bk => exact absurd rfl O.nb
    | ct => exact absurd rfl O.nb
  · rw [e1] at O; exact absurd rfl (O.exc _ _)
  · rw [e1] at O; exact absurd rfl O.nb
end
end Qo
-- QH
set_option maxRecDepth 100000
set_option maxHeartbeats 4000000
/-! QH: calls by name, methods, fields, properties, new instances. -/
namespace Qo
open PySem PySem.Spec PyProof.Rows

section
variable {X : Cx} {G : Gh} {σ : St} {hs : Hs} {s : Shared} {Q : Value → Shared → Prop} {E : Value → Shared → Prop} {k : Nat} {f C : Addr} {fd : FuncData} {ps : List Str} {fn : List D → Hs → Res D}
abbrev SF := List D → Hs → Res D
theorem Out.as {r : Res D} (O : Out X noZ (VRX X) G hs s r Q E) : Out (Cx0 X.S) noZ (VRX (Cx0 X.S)) G hs s r Q E := ⟨O.ok, O.exc, O.nb⟩
theorem Out.to {r : Res D} (O : Out (Cx0 X.S) noZ (VRX (Cx0 X.S)) G hs s r Q E) : Out X noZ (VRX X) G hs s r Q E := ⟨O.ok, O.exc, O.nb⟩
theorem run_fn {args : Args} {us : List Value} {ds : List D} (F : CallOk X.S k f fd ps fn) (hr : Rm k X.A) (I : Inv X G σ hs s) (hb : BindsTo s fd args (ps.zip us)) (r : VRs X.S G s.heap ds us) (O : Out X noZ (VRX X) G hs s (fn ds hs) Q E) :
    codeAny (model X.S.P X.S.w) X.A (.call (.ref f) args) (RetR Q E) s := F.run X.A G hs s args us ds Q E hr I.ok.mod I.hinv I.bare hb r O.as
theorem call_ret {v : Value} {pos : List Value} {kw : List (Str × Value)} {A : Around} (h : codeAny (model X.S.P X.S.w) A (.call v ⟨pos, kw⟩) (RetR Q E) s) : wpAny (model X.S.P X.S.w) A (call v pos kw) Q E s :=
  wpAny_call (codeAny_mono h fun r s' q => by cases r with | error e => exact q | ok fl => cases fl <;> exact q)
/-- f(e, ..): the arguments, then the defaults -/
def eCall (fn : SF) (dd : List D) (a : SA) : SE := fun σ hs => (a σ hs).bind fun ds h => fn (ds ++ dd) h
/-- what the defaults are, in every state -/
def Dflt (S : Stat) (dd : List D) (dv : List Value) : Prop := ∀ (G : Gh) (h : Heap), (∀ a o, S.base.get? a = some o → h.get? a = some o ∧ G.im a) → VRs S G h dd dv
theorem Dflt.nil {S : Stat} : Dflt S [] [] := fun _ _ _ => .nil
theorem pe_call {x : Str} {p pos : Pos} {e : Expr} {es : List Expr} {ma : SA} {dd : List D} {dv : List Value} (F : CallOk X.S k f fd ps fn) (hr : Rm k X.A) (hg : Gl X x) (hm : X.S.mg x = some (.ref f)) (hk : PySem.W.keepIn X.S.K (.ref f) = true)
    (hb : L2.Binds X.S.K fd ps dv) (hd : Dflt X.S dd dv) (ha : PA X (e :: es) ma) (hdb : (x == ("__debug__" : Str)) = false) (he : starEach (e :: es) X.env = (false, eval e X.env) :: starEach es X.env) (hpl : (backTo pos (starEach es X.env)).any (·.1) = false) :
    PE X (.Call (.Name x p) (e :: es) [] pos) (eCall fn dd ma) := by
  refine ⟨fun G σ hs s I Q E O => wpAny_Call_Name_kw (ld_glob I hg hm hdb ?_)⟩
  refine callWith_K (h₀ := X.S.base) I.ok.mod.kin hk ((ha.run pos G σ hs s I).thn O fun ds h1 us s1 G1 _ e1 r1 O1 => ?_) he hpl
  have I1 := I.step e1
  have r2 := r1.append (hd G1 s1.heap I1.hinv.base)
  exact ⟨I1.kIn, call_ret (run_fn F hr I1 (hb s1 us I1.kIn (by rw [r2.len]; exact F.len _ _ O1.nb)) r2 O1)⟩
theorem pe_call0 {x : Str} {p pos : Pos} {dd : List D} {dv : List Value} (F : CallOk X.S k f fd ps fn) (hr : Rm k X.A) (hg : Gl X x) (hm : X.S.mg x = some (.ref f)) (hk : PySem.W.keepIn X.S.K (.ref f) = true)
    (hb : L2.Binds X.S.K fd ps dv) (hd : Dflt X.S dd dv) (hdb : (x == ("__debug__" : Str)) = false) : PE X (.Call (.Name x p) [] [] pos) (eCall fn dd aNil) := by
  refine ⟨fun G σ hs s I Q E O => wpAny_Call_Name_kw (ld_glob I hg hm hdb ?_)⟩
  have r2 := (VRs.nil (S := X.S) (G := G) (h := s.heap)).append (hd G s.heap I.hinv.base)
  have O1 : Out X noZ (VRX X) G hs s (fn ([] ++ dd) hs) Q E := O
  exact callWith_K0 I.kIn hk (call_ret (run_fn F hr I (hb s [] I.kIn (by rw [r2.len]; exact F.len _ _ O1.nb)) r2 O1))

/-! ### methods -/
theorem Call_meth {o : Expr} {name : Str} {apos pos : Pos} {args : List Expr} {kws : List Keyword} {env : Env} {A : Around}
    (hbase : attributeBase o name env (eval o env) = eval o env)
    (hform : methodCallForm (args.length + kws.length) (backTo pos (starEach args env)) (backToKw pos (keywordEach kws env)) = true)
    (hline : (apos.endLine == pos.line) = true)
    (h : wpAny (model X.S.P X.S.w) A (eval o env) (fun ov s1 => ∀ pl, wpAny (model X.S.P X.S.w) A (getMethod ov name pl) (fun fx s2 => wpAny (model X.S.P X.S.w) A (callWith pos fx.1 fx.2 (backTo pos (starEach args env)) (backToKw pos (keywordEach kws env))) Q E s2) E s1) E s) :
    wpAny (model X.S.P X.S.w) A (eval (.Call (.Attribute o name apos) args kws pos) env) Q E s := by
  rw [arm_eval_Call, hbase]
  refine wpAny_bind (wpAny_mono h (fun ov s₁ h₁ => ?_) fun _ _ e => e)
  refine wpAny_bind (wpAny_standAt ?_)
  have hpos : methodCallPos true o env apos pos = pure pos := by unfold methodCallPos; simp [hline]
  unfold methodCall
  rw [hform]
  refine wpAny_bind (wpAny_holding (wpAny_mono (h₁ _) (fun fx s2 q => ?_) fun _ _ x => x))
  exact wpAny_bind (wpAny_of_eq hpos q)
/-- an instance: its class, its fields -/
def asO (hs : Hs) : D → Option (Addr × List Str × List D)
  | .obj c ns vs => some (c, ns, vs)
  | .ref i => match hs[i]? with | some (_, .ins c ns vs) => some (c, ns, vs) | _ => none
  | _ => none
theorem asO_at {h : Heap} {d : D} {u : Value} {c : Addr} {ns : List Str} {vs : List D} (I : HInv X.S G hs h) (r : VR X.S G h d u) (e : asO hs d = some (c, ns, vs)) :
    ∃ a dx m us, u = .ref a ∧ L2.ObjM h a dx c m ∧ us.length = ns.length ∧ (∀ f, m f = (ns.zip us).lookup f) ∧ VRs X.S G h vs us := by
  cases d with
  | obj c' ns' vs' =>
    cases e
    rw [VR] at r
    obtain ⟨a, dx, m, us, rfl, _, _, o, l, t, q⟩ := r
    exact ⟨a, dx, m, us, rfl, o, l, t, q⟩
  | ref i =>
    rw [VR] at r
    obtain ⟨p, e1, rfl⟩ := r
    unfold asO at e
    simp only at e
    split at e
    · rename_i f c' ns' vs' hc
      cases e
      obtain ⟨z, m, us, o, l, t, q⟩ := I.cell i p f _ e1 hc
      exact ⟨p.1, p.2, m, us, rfl, o, l, t, q⟩
    · cases e
  | _ => cases e
theorem lookup_none {ns : List Str} {us : List Value} {f : Str} (h : f ∉ ns) : (ns.zip us).lookup f = none := by
  induction ns generalizing us with
  | nil => simp
  | cons n ns ih =>
    cases us with
    | nil => simp
    | cons u us =>
      simp only [List.zip_cons_cons, List.lookup_cons]
      have : (f == n) = false := by simp; intro e; exact h (by simp [e])
      rw [this]
      exact ih (fun e => h (by simp [e]))
theorem lookup_at {h : Heap} : ∀ {ns : List Str} {vs : List D} {us : List Value} {f : Str} {d : D}, VRs X.S G h vs us → (ns.zip vs).lookup f = some d → ∃ u, (ns.zip us).lookup f = some u ∧ VR X.S G h d u
  | [], vs, us, f, d, r, e => by simp at e
  | n :: ns, [], us, f, d, r, e => by simp at e
  | n :: ns, v :: vs, us, f, d, r, e => by
    rw [VRs] at r
    obtain ⟨u, us, rfl, q, r⟩ := r
    simp only [List.zip_cons_cons, List.lookup_cons] at e ⊢
    cases hb : (f == n) with
    | true =>
      rw [hb] at e
      cases e
      exact ⟨u, rfl, q⟩
    | false =>
      rw [hb] at e
      exact lookup_at r e
/-- a class's method by its name -/
structure MethI (S : Stat) (c : Addr) (m : Str) (f : Addr) : Prop where
  cls : L2.Cls S.K c
  mt : L2.Meth S.K c m f
/-- o.m(e, ..): by the class of o -/
def eMeth (m : Str) (tbl : Addr → Option (SF × List D)) (o : SE) (a : SA) : SE := fun σ hs => (o σ hs).bind fun x h => match asO h x with
  | some (c, ns, _) => match tbl c with
    | some (fn, dd) => grd (m ∉ ns) ((a σ h).bind fun ds h => fn (x :: (ds ++ dd)) h)
    | none => .bad
  | none => .bad
/-- a table of methods: each class's own, its defaults -/
def MethT (X : Cx) (k : Nat) (m : Str) (tbl : Addr → Option (SF × List D)) : Prop :=
  ∀ c fn dd, tbl c = some (fn, dd) → ∃ f fd ps dv, MethI X.S c m f ∧ CallOk X.S k f fd ps fn ∧ L2.Binds X.S.K fd ps dv ∧ Dflt X.S dd dv
theorem pe_meth {o e : Expr} {es : List Expr} {m : Str} {apos pos : Pos} {mo : SE} {ma : SA} {tbl : Addr → Option (SF × List D)} (ho : PE X o mo) (T : MethT X k m tbl) (hr : Rm k X.A) (ha : PA X (e :: es) ma)
    (hbase : attributeBase o m X.env (eval o X.env) = eval o X.env) (hform : methodCallForm ((e :: es).length + ([] : List Keyword).length) (backTo pos (starEach (e :: es) X.env)) (backToKw pos (keywordEach [] X.env)) = true) (hline : (apos.endLine == pos.line) = true)
    (he : starEach (e :: es) X.env = (false, eval e X.env) :: starEach es X.env) (hpl : (backTo pos (starEach es X.env)).any (·.1) = false) :
    PE X (.Call (.Attribute o m apos) (e :: es) [] pos) (eMeth m tbl mo ma) := by
  refine ⟨fun G σ hs s I Q E O => Call_meth hbase hform hline ((ho.run G σ hs s I).thn O fun x h1 u s1 G1 _ e1 r1 O1 pl => ?_)⟩
  have I1 := I.step e1
  split at O1
  · rename_i c ns vs ec
    split at O1
    · rename_i fn dd et
      obtain ⟨hn, O1⟩ := O1.grd
      obtain ⟨f, fd, ps, dv, M, F, hb, hd⟩ := T c fn dd et
      obtain ⟨a, dx, mA, us0, rfl, ob, l, t, q⟩ := asO_at I1.hinv r1 ec
      refine lf (L2.get_meth I1.kIn ob (M.cls.get m) M.mt.at_ M.mt.fn (by rw [t]; exact lookup_none hn) ?_)
      refine callWith_K (first := [.ref a]) (h₀ := X.S.base) I.ok.mod.kin M.mt.kp ((ha.run pos G1 σ h1 s1 I1).thn O1 fun ds h2 us s2 G2 _ e2 r2 O2 => ?_) he hpl
      have I2 := I1.step e2
      have r3 : VRs X.S G2 s2.heap (x :: (ds ++ dd)) ((.ref a :: us) ++ dv) := .cons (VR.mono (I1.grow e2) _ _ r1) (r2.append (hd G2 s2.heap I2.hinv.base))
      exact ⟨I2.kIn, call_ret (run_fn F hr I2 (hb s2 (.ref a :: us) I2.kIn (by rw [r3.len]; exact F.len _ _ O2.nb)) r3 O2)⟩
    · exact absurd rfl O1.nb
  · exact absurd rfl O1.nb
theorem pe_meth0 {o : Expr} {m : Str} {apos pos : Pos} {mo : SE} {tbl : Addr → Option (SF × List D)} (ho : PE X o mo) (T : MethT X k m tbl) (hr : Rm k X.A)
    (hbase : attributeBase o m X.env (eval o X.env) = eval o X.env) (hform : methodCallForm (([] : List Expr).length + ([] : List Keyword).length) (backTo pos (starEach [] X.env)) (backToKw pos (keywordEach [] X.env)) = true) (hline : (apos.endLine == pos.line) = true) :
    PE X (.Call (.Attribute o m apos) [] [] pos) (eMeth m tbl mo aNil) := by
  refine ⟨fun G σ hs s I Q E O => Call_meth hbase hform hline ((ho.run G σ hs s I).thn O fun x h1 u s1 G1 _ e1 r1 O1 pl => ?_)⟩
  have I1 := I.step e1
  split at O1
  · rename_i c ns vs ec
    split at O1
    · rename_i fn dd et
      obtain ⟨hn, O1⟩ := O1.grd
      obtain ⟨f, fd, ps, dv, M, F, hb, hd⟩ := T c fn dd et
      obtain ⟨a, dx, mA, us0, rfl, ob, l, t, q⟩ := asO_at I1.hinv r1 ec
      refine lf (L2.get_meth I1.kIn ob (M.cls.get m) M.mt.at_ M.mt.fn (by rw [t]; exact lookup_none hn) ?_)
      have r3 : VRs X.S G1 s1.heap (x :: ([] ++ dd)) (([.ref a]) ++ dv) := .cons r1 (hd G1 s1.heap I1.hinv.base)
      have O2 : Out X noZ (VRX X) G1 h1 s1 (fn (x :: ([] ++ dd)) h1) Q E := O1
      exact callWith_K0 (first := [.ref a]) I1.kIn M.mt.kp (call_ret (run_fn F hr I1 (hb s1 [.ref a] I1.kIn (by rw [r3.len]; exact F.len _ _ O2.nb)) r3 O2))
    · exact absurd rfl O1.nb
  · exact absurd rfl O1.nb

/-! ### attributes: a field, a property, by the class -/
inductive Act where
  | fld | prop (fn : SF) | con (d : D)
def dAtt (m : Str) (tbl : Addr → Option Act) : D → Hs → Res D := fun x h => match asO h x with
  | some (c, ns, vs) => match tbl c with
    | some .fld => match (ns.zip vs).lookup m with
      | some d => .ok d h
      | none => .bad
    | some (.prop fn) => fn [x] h
    | some (.con d) => grd (m ∉ ns) (.ok d h)
    | none => .bad
  | none => .bad
def eAtt (m : Str) (tbl : Addr → Option Act) (o : SE) : SE := fun σ hs => (o σ hs).bind fun x h => dAtt m tbl x h
/-- what a class says of a name -/
def AttT (X : Cx) (k : Nat) (m : Str) (tbl : Addr → Option Act) : Prop :=
  ∀ c act, tbl c = some act → L2.Cls X.S.K c ∧ match act with
    | .fld => L2.NoAttr X.S.K c m
    | .prop fn => ∃ p f fd ps, L2.PropOf X.S.K c m p f ∧ CallOk X.S k f fd ps fn ∧ L2.Binds X.S.K fd ps []
    | .con d => False
theorem vr_handed {h : Heap} {d : D} {u : Value} (r : VR X.S G h d u) : PySem.W.handedIn u = true := by
  cases d with
  | non => rw [VR] at r; subst r; rfl
  | bl b => rw [VR] at r; subst r; rfl
  | int b => obtain ⟨t, rfl⟩ := int_of r; rfl
  | str b => obtain ⟨t, rfl⟩ := str_of r; rfl
  | tup b => rw [VR] at r; obtain ⟨a, _, rfl, _⟩ := r; rfl
  | lst b => rw [VR] at r; obtain ⟨a, _, rfl, _⟩ := r; rfl
  | dct b c => rw [VR] at r; obtain ⟨a, _, rfl, _⟩ := r; rfl
  | obj b c e => rw [VR] at r; obtain ⟨a, _, _, _, rfl, _⟩ := r; rfl
  | ref b => rw [VR] at r; obtain ⟨p, _, rfl⟩ := r; rfl
  | fn b => rw [VR] at r; subst r; rfl
  | ty b => rw [VR] at r; subst r; rfl
end
end Qo
-- QI
set_option maxRecDepth 100000
set_option maxHeartbeats 4000000
/-! QI: attributes read and stored, new instances, items stored. -/
namespace Qo
open PySem PySem.Spec PyProof.Rows
section
variable {X : Cx} {G : Gh} {σ : St} {hs : Hs} {s : Shared} {Z : Addr → Prop} {k : Nat} {f C : Addr} {fd : FuncData} {ps : List Str} {fn : List D → Hs → Res D}
theorem CellAt.ng {S : Stat} {h : Heap} {p : Addr × Addr} {c : Cell} (x : CellAt S G h p c) : ¬ GenObj h p.1 ∧ ¬ GenObj h p.2 := by
  cases c with
  | lst xs =>
    obtain ⟨e, _, its, ⟨n, q⟩, _⟩ := x
    rw [e]
    exact ⟨notGen q fun _ z => (by cases z), notGen q fun _ z => (by cases z)⟩
  | dct ks vs =>
    obtain ⟨e, _, _, us, _, ⟨o, es, ep, q, _, d, _⟩, _⟩ := x
    rw [e]
    exact ⟨notGen q fun _ z => (by rw [d] at z; cases z), notGen q fun _ z => (by rw [d] at z; cases z)⟩
  | ins c ns vs =>
    obtain ⟨_, m, us, o, _⟩ := x
    obtain ⟨od, es, ep, e, d, _⟩ := o.ns
    exact ⟨notGen o.obj fun _ z => (by cases z), notGen e fun _ z => (by rw [d] at z; cases z)⟩
theorem Ev.wrCell (I : HInv X.S G hs s.heap) {h' : Heap} {t i : Nat} {p : Addr × Addr} {c c' : Cell} (hi : G.mu[i]? = some p) (hc : hs[i]? = some (false, c)) (kk : ∀ b o, b ≠ p.1 → b ≠ p.2 → s.heap.get? b = some o → h'.get? b = some o) (new : CellAt X.S G h' p c') :
    Ev X.S Z G hs s G (hs.set i (false, c')) { s with heap := h', toks := t } := by
  have w : ∀ b, b = p.1 ∨ b = p.2 → Wr G hs b := fun b x => ⟨i, p, c, hi, hc, x⟩
  have k : ∀ b o, ¬ Wr G hs b → s.heap.get? b = some o → h'.get? b = some o := fun b o n x => kk b o (fun z => n (w b (.inl z))) (fun z => n (w b (.inr z))) x
  have g : Grow G G s.heap h' := ⟨fun _ x => x, fun b o x y => k b o (fun z => I.notIm z x) y, fun _ _ x => x⟩
  have hl : i < hs.length := (List.getElem?_eq_some_iff.mp hc).1
  have at_ : ∀ {j : Nat} {b : Bool} {e : Cell}, (hs.set i (false, c'))[j]? = some (b, e) → (j = i ∧ b = false ∧ e = c') ∨ (j ≠ i ∧ hs[j]? = some (b, e)) := fun {j b e} x => by
    by_cases hj : j = i
    · subst hj
      rw [List.getElem?_set_self hl] at x
      cases x; exact .inl ⟨rfl, rfl, rfl⟩
    · rw [List.getElem?_set_ne (Ne.symm hj)] at x
      exact .inr ⟨hj, x⟩
  refine ⟨⟨fun b o n x => k b o (fun z => n (.inl z)) x, fun b o x => ?_, rfl, fun _ _ x => x, fun x => x.keeps rfl fun b y => y.keeps fun o e => kk b o (fun z => (I.cell i p _ _ hi hc).ng.1 (z ▸ y)) (fun z => (I.cell i p _ _ hi hc).ng.2 (z ▸ y)) e⟩, by simp, fun _ _ x => x, fun _ x => x, fun i p x y => (by rw [x] at y; cases y), fun j e x => ?_, fun _ x => .inl x, ?_, I.len⟩
  · by_cases h1 : b = p.1
    · rw [h1]; exact new.ex.1
    · by_cases h2 : b = p.2
      · rw [h2]; exact new.ex.2
      · exact ⟨o, kk b o h1 h2 x⟩
  · by_cases hj : j = i
    · subst hj; rw [hc] at x; cases x
    · rw [List.getElem?_set_ne (Ne.symm hj)]; exact x
  · refine ⟨by rw [List.length_set]; exact I.len, I.inj, fun j q b e x y => ?_, fun j q e x y => ?_, fun j q e x y => ?_, fun b x => ?_, fun b o x => ?_⟩
    · rcases at_ y with ⟨rfl, rfl, rfl⟩ | ⟨hj, y⟩
      · rw [hi] at x; cases x; exact new
      · have d := I.inj j i q p x hi hj
        exact (I.cell j q b e x y).mono g (fun o z => kk _ o d.1 d.2.1 z) (fun o z => kk _ o d.2.2.1 d.2.2.2 z)
    · rcases at_ y with ⟨rfl, _, rfl⟩ | ⟨hj, y⟩
      · rw [hi] at x; cases x; exact I.free j p c hi hc
      · exact I.free j q e x y
    · rcases at_ y with ⟨rfl, h, rfl⟩ | ⟨hj, y⟩
      · cases h
      · exact I.froz j q e x y
    · obtain ⟨o, y⟩ := I.live b x
      exact ⟨o, g.keep b o x y⟩
    · obtain ⟨h1, h2⟩ := I.base b o x
      exact ⟨g.keep b o h2 h1, h2⟩
theorem Rm.in1 {k : Nat} {A : Around} (r : Rm (k + 1) A) : Rm k A.in1 := ⟨r.rm.in1, r.gd⟩

theorem pe_att {e : Expr} {m : Str} {pos : Pos} {me : SE} {tbl : Addr → Option Act} (he : PE X e me) (T : AttT X k m tbl) (hr : Rm (k + 1) X.A) (hab : attributeBase e m X.env (eval e X.env) = eval e X.env) : PE X (.Attribute e m pos) (eAtt m tbl me) := by
  refine ⟨fun G σ hs s I Q E O => attr_of hab ((he.run G σ hs s I).thn O fun x h1 u s1 G1 _ e1 r1 O1 => ?_)⟩
  have I1 := I.step e1
  unfold dAtt at O1
  split at O1
  · rename_i c ns vs ec
    obtain ⟨a, dx, mA, us0, rfl, ob, l, t, q⟩ := asO_at I1.hinv r1 ec
    split at O1
    · rename_i et
      obtain ⟨c1, c2⟩ := T c _ et
      split at O1
      · rename_i d ed
        obtain ⟨v, ev, rv⟩ := lookup_at q ed
        exact lf (L2.get_map I1.kIn ob (c1.get m) c1.hd c2 (by rw [t]; exact ev) (vr_handed rv) (O1.val I1.hinv _ rv))
      · exact absurd rfl O1.nb
    · rename_i fn et
      obtain ⟨c1, p, g, fd, ps, hp, F, hb⟩ := T c _ et
      obtain ⟨od, J, _⟩ := ob.look
      obtain ⟨rest, hrec⟩ := hp.rec_
      have hc : (PySem.W.clsIn X.S.K c).isSome = true := by
        obtain ⟨cd, hc, _⟩ := PySem.W.any_some c1.hd
        rw [hc]; rfl
      refine get_bind I1.kIn J (PySem.W.plainGet_of (c1.get m)).1 (PySem.W.findObj_data hc hp.at_ hp.get hp.tak) (PySem.W.plainGet_of (c1.get m)).2 (wpAny_call (prop_get (s := { s1 with toks := s1.toks + 1 }) I1.kIn hrec ?_))
      have e2 : Ev X.S noZ G1 h1 s1 G1 h1 { s1 with toks := s1.toks + 1 } := Ev.tok I1.hinv _
      have I2 := I1.step e2
      have r3 : VRs X.S G1 ({ s1 with toks := s1.toks + 1 } : Shared).heap [x] ([Value.ref a] ++ []) := .one r1
      have O2 := O1.mv e2
      refine codeAny_mono (F.run X.A.in1 G1 h1 _ ⟨[.ref a], []⟩ ([.ref a] ++ []) [x] (fun u s' => PySem.W.handedIn u = true ∧ Q u s') (fun _ _ => False) hr.in1 I2.ok.mod I2.hinv I2.bare (hb _ [.ref a] I2.kIn (by rw [r3.len]; exact F.len _ _ O1.nb)) r3 ⟨fun d hs' ed v s' G' e3 r3 => ⟨vr_handed r3, O2.ok d hs' ed v s' G' e3 r3⟩, fun y hs' e => (O1.exc y hs' e).elim, O1.nb⟩) fun r s' hq => ?_
      cases r with
      | error er => exact False.elim hq
      | ok fl =>
        cases fl with
        | ret u =>
          show wpAny _ _ (handedOut u) _ _ _
          rw [PySem.W.handedOut_of hq.1]
          exact wpAny_pure hq.2
        | next => exact False.elim hq
        | brk => exact False.elim hq
        | cont => exact False.elim hq
    · rename_i d et
      have := (T c _ et).2
      exact False.elim this
    · exact absurd rfl O1.nb
  · exact absurd rfl O1.nb
end
end Qo
-- QJ
set_option maxRecDepth 100000
set_option maxHeartbeats 4000000
/-! QJ: iterators, for loops. -/
namespace Qo
open PySem PySem.Spec PyProof.Rows

/-- a value that an iterator hands out: known, or a tuple of what is known -/
def VRw (S : Stat) (G : Gh) (h : Heap) (d : D) (u : Value) : Prop := VR S G h d u ∨ ∃ xs a its, d = .tup xs ∧ u = .ref a ∧ xs.length ≤ sizeLine ∧ IsTup h a its ∧ VRs S G h xs its.toList
abbrev RI := Stat → Gh → Heap → D → Value → Prop
structure PGr (R : RI) (X : Cx) (t : Expr) (g : SG) : Prop where
  run : ∀ (G : Gh) (σ : St) (hs : Hs) (s : Shared) (d : D) (u : Value), Inv X G σ hs s → R X.S G s.heap d u → Sat X X.own (assign t X.env u) (FR X) G hs s (g d σ hs)
/-- an iterator's own step: only what is its own is written -/
structure ItS (S : Stat) (fp : Addr → Prop) (gp : Nat → Prop) (G : Gh) (hs : Hs) (s : Shared) (G' : Gh) (s' : Shared) : Prop where
  keep : ∀ a o, ¬ fp a → s.heap.get? a = some o → s'.heap.get? a = some o
  os : s'.os = s.os
  gens : ∀ (g : Nat) (x : GenState), ¬ gp g → s.gens[g]? = some x → s'.gens[g]? = some x
  bare : Soft s → Soft s'
  mu : G'.mu = G.mu
  im : ∀ a, G.im a → G'.im a
  imn : ∀ a, G'.im a → G.im a ∨ fp a ∨ s.heap.get? a = none
  inv : HInv S G' hs s'.heap
/-- what is an iterator's own is known to nobody -/
structure Apt (fp : Addr → Prop) (gp : Nat → Prop) (G : Gh) (s : Shared) : Prop where
  live : ∀ a, fp a → ∃ o, s.heap.get? a = some o
  mu : ∀ a, fp a → ∀ (i : Nat) (p : Addr × Addr), G.mu[i]? = some p → a ≠ p.1 ∧ a ≠ p.2
  im : ∀ a, fp a → ¬ G.im a
  gl : ∀ g, gp g → ∃ x, s.gens[g]? = some x
section
variable {X : Cx} {G G' G0 : Gh} {σ : St} {hs hs' hs0 : Hs} {s s' s0 : Shared} {Z : Addr → Prop} {fp : Addr → Prop} {gp : Nat → Prop}
theorem Apt.notWr (a : Apt fp gp G s) {c : Addr} (x : fp c) : ¬ Wr G hs c := fun ⟨i, p, _, e, _, q⟩ => by
  have := a.mu c x i p e
  rcases q with rfl | rfl
  · exact this.1 rfl
  · exact this.2 rfl
theorem Apt.keep (a : Apt fp gp G s) (no : ∀ a, fp a → ¬ Z a) (e : Ev X.S Z G hs s G' hs' s') : ∀ c o, fp c → s.heap.get? c = some o → s'.heap.get? c = some o := fun c o x y =>
  e.stp.keep c o (fun z => z.elim (a.notWr x) (no c x)) y
theorem Apt.ev (a : Apt fp gp G s) (no : ∀ a, fp a → ¬ Z a) (e : Ev X.S Z G hs s G' hs' s') : Apt fp gp G' s' := by
  refine ⟨fun c x => ?_, fun c x i p y => ?_, fun c x z => ?_, fun g x => ?_⟩
  · obtain ⟨o, y⟩ := a.live c x
    exact ⟨o, a.keep no e c o x y⟩
  · obtain ⟨o, ho⟩ := a.live c x
    cases q : G.mu[i]? with
    | none =>
      have := e.new i p y q
      exact ⟨fun z => (by rw [z, this.1] at ho; cases ho), fun z => (by rw [z, this.2] at ho; cases ho)⟩
    | some p' =>
      have := e.mu i p' q
      rw [y] at this
      cases this
      exact a.mu c x i p q
  · obtain ⟨o, ho⟩ := a.live c x
    rcases e.imn c z with y | y | y
    · exact a.im c x y
    · rw [y] at ho; cases ho
    · exact a.notWr x y
  · obtain ⟨y, z⟩ := a.gl g x
    exact ⟨y, e.stp.gens g y z⟩
theorem ItS.grow (e : ItS X.S fp gp G hs s G' s') (ni : ∀ a, fp a → ¬ G.im a) : Grow G G' s.heap s'.heap := ⟨e.im, fun a o x y => e.keep a o (fun z => ni a z x) y, fun i p x => by rw [e.mu]; exact x⟩
theorem Inv.it (I : Inv X G σ hs s) (e : ItS X.S fp gp G hs s G' s') (hf : ∀ a, fp a → ¬ X.fr a) (ni : ∀ a, fp a → ¬ G.im a) : Inv X G' σ hs s' := by
  have g := e.grow ni
  have k : ∀ a, X.fr a → ∀ o, s.heap.get? a = some o → s'.heap.get? a = some o := fun a x o y => e.keep a o (fun z => hf a z x) y
  refine ⟨I.ok, e.inv, ⟨?_, fun x c y => ?_, fun a x i p y => I.fr.apart a x i p (by rw [← e.mu]; exact y), fun a x z => ?_⟩, e.bare I.bare⟩
  · obtain ⟨m, ⟨o, es, ep, e1, r⟩, q⟩ := I.fr.loc
    refine ⟨m, ⟨o, es, ep, k _ (.inl rfl) o e1, r⟩, fun x i d h1 h2 hv => ?_⟩
    obtain ⟨u, r1, l⟩ := q x i d h1 h2 hv
    refine ⟨u, VR.mono g d u r1, ?_⟩
    rcases l with l | ⟨kk, c, h3, o', h4, h5⟩
    · exact .inl l
    · exact .inr ⟨kk, c, h3, o', k c (.inr ⟨x, h3⟩) o' h4, h5⟩
  · obtain ⟨v, o, h1, h2⟩ := I.fr.cell x c y
    exact ⟨v, o, k c (.inr ⟨x, y⟩) o h1, h2⟩
  · rcases e.imn a z with y | y | y
    · exact I.fr.nim a x y
    · exact hf a y (I.ok.ownf a x)
    · obtain ⟨o, ho⟩ := I.fr.lt (I.ok.ownf a x)
      rw [y] at ho; cases ho
theorem Ev.it (e : Ev X.S Z G0 hs0 s0 G hs s) (t : ItS X.S fp gp G hs s G' s') (nf : ∀ a o, s0.heap.get? a = some o → fp a → Z a) (lv : ∀ a o, s0.heap.get? a = some o → fp a → ∃ o', s'.heap.get? a = some o') (ng : ∀ g, gp g → s0.gens[g]? = none) (nm : ∀ a, fp a → G'.im a → G0.im a ∨ s0.heap.get? a = none) : Ev X.S Z G0 hs0 s0 G' hs s' := by
  refine ⟨⟨fun a o x y => t.keep a o (fun z => x (.inr (nf a o y z))) (e.stp.keep a o x y), fun a o x => let ⟨o', y⟩ := e.stp.live a o x; (Classical.em (fp a)).elim (lv a o x) fun z => ⟨o', t.keep a o' z y⟩, t.os.trans e.stp.os, fun g x y => t.gens g x (fun z => by rw [ng g z] at y; cases y) (e.stp.gens g x y), fun x => t.bare (e.stp.bare x)⟩,
    e.len, fun i p x => by rw [t.mu]; exact e.mu i p x, fun a x => t.im a (e.im a x), fun i p x y => e.new i p (by rw [← t.mu]; exact x) y, e.fz, fun a x => ?_, t.inv, e.gl⟩
  rcases t.imn a x with y | y | y
  · exact e.imn a y
  · exact (nm a y x).elim .inl fun z => .inr (.inl z)
  · exact .inr (.inl (e.stp.dead y))
theorem Apt.it (a : Apt fp gp G s) (t : ItS X.S fp gp G hs s G' s') (lv : ∀ a, fp a → ∃ o, s'.heap.get? a = some o) (tg : ∀ g, gp g → ∃ x, s'.gens[g]? = some x) (ni : ∀ a, fp a → ¬ G'.im a) : Apt fp gp G' s' := by
  exact ⟨lv, fun c x i p y => a.mu c x i p (by rw [← t.mu]; exact y), ni, tg⟩
end

/-- what every step may count on -/
structure Bas (S : Stat) (A : Around) (G : Gh) (hs : Hs) (s : Shared) : Prop where
  mod : L2.Mod S.K S.mg S.base
  hd : A.handled = none
  hinv : HInv S G hs s.heap
  bare : Soft s
theorem Inv.bas {X : Cx} {G : Gh} {σ : St} {hs : Hs} {s : Shared} (I : Inv X G σ hs s) : Bas X.S X.A G hs s := ⟨I.ok.mod, I.ok.hd, I.hinv, I.bare⟩
theorem Bas.nolimit {S : Stat} {A : Around} {G : Gh} {hs : Hs} {s : Shared} (I : Bas S A G hs s) : s.heap.NoLimit := I.mod.nolimit.keeps fun b o e => (I.hinv.base b o e).1
theorem Bas.kIn {S : Stat} {A : Around} {G : Gh} {hs : Hs} {s : Shared} (I : Bas S A G hs s) : S.K.In s.heap := I.mod.kin.keeps fun b o e => (I.hinv.base b o e).1
/-- an iterator that hands out ds, as long as ok; what is its own may grow by what is new -/
structure Wk (R : RI) (S : Stat) (A : Around) (tgt : Expr) (u : Value) (ds : List D) (ok : Hs → Prop) (P : Nat → (Addr → Prop) → (Nat → Prop) → Gh → Shared → Prop) : Prop where
  fr : ∀ (i : Nat) (fp : Addr → Prop) (gp : Nat → Prop) (G : Gh) (s : Shared) (G' : Gh) (s' : Shared), P i fp gp G s → Grow G G' s.heap s'.heap → (∀ a o, fp a → s.heap.get? a = some o → s'.heap.get? a = some o) → (∀ g x, gp g → s.gens[g]? = some x → s'.gens[g]? = some x) → P i fp gp G' s'
  self : ∀ (i : Nat) (fp : Addr → Prop) (gp : Nat → Prop) (G : Gh) (s : Shared) (Q : Value → Shared → Prop) (E : Value → Shared → Prop), P i fp gp G s → Q u s → wpAny (model S.P S.w) A (pyIter u) Q E s
  item : ∀ (i : Nat) (fp : Addr → Prop) (gp : Nat → Prop) (d : D) (G : Gh) (hs : Hs) (s : Shared) (Q : Value → Shared → Prop) (E : Value → Shared → Prop), ds[i]? = some d → P i fp gp G s → Apt fp gp G s → Bas S A G hs s → ok hs →
    (∀ v fp' gp' G' s', ItS S fp gp G hs s G' s' → Apt fp' gp' G' s' → (∀ a, fp' a → fp a ∨ s.heap.get? a = none) → (∀ g, gp' g → gp g ∨ s.gens[g]? = none) → R S G' s'.heap d v → P (i + 1) fp' gp' G' s' → Q v s') →
    wpAny (model S.P S.w) A (pyNext u) (fun r s₁ => ∃ v, r = some v ∧ wpAny (model S.P S.w) A (letOwnedTupleGo tgt u v) (fun _ s₂ => Q v s₂) E s₁) E s
  stop : ∀ (fp : Addr → Prop) (gp : Nat → Prop) (G : Gh) (hs : Hs) (s : Shared) (Q : Shared → Prop) (E : Value → Shared → Prop), P ds.length fp gp G s → Apt fp gp G s → Bas S A G hs s → ok hs → (∀ G' s', ItS S fp gp G hs s G' s' → Q s') →
    wpAny (model S.P S.w) A (pyNext u) (fun r s₁ => r = none ∧ Q s₁) E s
/-- the same where its own stays as it is -/
structure Wk0 (R : RI) (S : Stat) (A : Around) (tgt : Expr) (fp : Addr → Prop) (gp : Nat → Prop) (u : Value) (ds : List D) (ok : Hs → Prop) (P : Nat → Gh → Shared → Prop) : Prop where
  fr : ∀ (i : Nat) (G : Gh) (s : Shared) (G' : Gh) (s' : Shared), P i G s → Grow G G' s.heap s'.heap → (∀ a o, fp a → s.heap.get? a = some o → s'.heap.get? a = some o) → (∀ g x, gp g → s.gens[g]? = some x → s'.gens[g]? = some x) → P i G' s'
  self : ∀ (i : Nat) (G : Gh) (s : Shared) (Q : Value → Shared → Prop) (E : Value → Shared → Prop), P i G s → Q u s → wpAny (model S.P S.w) A (pyIter u) Q E s
  item : ∀ (i : Nat) (d : D) (G : Gh) (hs : Hs) (s : Shared) (Q : Value → Shared → Prop) (E : Value → Shared → Prop), ds[i]? = some d → P i G s → Apt fp gp G s → Bas S A G hs s → ok hs → (∀ v G' s', ItS S fp gp G hs s G' s' → Apt fp gp G' s' → R S G' s'.heap d v → P (i + 1) G' s' → Q v s') →
    wpAny (model S.P S.w) A (pyNext u) (fun r s₁ => ∃ v, r = some v ∧ wpAny (model S.P S.w) A (letOwnedTupleGo tgt u v) (fun _ s₂ => Q v s₂) E s₁) E s
  stop : ∀ (G : Gh) (hs : Hs) (s : Shared) (Q : Shared → Prop) (E : Value → Shared → Prop), P ds.length G s → Apt fp gp G s → Bas S A G hs s → ok hs → (∀ G' s', ItS S fp gp G hs s G' s' → Q s') →
    wpAny (model S.P S.w) A (pyNext u) (fun r s₁ => r = none ∧ Q s₁) E s
theorem Wk0.wk {R : RI} {S : Stat} {A : Around} {tgt : Expr} {fp : Addr → Prop} {gp : Nat → Prop} {u : Value} {ds : List D} {ok : Hs → Prop} {P : Nat → Gh → Shared → Prop} (W : Wk0 R S A tgt fp gp u ds ok P) :
    Wk R S A tgt u ds ok fun i fp' gp' G s => fp' = fp ∧ gp' = gp ∧ P i G s where
  fr := fun i fp' gp' G s G' s' ⟨e1, e2, p⟩ g k kg => ⟨e1, e2, W.fr i G s G' s' p g (by rw [← e1]; exact k) (by rw [← e2]; exact kg)⟩
  self := fun i fp' gp' G s Q E ⟨_, _, p⟩ h => W.self i G s Q E p h
  item := fun i fp' gp' d G hs s Q E hd ⟨e1, e2, p⟩ a b hk hQ => by
    subst e1 e2
    exact W.item i d G hs s Q E hd p a b hk fun v G' s' t a' r p' => hQ v _ _ G' s' t a' (fun _ x => .inl x) (fun _ x => .inl x) r ⟨rfl, rfl, p'⟩
  stop := fun fp' gp' G hs s Q E ⟨e1, e2, p⟩ a b hk hQ => by
    subst e1 e2
    exact W.stop G hs s Q E p a b hk hQ
/-- an iterator stands, made since s0 -/
def Iter (R : RI) (S : Stat) (A : Around) (tgt : Expr) (s0 : Shared) (ds : List D) (ok : Hs → Prop) (u : Value) (G : Gh) (s : Shared) : Prop :=
  ∃ fp gp P, Wk R S A tgt u ds ok P ∧ P 0 fp gp G s ∧ Apt fp gp G s ∧ (∀ a, fp a → s0.heap.get? a = none) ∧ ∀ g, gp g → s0.gens[g]? = none
theorem Stp.deadG {Z : Addr → Prop} {s s' : Shared} (e : Stp Z s s') {g : Nat} (x : s'.gens[g]? = none) : s.gens[g]? = none := by
  cases q : s.gens[g]? with
  | none => rfl
  | some y => rw [e.gens g y q] at x; cases x
/-- for .. in e: what is handed out, as long as what -/
abbrev SI := St → Hs → Res (List D × (Hs → Prop))
structure PI (R : RI) (X : Cx) (tgt e : Expr) (m : SI) : Prop where
  run : ∀ (G : Gh) (σ : St) (hs : Hs) (s : Shared) (Q : Value → Shared → Prop) (E : Value → Shared → Prop), Inv X G σ hs s → (∀ x h, m σ hs ≠ .exc x h) → m σ hs ≠ .bad →
    (∀ ds ok hs1 u s1 G1, m σ hs = .ok (ds, ok) hs1 → Ev X.S noZ G hs s G1 hs1 s1 → ok hs1 → Iter R X.S X.A tgt s ds ok u G1 s1 → Q u s1) →
    wpAny (model X.S.P X.S.w) X.A (eval e X.env) (fun xv s₁ => wpAny (model X.S.P X.S.w) X.A (pyIter xv) Q E s₁) E s

/-! ### for -/
open Classical in
noncomputable def chk {α : Type} (c : Prop) (r : Res α) : Res α := if c then r else .bad
theorem chk_pos {α : Type} {c : Prop} {r : Res α} (h : c) : chk c r = r := if_pos h
theorem chk_nb {α : Type} {c : Prop} {r : Res α} (h : chk c r ≠ .bad) : c := Classical.byContradiction fun n => h (if_neg n)
noncomputable def forGo (ok : Hs → Prop) (g : SG) (b : SS) : List D → SS
  | [], σ, hs => .ok (.nx, σ) hs
  | d :: ds, σ, hs => (g d σ hs).bind fun σ1 h1 => (b σ1 h1).bind fun r h2 => match r.1 with
    | .nx => chk (ok h2) (forGo ok g b ds r.2 h2)
    | .ct => chk (ok h2) (forGo ok g b ds r.2 h2)
    | .bk => .ok (.nx, r.2) h2
    | .rt d => .ok (.rt d, r.2) h2
noncomputable def sFor (m : SI) (g : SG) (b : SS) : SS := fun σ hs => (m σ hs).bind fun r h => forGo r.2 g b r.1 σ h
section
variable {X : Cx} {G G' G0 : Gh} {σ : St} {hs hs' hs0 : Hs} {s s' s0 : Shared} {Z : Addr → Prop} {R : RI} {tgt : Expr}
theorem Ev.toOwn (e : Ev X.S noZ G hs s G' hs' s') : Ev X.S X.own G hs s G' hs' s' := e.weak fun _ _ _ z => z.elim
theorem Out.anyE {α β : Type} {R : Gh → Heap → β → α → Prop} {r : Res β} {Q : α → Shared → Prop} {E E' : Value → Shared → Prop} (O : Out X Z R G hs s r Q E) : Out X Z R G hs s r Q E' := ⟨O.ok, O.exc, O.nb⟩
/-- a step's own wish -/
theorem Sat.go {α β : Type} {t : Sem α} {R : Gh → Heap → β → α → Prop} {r : Res β} (h : Sat X Z t R G hs s r) {Q : α → Shared → Prop} {E : Value → Shared → Prop} (hx : ∀ x h, r ≠ .exc x h) (hb : r ≠ .bad)
    (k : ∀ b hs' a s' G', r = .ok b hs' → Ev X.S Z G hs s G' hs' s' → R G' s'.heap b a → Q a s') : wpAny (model X.S.P X.S.w) X.A t Q E s :=
  h Q E ⟨fun b hs' e a s' G' e1 r1 => k b hs' a s' G' e e1 r1, fun x h' e => hx x h' e, hb⟩
theorem bind_nb {α β : Type} {r : Res α} {k : α → Hs → Res β} (h : r.bind k ≠ .bad) : r ≠ .bad := fun e => h (by rw [e]; rfl)
theorem bind_nx {α β : Type} {r : Res α} {k : α → Hs → Res β} (h : ∀ x hs, r.bind k ≠ .exc x hs) : ∀ x hs, r ≠ .exc x hs := fun x hs e => h x hs (by rw [e]; rfl)
theorem drop_cons {ds : List D} {i : Nat} {d : D} (h : ds[i]? = some d) : ds.drop i = d :: ds.drop (i + 1) := by
  obtain ⟨hi, e⟩ := List.getElem?_eq_some_iff.mp h
  rw [List.drop_eq_getElem_cons hi, e]
theorem ps_for {e : Expr} {body : List Stmt} {pos : Pos} {m : SI} {g : SG} {b : SS} (he : PI R X tgt e m) (hg : PGr R X tgt g) (hb : PSs X body b) (hs' : ∀ x, foldedSetIterable e X.env x = pure x) : PS X (.For tgt e body [] pos) (sFor m g b) := by
  refine ⟨fun G σ hs s I Q E O => wpAny_For (he.run G σ hs s _ E I (bind_nx O.exc) (bind_nb O.nb) fun ds ok hs1 u s1 G1 em e1 hok it => ?_) hs'⟩
  obtain ⟨fp0, gp0, P, W, p0, a0, nf0, ng0⟩ := it
  have nfrO : ∀ fp : Addr → Prop, (∀ a, fp a → s.heap.get? a = none) → ∀ a, fp a → ¬ X.fr a := fun fp nf a x y => by
    obtain ⟨o, z⟩ := I.fr.lt y
    rw [nf a x] at z; cases z
  have O1 : Out X X.own (SR X) G hs s (forGo ok g b ds σ hs1) Q E := by
    have := O
    unfold sFor at this
    rw [em] at this
    exact this
  generalize hr0 : forGo ok g b ds σ hs1 = r0 at O1
  refine codeAny_forLoop_any (fun n s' => ∃ i fp gp G' σ' hs', i ≤ ds.length ∧ n = ds.length + 1 - i ∧ (∀ a, fp a → s.heap.get? a = none) ∧ (∀ g, gp g → s.gens[g]? = none) ∧ P i fp gp G' s' ∧ Apt fp gp G' s' ∧ Inv X G' σ' hs' s' ∧ ok hs' ∧ Ev X.S X.own G hs s G' hs' s' ∧ forGo ok g b (ds.drop i) σ' hs' = r0) ?_ (ds.length + 1)
    ⟨0, fp0, gp0, G1, σ, hs1, Nat.zero_le _, rfl, nf0, ng0, p0, a0, I.step e1, hok, e1.toOwn, hr0⟩
  rintro n s' ⟨i, fp, gp, G', σ', hs', hi, rfl, nf, ng, p, a, I', hk, ev, hr⟩
  have nfr := nfrO fp nf
  have nf' : ∀ a o, s.heap.get? a = some o → fp a → X.own a := fun a o x y => by rw [nf a y] at x; cases x
  have lv' : ∀ {s'' : Shared}, ∀ a o, s.heap.get? a = some o → fp a → ∃ o', s''.heap.get? a = some o' := fun {_} a o x y => by rw [nf a y] at x; cases x
  cases hd : ds[i]? with
  | none =>
    have hin : i = ds.length := by rw [List.getElem?_eq_none_iff] at hd; omega
    subst hin
    refine wpAny_mono (W.stop fp gp G' hs' s' (fun s2 => wpAny (model X.S.P X.S.w) X.A (execs [] X.env) (fun f s₃ => Q f s₃) (notedBy (model X.S.P X.S.w) X.A X.env fun e s' => cameBackBy (model X.S.P X.S.w) X.A X.env E e s') s2) _ p a I'.bas hk fun G2 s2 t => ?_) (fun r s₁ h₁ => ?_) fun _ _ e => e
    · rw [List.drop_length] at hr
      refine wpAny_execs_nil (O1.ok _ _ hr.symm _ _ G2 (ev.it t nf' lv' ng (fun a x _ => .inr (nf a x))) ⟨(I'.it t nfr a.im).fr, trivial⟩)
    · obtain ⟨rfl, q⟩ := h₁
      exact q
  | some d =>
    have hlt : i < ds.length := (List.getElem?_eq_some_iff.mp hd).1
    rw [drop_cons hd] at hr
    unfold forGo at hr
    refine wpAny_mono (W.item i fp gp d G' hs' s' (fun v s2 => wpAny (model X.S.P X.S.w) X.A (assign tgt X.env v) (fun _ s₂ => wpAny (model X.S.P X.S.w) X.A (execs body X.env) (fun f s₃ => match f with
            | .next | .cont => ∃ m, m < ds.length + 1 - i ∧ ∃ i fp gp G' σ' hs', i ≤ ds.length ∧ m = ds.length + 1 - i ∧ (∀ a, fp a → s.heap.get? a = none) ∧ (∀ g, gp g → s.gens[g]? = none) ∧ P i fp gp G' s₃ ∧ Apt fp gp G' s₃ ∧ Inv X G' σ' hs' s₃ ∧ ok hs' ∧ Ev X.S X.own G hs s G' hs' s₃ ∧ forGo ok g b (ds.drop i) σ' hs' = r0
            | .brk => Q .next s₃
            | .ret v => Q (.ret v) s₃) (notedBy (model X.S.P X.S.w) X.A X.env fun e s' => cameBackBy (model X.S.P X.S.w) X.A X.env E e s') s₂) (notedBy (model X.S.P X.S.w) X.A X.env fun e s' => cameBackBy (model X.S.P X.S.w) X.A X.env E e s') s2) _ hd p a I'.bas hk fun v fp2 gp2 G2 s2 t a2 n1 n2 rv p2 => ?_) (fun r s₁ h₁ => ?_) fun _ _ e => e
    · have nf2 : ∀ a, fp2 a → s.heap.get? a = none := fun a x => (n1 a x).elim (nf a) fun z => ev.stp.dead z
      have ng2 : ∀ g, gp2 g → s.gens[g]? = none := fun g x => (n2 g x).elim (ng g) fun z => ev.stp.deadG z
      have nown : ∀ a, fp2 a → ¬ X.own a := fun a x y => nfrO fp2 nf2 a x (I.ok.ownf a y)
      have I2 := I'.it t nfr a.im
      have ev2 := ev.it t nf' lv' ng (fun a x _ => .inr (nf a x))
      have nx : ∀ x h, (g d σ' hs').bind (fun σ1 h1 => (b σ1 h1).bind fun r h2 => match r.1 with
    | .nx => chk (ok h2) (forGo ok g b (ds.drop (i + 1)) r.2 h2)
    | .ct => chk (ok h2) (forGo ok g b (ds.drop (i + 1)) r.2 h2)
    | .bk => .ok (.nx, r.2) h2
    | .rt d => .ok (.rt d, r.2) h2) ≠ .exc x h := by rw [hr]; exact O1.exc
      have nb : (g d σ' hs').bind (fun σ1 h1 => (b σ1 h1).bind fun r h2 => match r.1 with
    | .nx => chk (ok h2) (forGo ok g b (ds.drop (i + 1)) r.2 h2)
    | .ct => chk (ok h2) (forGo ok g b (ds.drop (i + 1)) r.2 h2)
    | .bk => .ok (.nx, r.2) h2
    | .rt d => .ok (.rt d, r.2) h2) ≠ .bad := by rw [hr]; exact O1.nb
      refine (hg.run G2 σ' hs' s2 d v I2 rv).go (bind_nx nx) (bind_nb nb) fun σ1 h1 _ s3 G3 eg e3 f3 => ?_
      rw [eg] at nx nb hr
      have I3 := I2.stepS e3 f3
      refine (hb.run G3 σ1 h1 s3 I3).go (bind_nx nx) (bind_nb nb) fun r h2 f s4 G4 eb e4 r4 => ?_
      obtain ⟨fl, σ2⟩ := r
      obtain ⟨f4, q4⟩ := r4
      have I4 := I3.stepS e4 f4
      simp only [Res.bind_ok] at hr
      rw [eb] at hr
      have ev4 := (ev2.trans e3 (fun _ _ _ z => z) fun _ _ _ z => z).trans e4 (Z2 := X.own) (fun _ _ _ z => z) fun _ _ _ z => z
      have a4 := (a2.ev nown e3).ev nown e4
      have p3 := W.fr _ _ _ _ _ _ _ p2 (I2.growS e3) (a2.keep nown e3) fun g x _ y => e3.stp.gens g x y
      have p4 := W.fr _ _ _ _ _ _ _ p3 (I3.growS e4) ((a2.ev nown e3).keep nown e4) fun g x _ y => e4.stp.gens g x y
      have again : chk (ok h2) (forGo ok g b (ds.drop (i + 1)) σ2 h2) = r0 → ∃ m, m < ds.length + 1 - i ∧ ∃ i fp gp G' σ' hs', i ≤ ds.length ∧ m = ds.length + 1 - i ∧ (∀ a, fp a → s.heap.get? a = none) ∧ (∀ g, gp g → s.gens[g]? = none) ∧ P i fp gp G' s4 ∧ Apt fp gp G' s4 ∧ Inv X G' σ' hs' s4 ∧ ok hs' ∧ Ev X.S X.own G hs s G' hs' s4 ∧ forGo ok g b (ds.drop i) σ' hs' = r0 := fun hz => by
        have hk2 : ok h2 := chk_nb (by rw [hz]; exact O1.nb)
        rw [chk_pos hk2] at hz
        exact ⟨ds.length + 1 - (i + 1), by omega, i + 1, fp2, gp2, G4, σ2, h2, hlt, rfl, nf2, ng2, p4, a4, I4, hk2, ev4, hz⟩
      cases fl with
      | nx =>
        cases f with
        | next => exact again hr
        | _ => exact False.elim q4
      | ct =>
        cases f with
        | cont => exact again hr
        | _ => exact False.elim q4
      | bk =>
        cases f with
        | brk => exact O1.ok _ _ hr.symm _ _ _ ev4 ⟨f4, trivial⟩
        | _ => exact False.elim q4
      | rt d' =>
        cases f with
        | ret u' => exact O1.ok _ _ hr.symm _ _ _ ev4 ⟨f4, q4⟩
        | _ => exact False.elim q4
    · obtain ⟨v, rfl, q⟩ := h₁
      exact q
end
end Qo
-- QK
set_option maxRecDepth 100000
set_option maxHeartbeats 4000000
/-! QK: list comprehensions. -/
namespace Qo
open PySem PySem.Spec PyProof.Rows

def noG : Nat → Prop := fun _ => False
section
variable {X Y : Cx} {G G' G0 : Gh} {σ : St} {hs hs' hs0 : Hs} {s s' s0 : Shared} {Z : Addr → Prop} {R : RI} {tgt : Expr} {fp fp' : Addr → Prop} {gp gp' : Nat → Prop}
/-- the heap changes at fp alone -/
theorem ItS.heap (I : HInv X.S G hs s.heap) (a : Apt fp noG G s) {h' : Heap} {t : Nat} (k : ∀ a o, ¬ fp a → s.heap.get? a = some o → h'.get? a = some o) (ng : ∀ a, fp a → ¬ GenObj s.heap a) : ItS X.S fp noG G hs s G { s with heap := h', toks := t } := by
  have g : Grow G G s.heap h' := ⟨fun _ x => x, fun b o x y => k b o (fun z => a.im b z x) y, fun _ _ x => x⟩
  refine ⟨k, rfl, fun _ _ _ x => x, fun x => x.keeps rfl fun b y => y.keeps fun o e => k b o (fun z => ng b z y) e, rfl, fun _ x => x, fun _ x => .inl x, ⟨I.len, I.inj, fun i p f c x y => (I.cell i p f c x y).mono g (fun o q => k _ o (fun z => (a.mu _ z i p x).1 rfl) q) (fun o q => k _ o (fun z => (a.mu _ z i p x).2 rfl) q), I.free, I.froz, fun b x => ?_, fun b o x => ?_⟩⟩
  · obtain ⟨o, y⟩ := I.live b x
    exact ⟨o, g.keep b o x y⟩
  · obtain ⟨h1, h2⟩ := I.base b o x
    exact ⟨g.keep b o h2 h1, h2⟩
/-- what is another's own stands at an iterator's step -/
theorem Apt.other (a : Apt fp gp G s) (t : ItS X.S fp' gp' G hs s G' s') (ne : ∀ b, fp b → ¬ fp' b) (ng : ∀ g, gp g → ¬ gp' g) : Apt fp gp G' s' := by
  refine ⟨fun c x => let ⟨o, y⟩ := a.live c x; ⟨o, t.keep c o (ne c x) y⟩, fun c x i p y => a.mu c x i p (by rw [← t.mu]; exact y), fun c x z => ?_, fun g x => let ⟨y, z⟩ := a.gl g x; ⟨y, t.gens g y (ng g x) z⟩⟩
  rcases t.imn c z with y | y | y
  · exact a.im c x y
  · exact ne c x y
  · obtain ⟨o, ho⟩ := a.live c x
    rw [y] at ho; cases ho
theorem Wk.other {u : Value} {ds : List D} {ok : Hs → Prop} {P : Nat → (Addr → Prop) → (Nat → Prop) → Gh → Shared → Prop} (W : Wk R X.S X.A tgt u ds ok P) {i : Nat} (p : P i fp gp G s) (t : ItS X.S fp' gp' G hs s G' s') (ne : ∀ b, fp b → ¬ fp' b) (ng : ∀ g, gp g → ¬ gp' g) (ni : ∀ a, fp' a → ¬ G.im a) : P i fp gp G' s' :=
  W.fr i fp gp G s G' s' p (t.grow ni) (fun a o x y => t.keep a o (ne a x) y) (fun g x y z => t.gens g x (ng g y) z)
theorem Wk.ev {u : Value} {ds : List D} {ok : Hs → Prop} {P : Nat → (Addr → Prop) → (Nat → Prop) → Gh → Shared → Prop} (W : Wk R X.S X.A tgt u ds ok P) {i : Nat} (p : P i fp gp G s) (a : Apt fp gp G s) (no : ∀ a, fp a → ¬ Z a) (e : Ev Y.S Z G hs s G' hs' s') (g : Grow G G' s.heap s'.heap) : P i fp gp G' s' :=
  W.fr i fp gp G s G' s' p g (a.keep no e) (fun g x _ z => e.stp.gens g x z)
/-- what was somebody's own is known now: it never changes -/
theorem Ev.adopt (e : Ev X.S Z G0 hs0 s0 G hs s) {p : Addr} (a : Apt (· = p) noG G s) (hp : s0.heap.get? p = none) : Ev X.S Z G0 hs0 s0 (G.add p) hs s := by
  have g : Grow G (G.add p) s.heap s.heap := ⟨fun _ x => .inl x, fun _ _ _ x => x, fun _ _ x => x⟩
  have I := e.inv
  refine ⟨e.stp, e.len, e.mu, fun b x => .inl (e.im b x), e.new, e.fz, fun b x => ?_, ⟨I.len, I.inj, fun i q f c x y => (I.cell i q f c x y).mono g (fun _ z => z) (fun _ z => z), fun i q c x y => ?_, fun i q c x y => ?_, fun b x => ?_, fun b o x => ⟨(I.base b o x).1, .inl (I.base b o x).2⟩⟩, e.gl⟩
  · rcases x with x | rfl
    · exact e.imn b x
    · exact .inr (.inl hp)
  · obtain ⟨h1, h2⟩ := I.free i q c x y
    have := a.mu p rfl i q x
    exact ⟨fun z => z.elim h1 fun z => this.1 z.symm, fun z => z.elim h2 fun z => this.2 z.symm⟩
  · obtain ⟨h1, h2⟩ := I.froz i q c x y
    exact ⟨.inl h1, .inl h2⟩
  · rcases x with x | rfl
    · exact I.live b x
    · exact a.live b rfl
/-- the same: a cell -/
theorem Ev.adoptC (e : Ev X.S Z G0 hs0 s0 G hs s) {p : Addr} {c : Cell} (a : Apt (· = p) noG G s) (hp : s0.heap.get? p = none) (hc : CellAt X.S G s.heap (p, p) c) : Ev X.S Z G0 hs0 s0 ⟨G.mu ++ [(p, p)], G.im⟩ (hs ++ [(false, c)]) s := by
  have I := e.inv
  have g : Grow G ⟨G.mu ++ [(p, p)], G.im⟩ s.heap s.heap := ⟨fun _ x => x, fun _ _ _ x => x, fun i q x => by rw [List.getElem?_append_left (List.getElem?_eq_some_iff.mp x).1]; exact x⟩
  have at_ : ∀ {i : Nat} {q : Addr × Addr}, (G.mu ++ [(p, p)])[i]? = some q → G.mu[i]? = some q ∨ (i = G.mu.length ∧ q = (p, p)) := fun {i q} x => by
    by_cases hi : i < G.mu.length
    · rw [List.getElem?_append_left hi] at x; exact .inl x
    · rw [List.getElem?_append_right (Nat.le_of_not_lt hi)] at x
      cases hj : i - G.mu.length with
      | zero => rw [hj] at x; simp at x; exact .inr ⟨by omega, x.symm⟩
      | succ n => rw [hj] at x; simp at x
  have hat : ∀ {i : Nat} {f : Bool} {c' : Cell}, (hs ++ [(false, c)])[i]? = some (f, c') → hs[i]? = some (f, c') ∨ (i = hs.length ∧ f = false ∧ c' = c) := fun {i f c'} x => by
    by_cases hi : i < hs.length
    · rw [List.getElem?_append_left hi] at x; exact .inl x
    · rw [List.getElem?_append_right (Nat.le_of_not_lt hi)] at x
      cases hj : i - hs.length with
      | zero => rw [hj] at x; simp at x; exact .inr ⟨by omega, by first | exact x.1 | exact x.1.symm, by first | exact x.2 | exact x.2.symm⟩
      | succ n => rw [hj] at x; simp at x
  have lt : ∀ {i : Nat} {q : Addr × Addr}, G.mu[i]? = some q → i < hs.length := fun {i q} x => by
    have := (List.getElem?_eq_some_iff.mp x).1
    rw [I.len] at this
    exact this
  refine ⟨e.stp, by have := e.len; simp; omega, fun i q x => g.mu i q (e.mu i q x), e.im, fun i q x y => ?_, fun i c' x => ?_, e.imn, ⟨by simp [I.len], fun i j q r x y n => ?_, fun i q f c' x y => ?_, fun i q c' x y => ?_, fun i q c' x y => ?_, I.live, I.base⟩, e.gl⟩
  · rcases at_ x with x | ⟨_, rfl⟩
    · exact e.new i q x y
    · exact ⟨hp, hp⟩
  · have := e.fz i c' x
    rw [List.getElem?_append_left (List.getElem?_eq_some_iff.mp this).1]; exact this
  · rcases at_ x with x1 | ⟨hi, rfl⟩
    · rcases at_ y with y1 | ⟨hj, rfl⟩
      · exact I.inj i j q r x1 y1 n
      · have := a.mu p rfl i q x1
        exact ⟨this.1.symm, this.1.symm, this.2.symm, this.2.symm⟩
    · rcases at_ y with y1 | ⟨hj, rfl⟩
      · have := a.mu p rfl j r y1
        exact ⟨this.1, this.2, this.1, this.2⟩
      · exact absurd (hi.trans hj.symm) n
  · rcases at_ x with x | ⟨hi, rfl⟩
    · rcases hat y with y | ⟨hj, _, _⟩
      · exact (I.cell i q f c' x y).mono g (fun _ x => x) (fun _ x => x)
      · have := lt x; omega
    · rcases hat y with y | ⟨hj, _, rfl⟩
      · have := (List.getElem?_eq_some_iff.mp y).1
        have := I.len
        omega
      · exact hc.mono g (fun _ x => x) (fun _ x => x)
  · rcases at_ x with x | ⟨hi, rfl⟩
    · rcases hat y with y | ⟨hj, _, _⟩
      · exact I.free i q c' x y
      · have := lt x; omega
    · exact ⟨a.im p rfl, a.im p rfl⟩
  · rcases at_ x with x | ⟨hi, rfl⟩
    · rcases hat y with y | ⟨hj, hf, _⟩
      · exact I.froz i q c' x y
      · cases hf
    · rcases hat y with y | ⟨hj, hf, _⟩
      · have := (List.getElem?_eq_some_iff.mp y).1
        have := I.len
        omega
      · cases hf
/-- a list that a loop has filled is handed on -/
theorem Out.adoptL {Q : Value → Shared → Prop} {E : Value → Shared → Prop} {b : Bool} {xs : List D} {p : Addr} {its : Array Value} (O : Out X Z (VRX X) G0 hs0 s0 (mkL b xs hs) Q E) (e : Ev X.S Z G0 hs0 s0 G hs s) (a : Apt (· = p) noG G s) (hp : s0.heap.get? p = none)
    (hl : s.heap.PlainList p its) (r : VRs X.S G s.heap xs its.toList) : Q (.ref p) s := by
  obtain ⟨hz, O⟩ := O.grd
  cases b with
  | true =>
    rw [if_pos rfl] at O
    refine O.ok _ _ rfl _ _ _ (e.adoptC (c := .lst xs) a hp ⟨rfl, hz, its, hl, r⟩) ?_
    show VR X.S _ _ _ _
    rw [VR]
    exact ⟨(p, p), by show (G.mu ++ [(p, p)])[hs.length]? = _; rw [← e.inv.len]; simp, rfl⟩
  | false =>
    rw [if_neg Bool.false_ne_true] at O
    refine O.ok _ _ rfl _ _ _ (e.adopt a hp) ?_
    show VR X.S _ _ _ _
    rw [VR]
    exact ⟨p, its, rfl, .inr rfl, hz, hl, VRs.add (fun _ _ x => x) r⟩

end
/-! ### the block of a comprehension -/
def Cx.blk (X : Cx) (scope : Scope) (cenv : Env) : Cx := { X with env := cenv, own := fun a => a = cenv.locals ∨ ∃ y, scope.names.lookup y = some .cell ∧ cenv.cells.lookup y = some a, fn := fun x => scope.names.lookup x == some .cell }
def wipe (σ : St) : List Nat → St
  | [] => σ
  | v :: vs => (wipe σ vs).set v none
theorem wipe_some {σ : St} {i : Nat} {x : D} : ∀ {vs : List Nat}, (wipe σ vs)[i]? = some (some x) → σ[i]? = some (some x) ∧ i ∉ vs
  | [], h => ⟨h, by simp⟩
  | v :: vs, h => by
    unfold wipe at h
    by_cases hi : v = i
    · subst hi
      by_cases hv : v < (wipe σ vs).length
      · rw [List.getElem?_set_self hv] at h; cases h
      · rw [List.getElem?_eq_none (by simpa using hv)] at h; cases h
    · rw [List.getElem?_set_ne hi] at h
      obtain ⟨h1, h2⟩ := wipe_some h
      exact ⟨h1, by simp only [List.mem_cons, not_or]; exact ⟨fun e => hi e.symm, h2⟩⟩
/-- the names of a block, by the slots -/
structure Blk (vars : List (Str × Nat)) (sc scope : Scope) (own : List Nat) : Prop where
  kind : scope.kind = .function
  uniq : ∀ y ∈ scope.names, scope.names.lookup y.1 = some y.2
  free : ∀ y ∈ scope.names, y.2 = .free → sc.names.lookup y.1 = some .cell ∨ sc.names.lookup y.1 = some .free
  own : ∀ y ∈ scope.names, y.2 = .local ∨ y.2 = .cell → ∀ i, vars.lookup y.1 = some i → i ∈ own
section
variable {X Y : Cx} {G G' G0 : Gh} {σ : St} {hs hs' hs0 : Hs} {s s' s0 : Shared}
theorem blk_start {scope : Scope} {own : List Nat} (I : Inv X G σ hs s) (ok : Blk X.vars X.env.scope scope own) (hfree : ∀ y ∈ scope.names, y.2 = .free → ∃ c, X.env.cells.lookup y.1 = some c) {s' : Shared} (es : s' = { s with heap := pushCells (s.heap.push { cls := .type "dict", data := .dict #[] }) scope.names })
    {cenv : Env} (ec : cenv = compEnvC scope (cellsFrom (s.heap.objs.size + 1) scope.names (L2.cloFrom X.env.cells scope.names [])) s.heap.objs.size X.env) :
    Inv (X.blk scope cenv) G (wipe σ own) hs s' ∧ Ev X.S noZ G hs s G hs s' ∧ ∀ a, (X.blk scope cenv).own a → s.heap.get? a = none := by
  have kp : ∀ b o, s.heap.get? b = some o → (pushCells (s.heap.push { cls := .type "dict", data := .dict #[] }) scope.names).get? b = some o := fun b o e => pushCells_keeps _ _ _ _ (Heap.get?_push_of_some _ e)
  have e : Ev X.S noZ G hs s G hs s' := by rw [es]; exact Ev.kept (X := X) I.hinv kp
  have hL : cenv.locals = s.heap.objs.size := by rw [ec]; rfl
  have hcl : cenv.cells = cellsFrom (s.heap.objs.size + 1) scope.names (L2.cloFrom X.env.cells scope.names []) := by rw [ec]; rfl
  have hsc : cenv.scope = L2.relS scope X.env.scope := by rw [ec]; rfl
  rw [← Heap.size_push s.heap { cls := .type "dict", data := .dict #[] }] at hcl
  have cm : ∀ {y c}, (y, c) ∈ L2.cloFrom X.env.cells scope.names [] → X.env.cells.lookup y = some c ∧ c < s.heap.objs.size := fun {y c} hm => by
    rcases L2.cloFrom_mem hm with hm | ⟨h1, rfl⟩
    · cases hm
    · obtain ⟨c, hc⟩ := hfree _ h1 rfl
      rw [hc]
      obtain ⟨w, o, z, _⟩ := I.fr.cell _ _ hc
      exact ⟨rfl, Heap.lt_size z⟩
  have mem : ∀ {y c}, cenv.cells.lookup y = some c → (X.env.cells.lookup y = some c ∧ c < s.heap.objs.size) ∨ (s.heap.objs.size + 1 ≤ c ∧ L2.CellAt (pushCells (s.heap.push { cls := .type "dict", data := .dict #[] }) scope.names) c none) := fun {y c} e => by
    rw [hcl] at e
    rcases L2.cells_mem (PySem.mem_of_lookup e) with hm | ⟨_, h2, h3⟩
    · exact .inl (cm hm)
    · rw [Heap.size_push] at h2; exact .inr ⟨h2, h3⟩
  have look : ∀ {y}, scope.names.lookup y = some .free → ∃ c, cenv.cells.lookup y = some c ∧ X.env.cells.lookup y = some c := fun {y} hl => by
    have hy : (y, NameKind.free) ∈ scope.names := PySem.mem_of_lookup hl
    obtain ⟨c', e'⟩ := L2.mem_lookup (L2.cells_acc (names := scope.names) (n := (s.heap.push { cls := .type "dict", data := .dict #[] }).objs.size) (L2.cloFrom_has (cells := X.env.cells) (acc := []) hy))
    rw [← hcl] at e'
    refine ⟨c', e', ?_⟩
    rw [hcl] at e'
    rcases L2.cells_mem (PySem.mem_of_lookup e') with hm | ⟨h1, _, _⟩
    · exact (cm hm).1
    · have := ok.uniq _ h1
      rw [hl] at this; cases this
  have ownNew : ∀ {y c}, scope.names.lookup y = some .cell → cenv.cells.lookup y = some c → s.heap.objs.size + 1 ≤ c := fun {y c} z e => by
    rw [hcl] at e
    rcases L2.cells_mem (PySem.mem_of_lookup e) with hm | ⟨_, h2, _⟩
    · rcases L2.cloFrom_mem hm with hm | ⟨h1, _⟩
      · cases hm
      · have q := ok.uniq _ h1
        rw [z] at q; cases q
    · rwa [Heap.size_push] at h2
  have fresh : ∀ a, (X.blk scope cenv).own a → s.heap.get? a = none := fun a y => by
    rcases y with rfl | ⟨z, h1, h2⟩
    · rw [hL]; exact Heap.get?_none_of_le (Nat.le_refl _)
    · exact Heap.get?_none_of_le (Nat.le_of_succ_le (ownNew h1 h2))
  have hasCell : ∀ y, scope.names.lookup y = some .cell → ∃ c, cenv.cells.lookup y = some c := fun y e => by
    obtain ⟨c, hm⟩ := L2.cells_has (n := (s.heap.push { cls := .type "dict", data := .dict #[] }).objs.size) (acc := L2.cloFrom X.env.cells scope.names []) (PySem.mem_of_lookup e)
    obtain ⟨c', e'⟩ := L2.mem_lookup hm
    exact ⟨c', by rw [hcl]; exact e'⟩
  have alive : ∀ {i : Nat} {p : Addr × Addr}, G.mu[i]? = some p → (∃ o, s.heap.get? p.1 = some o) ∧ ∃ o, s.heap.get? p.2 = some o := fun {i p} x => by
    have hi : i < hs.length := by rw [← I.hinv.len]; exact (List.getElem?_eq_some_iff.mp x).1
    exact (I.hinv.cell i p (hs[i]).1 (hs[i]).2 x (by rw [List.getElem?_eq_getElem hi])).ex
  have notMu : ∀ {a : Addr}, s.heap.get? a = none → ∀ (i : Nat) (p : Addr × Addr), G.mu[i]? = some p → a ≠ p.1 ∧ a ≠ p.2 := fun {a} h i p x => by
    obtain ⟨⟨o1, h1⟩, o2, h2⟩ := alive x
    exact ⟨fun z => (by rw [← z, h] at h1; cases h1), fun z => (by rw [← z, h] at h2; cases h2)⟩
  refine ⟨⟨⟨I.ok.mod, by show cenv.scope.kind = _; rw [hsc]; exact ok.kind, by show cenv.globals = _; rw [ec]; exact I.ok.glob, by show cenv.builtins = _; rw [ec]; exact I.ok.blt, I.ok.hd, fun y z c e1 e2 => ?_, fun a y => ?_, I.ok.vinj, .inl rfl, fun y c h1 h2 => .inr ⟨y, by simpa [Cx.blk] using h1, h2⟩, fun y h => ?_⟩, e.inv, ⟨?_, fun y c e => ?_, fun a y i p q => ?_, fun a y z => ?_⟩, e.stp.bare I.bare⟩, e, fresh⟩
  · have e1 : cenv.cells.lookup y = some c := e1
    have e2 : cenv.cells.lookup z = some c := e2
    rw [hcl] at e1 e2
    refine L2.cells_inj (fun p hp => ?_) (fun y z c a b => I.ok.inj y z c (cm a).1 (cm b).1) (PySem.mem_of_lookup e1) (PySem.mem_of_lookup e2)
    rw [Heap.size_push]
    exact Nat.lt_succ_of_lt (cm (y := p.1) (c := p.2) hp).2
  · rcases y with rfl | ⟨z, h1, h2⟩
    · exact .inl rfl
    · exact .inr ⟨z, h2⟩
  · have h : cenv.scope.names.lookup y = some .cell := h
    rw [hsc] at h
    obtain ⟨k', e, r⟩ := L2.lookup_relS h
    have r' : k' = .cell ∨ k' = .free := by
      rcases r with rfl | ⟨rfl, _⟩
      · exact .inl rfl
      · exact .inr rfl
    rcases r' with rfl | rfl
    · exact hasCell y e
    · obtain ⟨c, h1, _⟩ := look e
      exact ⟨c, h1⟩
  · refine ⟨fun _ => none, ?_, fun y i d e1 e2 e3 => ?_⟩
    · show Heap.Ns _ cenv.locals _
      rw [hL, es]
      exact Heap.Ns.keeps (Heap.Ns.new ..) fun b o e => pushCells_keeps _ _ _ _ e
    · obtain ⟨e2, hne⟩ := wipe_some e2
      have hfr : scope.names.lookup y = some .free ∧ (cenv.kindOf y = some .cell ∨ cenv.kindOf y = some .free) := by
        have key : ∀ k, cenv.scope.names.lookup y = some k → k = .local ∨ k = .cell ∨ k = .free → scope.names.lookup y = some .free ∧ (cenv.kindOf y = some .cell ∨ cenv.kindOf y = some .free) := fun k hk hk' => by
          have hk0 := hk
          rw [hsc] at hk
          obtain ⟨k', e, r⟩ := L2.lookup_relS hk
          have no : ¬ (k' = .local ∨ k' = .cell) := fun hh => hne (ok.own _ (PySem.mem_of_lookup e) hh i e1)
          rcases r with rfl | ⟨rfl, rfl⟩
          · rcases hk' with rfl | rfl | rfl
            · exact absurd (.inl rfl) no
            · exact absurd (.inr rfl) no
            · exact ⟨e, .inr hk0⟩
          · exact ⟨e, .inl hk0⟩
        have e3 : L2.Vis cenv.scope y := e3
        rcases e3 with e3 | e3 | e3
        · exact key _ e3 (.inl rfl)
        · exact key _ e3 (.inr (.inl rfl))
        · exact key _ e3 (.inr (.inr rfl))
      obtain ⟨m, hn, hl⟩ := I.fr.loc
      have hvis : L2.Vis X.env.scope y := (ok.free _ (PySem.mem_of_lookup hfr.1) rfl).elim (fun k => .inr (.inl k)) (fun k => .inr (.inr k))
      obtain ⟨w, r, q⟩ := hl y i d e1 e2 hvis
      refine ⟨w, VR.mono (I.grow e) _ _ r, .inr ⟨hfr.2, ?_⟩⟩
      obtain ⟨c, h1, h2⟩ := look hfr.1
      rcases q with ⟨k, _⟩ | ⟨_, c', e', z⟩
      · have k : X.env.scope.names.lookup y = some .local := k
        rcases ok.free _ (PySem.mem_of_lookup hfr.1) rfl with k' | k' <;> rw [show X.env.scope.names.lookup y = _ from k'] at k <;> cases k
      · rw [h2] at e'; cases e'
        exact ⟨c, h1, by rw [es]; exact z.keeps kp⟩
  · have e : cenv.cells.lookup y = some c := e
    rw [es]
    rcases mem e with ⟨h1, _⟩ | ⟨_, z⟩
    · obtain ⟨w, z⟩ := I.fr.cell y c h1
      exact ⟨w, z.keeps kp⟩
    · exact ⟨_, z⟩
  · rcases y with rfl | ⟨z, h2⟩
    · exact notMu (by show s.heap.get? cenv.locals = none; rw [hL]; exact Heap.get?_none_of_le (Nat.le_refl _)) i p q
    · have h2 : cenv.cells.lookup z = some a := h2
      rcases mem h2 with ⟨h1, _⟩ | ⟨h1, _⟩
      · exact I.fr.apart a (.inr ⟨z, h1⟩) i p q
      · exact notMu (Heap.get?_none_of_le (Nat.le_of_succ_le h1)) i p q
  · obtain ⟨o, q⟩ := I.hinv.live a z
    rw [fresh a y] at q; cases q
end
end Qo
-- QL
set_option maxRecDepth 100000
set_option maxHeartbeats 4000000
/-! QL: list comprehensions: the loop. -/
namespace Qo
open PySem PySem.Spec PyProof.Rows

structure PTs (X : Cx) (ifs : List Expr) (t : ST) : Prop where
  run : ∀ (G : Gh) (σ : St) (hs : Hs) (s : Shared), Inv X G σ hs s → Sat X noZ (testsOf ifs X.env) (fun _ _ d u => u = d) G hs s (t σ hs)
def tYes : ST := fun _ hs => .ok true hs
theorem pts_nil {X : Cx} : PTs X [] tYes := ⟨fun G σ hs s I Q E O => wpAny_tests_nil (O.tt I.hinv)⟩
theorem pts_one {X : Cx} {c : Expr} {t : ST} (h : PT X c t) : PTs X [c] t := ⟨fun G σ hs s I Q E O => wpAny_tests_one (h.run G σ hs s I Q E O)⟩
/-- the loop of a list comprehension -/
noncomputable def lcGo (ok : Hs → Prop) (g : SG) (t : ST) (el : SE) : List D → List D → St → Hs → Res (List D × St)
  | [], xs, σ, hs => .ok (xs, σ) hs
  | d :: ds, xs, σ, hs => (g d σ hs).bind fun σ1 h1 => (t σ1 h1).bind fun c h2 => if c = true then (el σ1 h2).bind fun x h3 => chk (ok h3) (lcGo ok g t el ds (xs ++ [x]) σ1 h3) else chk (ok h2) (lcGo ok g t el ds xs σ1 h2)
theorem lcGo_len {ok : Hs → Prop} {g : SG} {t : ST} {el : SE} : ∀ {ds xs : List D} {σ : St} {hs : Hs} {r : List D × St} {h : Hs}, lcGo ok g t el ds xs σ hs = .ok r h → r.1.length ≤ xs.length + ds.length ∧ xs.length ≤ r.1.length
  | [], xs, σ, hs, r, h, e => by cases e; simp
  | d :: ds, xs, σ, hs, r, h, e => by
    unfold lcGo at e
    cases e1 : g d σ hs with
    | bad => rw [e1] at e; cases e
    | exc _ _ => rw [e1] at e; cases e
    | ok σ1 h1 =>
      rw [e1] at e
      simp only [Res.bind_ok] at e
      cases e2 : t σ1 h1 with
      | bad => rw [e2] at e; cases e
      | exc _ _ => rw [e2] at e; cases e
      | ok c h2 =>
        rw [e2] at e
        simp only [Res.bind_ok] at e
        have out : ∀ {ys : List D} {h3 : Hs}, chk (ok h3) (lcGo ok g t el ds ys σ1 h3) = .ok r h → r.1.length ≤ ys.length + ds.length ∧ ys.length ≤ r.1.length := fun {ys h3} z => by
          have := chk_nb (c := ok h3) (r := lcGo ok g t el ds ys σ1 h3) (by rw [z]; simp)
          rw [chk_pos this] at z
          exact lcGo_len z
        cases c with
        | false =>
          have := out e
          simp only [List.length_cons]; omega
        | true =>
          rw [if_pos rfl] at e
          cases e3 : el σ1 h2 with
          | bad => rw [e3] at e; cases e
          | exc _ _ => rw [e3] at e; cases e
          | ok x h3 =>
            rw [e3] at e
            have := out e
            simp only [List.length_append, List.length_cons, List.length_nil] at this ⊢
            omega
/-- the code of a comprehension's loop, by a turn -/
def LoopRule (X : Cx) (tgt : Expr) (ifs : List Expr) (elt : Expr) (u : Value) (D : Addr) (c : Code) : Prop :=
  ∀ (R : Result → Shared → Prop) (I : Nat → Shared → Prop), (∀ k s, I k s → wpAny (model X.S.P X.S.w) X.A (pyNext u) (fun r s₁ => match r with
      | none => R (.ok .next) s₁
      | some v => wpAny (model X.S.P X.S.w) X.A (letOwnedTupleGo tgt u v) (fun _ s₁' => wpAny (model X.S.P X.S.w) X.A (assign tgt X.env v) (fun _ s₂ => wpAny (model X.S.P X.S.w) X.A (testsOf ifs X.env) (fun ok s₃ =>
            if ok = true then wpAny (model X.S.P X.S.w) X.A (eval elt X.env) (fun x s₄ =>
              wpAny (model X.S.P X.S.w) X.A (call (.builtin "list.append") [.ref D, x]) (fun _ s₅ => ∃ m, m < k ∧ I m s₅) (notedBy (model X.S.P X.S.w) X.A X.env fun e s' => R (.error e) s') s₄) (notedBy (model X.S.P X.S.w) X.A X.env fun e s' => R (.error e) s') s₃
            else ∃ m, m < k ∧ I m s₃) (notedBy (model X.S.P X.S.w) X.A X.env fun e s' => R (.error e) s') s₂) (notedBy (model X.S.P X.S.w) X.A X.env fun e s' => R (.error e) s') s₁') (notedBy (model X.S.P X.S.w) X.A X.env fun e s' => R (.error e) s') s₁) (notedBy (model X.S.P X.S.w) X.A X.env fun e s' => R (.error e) s') s) →
    ∀ (k : Nat) (s : Shared), I k s → codeAny (model X.S.P X.S.w) X.A c R s
section
variable {X : Cx} {G G1 G0 : Gh} {σ : St} {hs hs1 hs0 : Hs} {s s1 s0 : Shared} {Z : Addr → Prop} {R : RI} {tgt : Expr} {fp : Addr → Prop} {gp : Nat → Prop}
theorem lc_loop {ifs : List Expr} {elt : Expr} {u : Value} {L : Addr} {c : Code} {ds xs : List D} {us : List Value} {ok : Hs → Prop} {P : Nat → (Addr → Prop) → (Nat → Prop) → Gh → Shared → Prop} {g : SG} {t : ST} {el : SE} {r0 : Res (List D × St)} {Rr : Result → Shared → Prop}
    (rule : LoopRule X tgt ifs elt u L c) (hg : PGr R X tgt g) (ht : PTs X ifs t) (he : PE X elt el) (W : Wk R X.S X.A tgt u ds ok P) (I : Inv X G1 σ hs1 s1) (p0 : P 0 fp gp G1 s1) (a0 : Apt fp gp G1 s1) (nfr : ∀ a, fp a → ¬ X.fr a) (nf : ∀ a, fp a → s0.heap.get? a = none) (ng : ∀ g, gp g → s0.gens[g]? = none)
    (aL : Apt (· = L) noG G1 s1) (nL : ¬ X.fr L) (fL : ¬ fp L) (zL : ∀ o, s0.heap.get? L = some o → Z L) (hl : s1.heap.PlainList L us.toArray) (hr : VRs X.S G1 s1.heap xs us) (hk : ok hs1) (e0 : Ev X.S Z G0 hs0 s0 G1 hs1 s1) (hz : ∀ c o, s0.heap.get? c = some o → X.own c → Z c)
    (hr0 : lcGo ok g t el ds xs σ hs1 = r0) (hx : ∀ x h, r0 ≠ .exc x h) (hb : r0 ≠ .bad) (hsz : xs.length + ds.length ≤ sizeLine)
    (done : ∀ xs' σ' hs' G' s' us', r0 = .ok (xs', σ') hs' → Inv X G' σ' hs' s' → Ev X.S Z G0 hs0 s0 G' hs' s' → Apt (· = L) noG G' s' → s'.heap.PlainList L us'.toArray → VRs X.S G' s'.heap xs' us' → Rr (.ok .next) s') :
    codeAny (model X.S.P X.S.w) X.A c Rr s1 := by
  have nLo : ∀ a, a = L → ¬ X.own a := fun a x y => nL (I.ok.ownf L (x ▸ y))
  have hzf : ∀ c o, s0.heap.get? c = some o → c = L → Z c := fun c o x y => by subst y; exact zL o x
  refine rule Rr (fun n s' => ∃ i fp gp G' σ' hs' xs' us', i ≤ ds.length ∧ n = ds.length + 1 - i ∧ (∀ a, fp a → ¬ X.fr a) ∧ (∀ a, fp a → s0.heap.get? a = none) ∧ (∀ g, gp g → s0.gens[g]? = none) ∧ ¬ fp L ∧ P i fp gp G' s' ∧ Apt fp gp G' s' ∧ Apt (· = L) noG G' s' ∧ Inv X G' σ' hs' s' ∧ ok hs' ∧ Ev X.S Z G0 hs0 s0 G' hs' s' ∧ s'.heap.PlainList L us'.toArray ∧ VRs X.S G' s'.heap xs' us' ∧ xs'.length ≤ xs.length + i ∧ lcGo ok g t el (ds.drop i) xs' σ' hs' = r0) ?_ (ds.length + 1) s1
    ⟨0, fp, gp, G1, σ, hs1, xs, us, Nat.zero_le _, rfl, nfr, nf, ng, fL, p0, a0, aL, I, hk, e0, hl, hr, Nat.le_refl _, hr0⟩
  clear fL nfr nf ng p0 a0 I aL hl hr hk e0
  rintro n s' ⟨i, fp, gp, G', σ', hs', xs', us', hi, rfl, nfr, nf, ng, fL, p, a, aL, I', hk, ev, hl, hr, hlen, hgo⟩
  have nf' : ∀ a o, s0.heap.get? a = some o → fp a → Z a := fun a o x y => by rw [nf a y] at x; cases x
  have lv' : ∀ {s'' : Shared}, ∀ a o, s0.heap.get? a = some o → fp a → ∃ o', s''.heap.get? a = some o' := fun {_} a o x y => by rw [nf a y] at x; cases x
  have nLf : ∀ b, b = L → ¬ fp b := fun b x y => fL (x ▸ y)
  cases hd : ds[i]? with
  | none =>
    have hin : i = ds.length := by rw [List.getElem?_eq_none_iff] at hd; omega
    subst hin
    refine wpAny_mono (W.stop fp gp G' hs' s' (fun s2 => Rr (.ok .next) s2) _ p a I'.bas hk fun G2 s2 t2 => ?_) (fun r s₁ h₁ => ?_) fun _ _ e => e
    · rw [List.drop_length] at hgo
      refine done xs' σ' hs' G2 s2 us' hgo.symm (I'.it t2 nfr a.im) (ev.it t2 nf' lv' ng (fun a x _ => .inr (nf a x))) (aL.other (X := X) t2 nLf fun g x => x.elim) (hl.at fun o x => t2.keep _ o fL x) (VRs.mono (t2.grow a.im) _ _ hr)
    · obtain ⟨rfl, q⟩ := h₁
      exact q
  | some d =>
    have hlt : i < ds.length := (List.getElem?_eq_some_iff.mp hd).1
    rw [drop_cons hd] at hgo
    unfold lcGo at hgo
    refine wpAny_mono (W.item i fp gp d G' hs' s' (fun v s2 => wpAny (model X.S.P X.S.w) X.A (assign tgt X.env v) (fun _ s₂ => wpAny (model X.S.P X.S.w) X.A (testsOf ifs X.env) (fun ok' s₃ =>
            if ok' = true then wpAny (model X.S.P X.S.w) X.A (eval elt X.env) (fun x s₄ =>
              wpAny (model X.S.P X.S.w) X.A (call (.builtin "list.append") [.ref L, x]) (fun _ s₅ => ∃ m, m < ds.length + 1 - i ∧ ∃ i fp gp G' σ' hs' xs' us', i ≤ ds.length ∧ m = ds.length + 1 - i ∧ (∀ a, fp a → ¬ X.fr a) ∧ (∀ a, fp a → s0.heap.get? a = none) ∧ (∀ g, gp g → s0.gens[g]? = none) ∧ ¬ fp L ∧ P i fp gp G' s₅ ∧ Apt fp gp G' s₅ ∧ Apt (· = L) noG G' s₅ ∧ Inv X G' σ' hs' s₅ ∧ ok hs' ∧ Ev X.S Z G0 hs0 s0 G' hs' s₅ ∧ s₅.heap.PlainList L us'.toArray ∧ VRs X.S G' s₅.heap xs' us' ∧ xs'.length ≤ xs.length + i ∧ lcGo ok g t el (ds.drop i) xs' σ' hs' = r0) (notedBy (model X.S.P X.S.w) X.A X.env fun e s' => Rr (.error e) s') s₄) (notedBy (model X.S.P X.S.w) X.A X.env fun e s' => Rr (.error e) s') s₃
            else ∃ m, m < ds.length + 1 - i ∧ ∃ i fp gp G' σ' hs' xs' us', i ≤ ds.length ∧ m = ds.length + 1 - i ∧ (∀ a, fp a → ¬ X.fr a) ∧ (∀ a, fp a → s0.heap.get? a = none) ∧ (∀ g, gp g → s0.gens[g]? = none) ∧ ¬ fp L ∧ P i fp gp G' s₃ ∧ Apt fp gp G' s₃ ∧ Apt (· = L) noG G' s₃ ∧ Inv X G' σ' hs' s₃ ∧ ok hs' ∧ Ev X.S Z G0 hs0 s0 G' hs' s₃ ∧ s₃.heap.PlainList L us'.toArray ∧ VRs X.S G' s₃.heap xs' us' ∧ xs'.length ≤ xs.length + i ∧ lcGo ok g t el (ds.drop i) xs' σ' hs' = r0) (notedBy (model X.S.P X.S.w) X.A X.env fun e s' => Rr (.error e) s') s₂) (notedBy (model X.S.P X.S.w) X.A X.env fun e s' => Rr (.error e) s') s2) _ hd p a I'.bas hk fun v fp2 gp2 G2 s2 t2 a2 n1 n2 rv p2 => ?_) (fun r s₁ h₁ => ?_) fun _ _ e => e
    · have nf2 : ∀ a, fp2 a → s0.heap.get? a = none := fun a x => (n1 a x).elim (nf a) fun z => ev.stp.dead z
      have ng2 : ∀ g, gp2 g → s0.gens[g]? = none := fun g x => (n2 g x).elim (ng g) fun z => ev.stp.deadG z
      have nfr2 : ∀ a, fp2 a → ¬ X.fr a := fun a x => (n1 a x).elim (nfr a) fun z y => by
        obtain ⟨o, q⟩ := I'.fr.lt y
        rw [z] at q; cases q
      have fL2 : ¬ fp2 L := fun x => (n1 L x).elim fL fun z => by
        obtain ⟨o, q⟩ := aL.live L rfl
        rw [z] at q; cases q
      have nown : ∀ a, fp2 a → ¬ X.own a := fun a x y => nfr2 a x (I'.ok.ownf a y)
      have nfL : ∀ b, fp2 b → ¬ b = L := fun b x y => fL2 (y ▸ x)
      have I2 := I'.it t2 nfr a.im
      have ev2 := ev.it t2 nf' lv' ng (fun a x _ => .inr (nf a x))
      have aL2 := aL.other (X := X) t2 nLf fun g x => x.elim
      have hl2 : s2.heap.PlainList L us'.toArray := hl.at fun o x => t2.keep _ o fL x
      have hr2 := VRs.mono (t2.grow a.im) _ _ hr
      have nx := hx
      have nb := hb
      rw [← hgo] at nx nb
      refine (hg.run G2 σ' hs' s2 d v I2 rv).go (bind_nx nx) (bind_nb nb) fun σ1 h1 _ s3 G3 eg e3 f3 => ?_
      rw [eg] at nx nb hgo
      simp only [Res.bind_ok] at nx nb hgo
      have I3 := I2.stepS e3 f3
      refine (ht.run G3 σ1 h1 s3 I3).go (bind_nx nx) (bind_nb nb) fun b h2 b' s4 G4 eb e4 q4 => ?_
      subst q4
      rw [eb] at nx nb hgo
      simp only [Res.bind_ok] at nx nb hgo
      have I4 := I3.step e4
      have ev4 := (ev2.trans e3 (fun _ _ _ z => z) (Z2 := Z) hz).trans e4 (Z2 := Z) (fun _ _ _ z => z) fun _ _ _ z => z.elim
      have a3 := a2.ev nown e3
      have a4 := a3.ev (fun _ _ z => z) e4
      have aL3 := aL2.ev nLo e3
      have aL4 := aL3.ev (fun _ _ z => z) e4
      have p3 : P (i + 1) fp2 gp2 G3 s3 := W.ev (Y := X) p2 a2 nown e3 (I2.growS e3)
      have p4 : P (i + 1) fp2 gp2 G4 s4 := W.ev (Y := X) p3 a3 (fun _ _ z => z) e4 (I3.grow e4)
      have hl4 : s4.heap.PlainList L us'.toArray := (hl2.at fun o x => aL2.keep nLo e3 L o rfl x).at fun o x => aL3.keep (fun _ _ z => z) e4 L o rfl x
      have hr4 := VRs.mono (I3.grow e4) _ _ (VRs.mono (I2.growS e3) _ _ hr2)
      cases b' with
      | false =>
        simp only [Bool.false_eq_true, if_false] at nx nb hgo ⊢
        have hk2 : ok h2 := chk_nb nb
        rw [chk_pos hk2] at hgo
        exact ⟨ds.length + 1 - (i + 1), by omega, i + 1, fp2, gp2, G4, σ1, h2, xs', us', hlt, rfl, nfr2, nf2, ng2, fL2, p4, a4, aL4, I4, hk2, ev4, hl4, hr4, by omega, hgo⟩
      | true =>
        simp only [if_true] at nx nb hgo ⊢
        refine (he.run G4 σ1 h2 s4 I4).go (bind_nx nx) (bind_nb nb) fun x h3 xv s5 G5 ex e5 r5 => ?_
        rw [ex] at nx nb hgo
        simp only [Res.bind_ok] at nx nb hgo
        have hk3 : ok h3 := chk_nb nb
        rw [chk_pos hk3] at hgo
        have I5 := I4.step e5
        have ev5 := ev4.trans e5 (Z2 := Z) (fun _ _ _ z => z) fun _ _ _ z => z.elim
        have a5 := a4.ev (fun _ _ z => z) e5
        have aL5 := aL4.ev (fun _ _ z => z) e5
        have p5 : P (i + 1) fp2 gp2 G5 s5 := W.ev (Y := X) p4 a4 (fun _ _ z => z) e5 (I4.grow e5)
        have hl5 : s5.heap.PlainList L us'.toArray := hl4.at fun o x => aL4.keep (fun _ _ z => z) e5 L o rfl x
        have hr5 := VRs.mono (I4.grow e5) _ _ hr4
        have hul := hr5.len
        refine lf (wpAny_list_append_plain (hsz := by rw [List.size_toArray]; omega) hl5 fun h' hl6 sb => ?_)
        have t6 : ItS X.S (· = L) noG G5 h3 s5 G5 { s5 with heap := h' } := ItS.heap (X := X) (t := s5.toks) I5.hinv aL5 (fun b o n x => (sb.2 b n).trans x) (fun a x => by subst x; obtain ⟨n6, q6⟩ := hl5; exact notGen q6 fun _ z => (by cases z))
        have l6 : ∃ o, h'.get? L = some o := by obtain ⟨n6, q6⟩ := hl6; exact ⟨_, q6⟩
        have g6 := t6.grow aL5.im
        have hL6 : s5.heap.PlainList L us'.toArray := hl5
        refine ⟨ds.length + 1 - (i + 1), by omega, i + 1, fp2, gp2, G5, σ1, h3, xs' ++ [x], us' ++ [xv], hlt, rfl, nfr2, nf2, ng2, fL2, W.other (X := X) p5 t6 nfL (fun g _ z => z) aL5.im, a5.other (X := X) t6 nfL (fun g _ z => z), aL5.it (X := X) t6 (fun a x => by subst x; exact l6) (fun g z => z.elim) aL5.im, I5.it t6 (fun b hb => by subst hb; exact nL) aL5.im, hk3, ev5.it t6 hzf (fun a o x y => by subst y; exact l6) (fun g z => z.elim) (fun b x z => absurd z (aL5.im b x)), ?_, (VRs.mono g6 _ _ hr5).append (.one (VR.mono g6 _ _ r5)), ?_, hgo⟩
        · have e : us'.toArray.push xv = (us' ++ [xv]).toArray := by simp
          rw [← e]
          exact hl6
        · rw [List.length_append, List.length_singleton]; omega
    · obtain ⟨v, rfl, q⟩ := h₁
      exact q
end
end Qo
-- QM
set_option maxRecDepth 100000
set_option maxHeartbeats 4000000
/-! QM: list comprehensions, one clause and two. -/
namespace Qo
open PySem PySem.Spec PyProof.Rows

/-- the judgements of a comprehension's inside hold in its block, wherever it stands -/
def InBlk (X : Cx) (scope : Scope) (J : Cx → Prop) : Prop := ∀ (cl : List (Str × Addr)) (C : Addr), J (X.blk scope (compEnvC scope cl C X.env))
/-- how a comprehension's loop runs: ok, what is walked, the list so far -/
abbrev LG := (Hs → Prop) → List D → List D → St → Hs → Res (List D × St)
noncomputable def rawLC (own : List Nat) (m : SI) (raw : LG) : St → Hs → Res (List D) := fun σ hs => (m σ hs).bind fun r h => (raw r.2 r.1 [] (wipe σ own) h).bind fun y h => .ok y.1 h
noncomputable def eLC (b : Bool) (own : List Nat) (m : SI) (raw : LG) : SE := fun σ hs => (rawLC own m raw σ hs).bind fun xs h => mkL b xs h
def LoopRun (X : Cx) (R : RI) (tgt : Expr) (c : Value → Addr → Code) (raw : LG) : Prop :=
  ∀ (G G1 G0 : Gh) (σ : St) (hs1 hs0 : Hs) (s1 s0 : Shared) (Z : Addr → Prop) (fp : Addr → Prop) (gp : Nat → Prop) (u : Value) (L : Addr) (ds xs : List D) (us : List Value) (ok : Hs → Prop) (P : Nat → (Addr → Prop) → (Nat → Prop) → Gh → Shared → Prop) (Rr : Result → Shared → Prop),
    Wk R X.S X.A tgt u ds ok P → Inv X G1 σ hs1 s1 → P 0 fp gp G1 s1 → Apt fp gp G1 s1 → (∀ a, fp a → ¬ X.fr a) → (∀ a, fp a → s0.heap.get? a = none) → (∀ g, gp g → s0.gens[g]? = none) →
    Apt (· = L) noG G1 s1 → ¬ X.fr L → ¬ fp L → (∀ o, s0.heap.get? L = some o → Z L) → s1.heap.PlainList L us.toArray → VRs X.S G1 s1.heap xs us → ok hs1 → Ev X.S Z G0 hs0 s0 G1 hs1 s1 → (∀ c o, s0.heap.get? c = some o → X.own c → Z c) →
    (∀ x h, raw ok ds xs σ hs1 ≠ .exc x h) → raw ok ds xs σ hs1 ≠ .bad →
    (∀ xs' σ' hs' G' s' us', raw ok ds xs σ hs1 = .ok (xs', σ') hs' → Inv X G' σ' hs' s' → Ev X.S Z G0 hs0 s0 G' hs' s' → Apt (· = L) noG G' s' → s'.heap.PlainList L us'.toArray → VRs X.S G' s'.heap xs' us' → Rr (.ok .next) s') →
    codeAny (model X.S.P X.S.w) X.A (c u L) Rr s1
noncomputable def lc1 (g : SG) (t : ST) (el : SE) : LG := fun ok ds xs σ hs => grd (xs.length + ds.length ≤ sizeLine) (lcGo ok g t el ds xs σ hs)
section
variable {X : Cx} {G : Gh} {σ : St} {hs : Hs} {s : Shared} {R : RI} {tgt : Expr}
theorem grd_nb {α : Type} {c : Prop} [Decidable c] {r : Res α} (h : grd c r ≠ .bad) : c := by
  unfold grd at h
  by_cases hc : c
  · exact hc
  · rw [if_neg hc] at h; exact absurd rfl h
/-- what was fresh goes: nobody knew it -/
theorem Ev.drop {G0 : Gh} {hs0 : Hs} {s0 : Shared} {Z : Addr → Prop} {C : Addr} {h' : Heap} {tk : Nat} (e : Ev X.S Z G0 hs0 s0 G hs s) (a : Apt (· = C) noG G s) (nC : s0.heap.get? C = none) (k : ∀ b o, b ≠ C → s.heap.get? b = some o → h'.get? b = some o) (ng : ¬ GenObj s.heap C) : Ev X.S Z G0 hs0 s0 G hs { s with heap := h', toks := tk } ∧ Grow G G s.heap h' := by
  have I := e.inv
  have g : Grow G G s.heap h' := ⟨fun _ x => x, fun b o x y => k b o (fun z => a.im b z x) y, fun _ _ x => x⟩
  have ne : ∀ {b o}, s0.heap.get? b = some o → b ≠ C := fun {b o} x y => by rw [y, nC] at x; cases x
  refine ⟨⟨⟨fun b o x y => k b o (ne y) (e.stp.keep b o x y), fun b o x => let ⟨o', y⟩ := e.stp.live b o x; ⟨o', k b o' (ne x) y⟩, e.stp.os, e.stp.gens, fun x => (e.stp.bare x).but rfl k ng⟩, e.len, e.mu, e.im, e.new, e.fz, e.imn, ⟨I.len, I.inj, fun i p f c x y => (I.cell i p f c x y).mono g (fun o q => k _ o (fun z => (a.mu C rfl i p x).1 z.symm) q) (fun o q => k _ o (fun z => (a.mu C rfl i p x).2 z.symm) q), I.free, I.froz, fun b x => ?_, fun b o x => ?_⟩, e.gl⟩, g⟩
  · obtain ⟨o, y⟩ := I.live b x
    exact ⟨o, g.keep b o x y⟩
  · obtain ⟨h1, h2⟩ := I.base b o x
    exact ⟨g.keep b o h2 h1, h2⟩
theorem Inv.frNone (I : Inv X G σ hs s) {a : Addr} (h : s.heap.get? a = none) : ¬ X.fr a := fun y => by
  obtain ⟨o, z⟩ := I.fr.lt y
  rw [h] at z; cases z
theorem Inv.muNone (I : HInv X.S G hs s.heap) {a : Addr} (h : s.heap.get? a = none) : ∀ (i : Nat) (p : Addr × Addr), G.mu[i]? = some p → a ≠ p.1 ∧ a ≠ p.2 := fun i p x => by
  have hi : i < hs.length := by rw [← I.len]; exact (List.getElem?_eq_some_iff.mp x).1
  obtain ⟨⟨o1, h1⟩, o2, h2⟩ := (I.cell i p (hs[i]).1 (hs[i]).2 x (by rw [List.getElem?_eq_getElem hi])).ex
  exact ⟨fun z => (by rw [← z, h] at h1; cases h1), fun z => (by rw [← z, h] at h2; cases h2)⟩
theorem Inv.imNone (I : HInv X.S G hs s.heap) {a : Addr} (h : s.heap.get? a = none) : ¬ G.im a := fun z => by
  obtain ⟨o, q⟩ := I.live a z
  rw [h] at q; cases q
/-- the names that a block takes from around have cells -/
def Inv.Cells (X : Cx) (scope : Scope) : Prop := ∀ {G σ hs s}, Inv X G σ hs s → ∀ y ∈ scope.names, y.2 = .free → ∃ c, X.env.cells.lookup y.1 = some c
theorem lc_core {elt iter : Expr} {ifs : List Expr} {gs : List Comprehension} {scope : Scope} {own : List Nat} {pos pos' : Pos} {m : SI} {raw : LG} {use : Option (Value → Sem Unit)} {Q : Value → Shared → Prop} {E : Value → Shared → Prop}
    (I : Inv X G σ hs s) (hi : PI R X tgt iter m) (ok : Blk X.vars X.env.scope scope own) (hf : ∀ y ∈ scope.names, y.2 = .free → ∃ c, X.env.cells.lookup y.1 = some c)
    (hlp : InBlk X scope fun Y => LoopRun Y R tgt (fun u L => .compLoop (.ListComp elt (⟨tgt, iter, ifs, 0⟩ :: gs) scope pos) 0 u (.ref L) Y.env) raw) (hs' : ∀ x, foldedSetIterable iter X.env x = pure x)
    (hx : ∀ x h, rawLC own m raw σ hs ≠ .exc x h) (hb : rawLC own m raw σ hs ≠ .bad)
    (fin : ∀ (L C : Addr) (xs : List D) (us : List Value) (hs2 : Hs) (G2 : Gh) (s2 : Shared) (mc : Str → Option Value), rawLC own m raw σ hs = .ok xs hs2 → Ev X.S noZ G hs s G2 hs2 s2 → Apt (· = L) noG G2 s2 → Apt (· = C) noG G2 s2 → s.heap.get? L = none → s.heap.get? C = none → L ≠ C → s2.heap.PlainList L us.toArray → VRs X.S G2 s2.heap xs us → s2.heap.Ns C mc →
      compPost (model X.S.P X.S.w) X.A E use Q (.ref L) C (.ok .next) s2) :
    wpAny (model X.S.P X.S.w) X.A (comprehension (.ListComp elt (⟨tgt, iter, ifs, 0⟩ :: gs) scope pos) scope X.env pos' (newList []) false (eval iter X.env) use) Q E s := by
  refine wpAny_comprehension_free (use := use) rfl hs' (L2.closure_ok hf) ok.kind (fun y hy e => by rw [ok.uniq y hy, e])
    (hi.run G σ hs s _ E I (bind_nx hx) (bind_nb hb) fun ds okk hs1 u s1 G1 em e1 hok it => ?_)
  obtain ⟨fp, gp, P, W, p1, a1, nf, ng⟩ := it
  have I1 := I.step e1
  refine lf (wpAny_newObj_type (lf (L2.newEnv_comp ?_)) (by show 0 ≤ sizeLine; decide))
  generalize hL : s1.heap.objs.size = L
  have Ln : s1.heap.get? L = none := by rw [← hL]; exact Heap.get?_none_of_le (Nat.le_refl _)
  -- the new list
  generalize hs2 : ({ s1 with heap := s1.heap.push { cls := .type "list", data := .seq ([] : List Value).toArray } } : Shared) = s2
  have k2 : ∀ b o, s1.heap.get? b = some o → s2.heap.get? b = some o := fun b o e => by rw [← hs2]; exact Heap.get?_push_of_some _ e
  have e2 : Ev X.S noZ G1 hs1 s1 G1 hs1 s2 := by rw [← hs2]; exact Ev.kept (X := X) I1.hinv fun b o e => Heap.get?_push_of_some _ e
  have I2 := I1.step e2
  have l2 : s2.heap.PlainList L #[] := ⟨0, by rw [← hs2, ← hL]; exact Heap.get?_push_size _ rfl⟩
  have aL2 : Apt (· = L) noG G1 s2 := ⟨fun a x => by subst x; obtain ⟨n, q⟩ := l2; exact ⟨_, q⟩, fun a x => by subst x; exact Inv.muNone (X := X) I1.hinv Ln, fun a x => by subst x; exact Inv.imNone (X := X) I1.hinv Ln, fun g x => x.elim⟩
  have a2 := a1.ev (fun _ _ z => z) e2
  have p2 : P 0 fp gp G1 s2 := W.ev (Y := X) p1 a1 (fun _ _ z => z) e2 (I1.grow e2)
  -- the block
  have fLp : ¬ fp L := fun z => by
    obtain ⟨o, q⟩ := a1.live L z
    rw [Ln] at q; cases q
  generalize hce : compEnvC scope (cellsFrom (s2.heap.objs.size + 1) scope.names (L2.cloFrom X.env.cells scope.names [])) s2.heap.objs.size X.env = ce
  generalize hs3 : ({ s2 with heap := pushCells (s2.heap.push { cls := .type "dict", data := .dict #[] }) scope.names } : Shared) = s3
  obtain ⟨I3, e3, fresh⟩ := blk_start I2 ok hf hs3.symm hce.symm
  have I3' := I2.step e3
  have cL : ce.locals = s2.heap.objs.size := by rw [← hce]; rfl
  have hlp' := hlp (cellsFrom (s2.heap.objs.size + 1) scope.names (L2.cloFrom X.env.cells scope.names [])) s2.heap.objs.size
  rw [hce] at hlp'
  have a3 := a2.ev (fun _ _ z => z) e3
  have p3 : P 0 fp gp G1 s3 := W.ev (Y := X) p2 a2 (fun _ _ z => z) e3 (I2.grow e3)
  have aL3 := aL2.ev (fun _ _ z => z) e3
  have l3 : s3.heap.PlainList L ([] : List Value).toArray := l2.at fun o x => aL2.keep (fun _ _ z => z) e3 L o rfl x
  have nC : ∀ {a}, (∃ o, s2.heap.get? a = some o) → a ≠ ce.locals := fun {a} ⟨o, x⟩ y => by
    rw [y, cL, Heap.get?_none_of_le (Nat.le_refl _)] at x; cases x
  have nfr3 : ∀ a, (∃ o, s2.heap.get? a = some o) → ¬ X.fr a → ¬ (X.blk scope ce).fr a := fun a ⟨o, x⟩ nx y => by
    rcases y with y | ⟨z, y⟩
    · exact nC ⟨o, x⟩ y
    · have y : ce.cells.lookup z = some a := y
      rw [← hce] at y
      have y : (cellsFrom (s2.heap.objs.size + 1) scope.names (L2.cloFrom X.env.cells scope.names [])).lookup z = some a := y
      rw [← Heap.size_push s2.heap { cls := .type "dict", data := .dict #[] }] at y
      rcases L2.cells_mem (PySem.mem_of_lookup y) with hm | ⟨_, h2, _⟩
      · rcases L2.cloFrom_mem hm with hm | ⟨h1, rfl⟩
        · cases hm
        · obtain ⟨c, hc⟩ := hf _ h1 rfl
          have hc : X.env.cells.lookup z = some c := hc
          rw [hc] at nx
          exact nx (.inr ⟨z, hc⟩)
      · rw [Heap.size_push] at h2
        exact Nat.lt_irrefl _ (Nat.lt_of_lt_of_le (Heap.lt_size x) (Nat.le_of_succ_le h2))
  have em2 : rawLC own m raw σ hs = (raw okk ds [] (wipe σ own) hs1).bind fun y h => .ok y.1 h := by unfold rawLC; rw [em]; rfl
  rw [em2] at hx hb
  have e03 := (e1.trans e2 (Z2 := noZ) (fun _ _ _ z => z) fun _ _ _ z => z).trans e3 (Z2 := noZ) (fun _ _ _ z => z) fun _ _ _ z => z
  have live2 : ∀ {a o}, s.heap.get? a = some o → ∃ o', s2.heap.get? a = some o' := fun {a o} x => by
    obtain ⟨o1, y⟩ := e1.stp.live a o x
    exact ⟨o1, k2 a o1 y⟩
  have loop : codeAny (model X.S.P X.S.w) X.A (.compLoop (.ListComp elt (⟨tgt, iter, ifs, 0⟩ :: gs) scope pos) 0 u (.ref L) ce) (compPost (model X.S.P X.S.w) X.A E use Q (.ref L) ce.locals) s3 := by
    refine hlp' G G1 G (wipe σ own) hs1 hs s3 s noZ fp gp u L ds [] [] okk P _ W I3 p3 a3 (fun a x y => ?_) nf ng aL3 (fun y => ?_) fLp (fun o x => ?_) l3 .nil hok e03 (fun c o x y => ?_) (bind_nx hx) (bind_nb hb) fun xs' σ' hs'' G' s' us' er I' ev aL hl hr => ?_
    · exact nfr3 a (let ⟨o, z⟩ := a1.live a x; ⟨o, k2 a o z⟩) (I.frNone (nf a x)) y
    · exact nfr3 L (by obtain ⟨n, q⟩ := l2; exact ⟨_, q⟩) (I1.frNone Ln) y
    · obtain ⟨o1, y⟩ := e1.stp.live L o x
      rw [Ln] at y; cases y
    · obtain ⟨o', z⟩ := live2 x
      rw [fresh c y] at z; cases z
    · rw [er] at em2
      obtain ⟨mc, hn, _⟩ := I'.fr.loc
      have hn : s'.heap.Ns ce.locals mc := hn
      have frC : (X.blk scope ce).fr ce.locals := .inl rfl
      have oC : (X.blk scope ce).own ce.locals := .inl rfl
      refine fin L ce.locals xs' us' hs'' G' s' mc em2 ev aL ⟨fun a x => by subst x; exact I'.fr.lt frC, fun a x => by subst x; exact I'.fr.apart _ frC, fun a x => by subst x; exact I'.fr.nim _ oC, fun g x => x.elim⟩ ?_ ?_ (nC (by obtain ⟨n, q⟩ := l2; exact ⟨_, q⟩)) hl hr hn
      · cases q : s.heap.get? L with
        | none => rfl
        | some o =>
          obtain ⟨o1, y⟩ := e1.stp.live L o q
          rw [Ln] at y; cases y
      · cases q : s.heap.get? ce.locals with
        | none => rfl
        | some o =>
          obtain ⟨o', z⟩ := live2 q
          exact absurd rfl (nC ⟨o', z⟩)
  have loop' : codeAny (model X.S.P X.S.w) X.A (.compStart (.ListComp elt (⟨tgt, iter, ifs, 0⟩ :: gs) scope pos) 0 u (.ref L) ce) (compPost (model X.S.P X.S.w) X.A E use Q (.ref L) ce.locals) s3 := codeAny_compStart_list loop (W.self 0 fp gp G1 s3 _ _ p3 loop)
  rw [← hce] at loop'
  exact loop'
/-- as a value -/
theorem pe_lcG (b : Bool) {elt iter : Expr} {ifs : List Expr} {gs : List Comprehension} {scope : Scope} {own : List Nat} {pos : Pos} {m : SI} {raw : LG}
    (hi : PI R X tgt iter m) (ok : Blk X.vars X.env.scope scope own) (hf : Inv.Cells X scope)
    (hlp : InBlk X scope fun Y => LoopRun Y R tgt (fun u L => .compLoop (.ListComp elt (⟨tgt, iter, ifs, 0⟩ :: gs) scope pos) 0 u (.ref L) Y.env) raw) (hs' : ∀ x, foldedSetIterable iter X.env x = pure x) :
    PE X (.ListComp elt (⟨tgt, iter, ifs, 0⟩ :: gs) scope pos) (eLC b own m raw) := by
  refine ⟨fun G σ hs s I Q E O => ?_⟩
  rw [eval_ListComp]
  refine lc_core I hi ok (hf I) hlp hs' (bind_nx O.exc) (bind_nb O.nb) fun L C xs us hs2 G2 s2 mc er ev aL aC nL nC ne hl hr hn => ⟨mc, hn, fun h' sb => ?_⟩
  unfold eLC at O
  rw [er] at O
  obtain ⟨ev3, g3⟩ := ev.drop (h' := h') (tk := s2.toks) aC nC (fun b o n x => (sb.2 b n).trans x) (let ⟨o, es, ep, q, d, _⟩ := hn; notGen q fun _ z => (by rw [d] at z; cases z))
  have kL : ∀ o, s2.heap.get? L = some o → h'.get? L = some o := fun o x => (sb.2 L ne).trans x
  refine Out.adoptL O ev3 ⟨fun a x => by subst x; obtain ⟨o, q⟩ := aL.live a rfl; exact ⟨o, kL o q⟩, aL.mu, aL.im, fun g x => x.elim⟩ nL (hl.at kL) ?_
  simpa using VRs.mono g3 _ _ hr

/-! ### one clause -/
theorem run1 {Y : Cx} {elt iter : Expr} {ifs : List Expr} {scope : Scope} {pos : Pos} {g : SG} {t : ST} {el : SE} (hg : PGr R Y tgt g) (ht : PTs Y ifs t) (he : PE Y elt el) :
    LoopRun Y R tgt (fun u L => .compLoop (.ListComp elt [⟨tgt, iter, ifs, 0⟩] scope pos) 0 u (.ref L) Y.env) (lc1 g t el) := by
  intro G G1 G0 σ hs1 hs0 s1 s0 Z fp gp u L ds xs us ok P Rr W I p0 a0 nfr nf ng aL nL fL zL hl hr hk e0 hz hx hb done
  unfold lc1 at hx hb done
  have hsz := grd_nb hb
  rw [grd_pos hsz] at hx hb done
  exact lc_loop (fun R I turn k s h => compLoop_list_any I turn k h) hg ht he W I p0 a0 nfr nf ng aL nL fL zL hl hr hk e0 hz rfl hx hb hsz done
theorem pe_lc (b : Bool) {elt iter : Expr} {ifs : List Expr} {scope : Scope} {own : List Nat} {pos : Pos} {m : SI} {g : SG} {t : ST} {el : SE}
    (hi : PI R X tgt iter m) (ok : Blk X.vars X.env.scope scope own) (hf : Inv.Cells X scope)
    (hg : InBlk X scope fun Y => PGr R Y tgt g) (ht : InBlk X scope fun Y => PTs Y ifs t) (he : InBlk X scope fun Y => PE Y elt el) (hs' : ∀ x, foldedSetIterable iter X.env x = pure x) :
    PE X (.ListComp elt [⟨tgt, iter, ifs, 0⟩] scope pos) (eLC b own m (lc1 g t el)) :=
  pe_lcG b hi ok hf (fun cl C => run1 (hg cl C) (ht cl C) (he cl C)) hs'
/-- name = [..] where the model stores first -/
noncomputable def sSetLC (b : Bool) (own : List Nat) (m : SI) (raw : LG) (i : Nat) : SS := fun σ hs => (eLC b own m raw σ hs).bind fun d h => .ok (.nx, σ.set i (some d)) h
theorem ps_setLC (b : Bool) {x : Str} {i : Nat} {px spos : Pos} {elt iter : Expr} {ifs : List Expr} {gs : List Comprehension} {scope : Scope} {own : List Nat} {pos : Pos} {m : SI} {raw : LG}
    (hx : X.vars.lookup x = some i) (hxl : X.env.scope.names.lookup x = some .local) (hsw : swapsWith (.ListComp elt (⟨tgt, iter, ifs, 0⟩ :: gs) scope pos) (some (.Name x px)) spos.line X.env = pure true)
    (hi : PI R X tgt iter m) (ok : Blk X.vars X.env.scope scope own) (hf : Inv.Cells X scope)
    (hlp : InBlk X scope fun Y => LoopRun Y R tgt (fun u L => .compLoop (.ListComp elt (⟨tgt, iter, ifs, 0⟩ :: gs) scope pos) 0 u (.ref L) Y.env) raw) (hs' : ∀ x, foldedSetIterable iter X.env x = pure x) :
    PS X (.Assign [.Name x px] (.ListComp elt (⟨tgt, iter, ifs, 0⟩ :: gs) scope pos) spos) (sSetLC b own m raw i) := by
  refine ⟨fun G σ hs s I Q E O => ?_⟩
  rw [exec_Assign_Name_used _ _ _ _ hsw]
  refine wpAny_bind (wpAny_standAt (wpAny_bind ?_))
  show wpAny _ X.A (do let _ ← comprehension (.ListComp elt (⟨tgt, iter, ifs, 0⟩ :: gs) scope pos) scope X.env (firstIterPos (⟨tgt, iter, ifs, 0⟩ :: gs) pos) (newList []) false (eval iter X.env) (some (assign (.Name x px) X.env))) _ _ s
  refine wpAny_bind (wpAny_mono (lc_core (Q := fun _ s' => Q .next s') (E := E) I hi ok (hf I) hlp hs' (bind_nx (bind_nx O.exc)) (bind_nb (bind_nb O.nb)) fun L C xs us hs2 G2 s2 mc er ev aL aC nL nC ne hl hr hn => ?_) (fun _ s' hq => wpAny_pure (wpAny_pure hq)) fun _ _ e => e)
  show wpAny _ _ (assign (.Name x px) X.env (.ref L)) _ _ _
  unfold sSetLC eLC at O
  rw [er] at O
  simp only [Res.bind_ok] at O
  have I2 := I.step ev
  have oC : C ≠ X.env.locals := fun z => I.frNone nC (.inl z)
  -- the list is known before it is stored
  have key : ∀ (d : D) (hs3 : Hs) (G3 : Gh) (ev3 : Ev X.S noZ G hs s G3 hs3 s2), VR X.S G3 s2.heap d (.ref L) → (∀ (i : Nat) (p : Addr × Addr), G3.mu[i]? = some p → C ≠ p.1 ∧ C ≠ p.2) → ¬ G3.im C → Out X X.own (SR X) G hs s (.ok (.nx, σ.set i (some d)) hs3) Q E →
      wpAny (model X.S.P X.S.w) X.A (assign (.Name x px) X.env (.ref L)) (fun _ s'' => ∃ m, s''.heap.Ns C m ∧ ∀ h', Heap.SameBut C s''.heap h' → Q .next { s'' with heap := h' }) E s2 := fun d hs3 G3 ev3 rL muC imC O => by
    have I3 := I.step ev3
    refine assign_Name (store_ok I3 hx (.inl hxl) rL fun s4 e4 f4 => ?_)
    have ao : ∀ a, a = C → ¬ X.own a := fun a y z => I.frNone nC (I.ok.ownf C (y ▸ z))
    have aC3 : Apt (· = C) noG G3 s2 := ⟨aC.live, fun a y => by subst y; exact muC, fun a y => by subst y; exact imC, fun g z => z.elim⟩
    have aC4 := aC3.ev ao e4
    refine ⟨mc, ?_, fun h5 sb => ?_⟩
    · obtain ⟨o, es, ep, q, r⟩ := hn
      exact ⟨o, es, ep, aC3.keep ao e4 C o rfl q, r⟩
    · have ev4 := ev3.trans e4 (Z2 := X.own) (fun _ _ _ z => z.elim) fun _ _ _ z => z
      obtain ⟨ev5, g5⟩ := ev4.drop (h' := h5) (tk := s4.toks) aC4 nC (fun b o n y => (sb.2 b n).trans y) (let ⟨o, es, ep, q, d, _⟩ := hn; notGen (aC3.keep ao e4 C o rfl q) fun _ z => (by rw [d] at z; cases z))
      refine O.ok _ _ rfl _ _ _ ev5 ⟨?_, trivial⟩
      have k5 : ∀ a, X.fr a → ∀ o, s4.heap.get? a = some o → h5.get? a = some o := fun a y o z => (sb.2 a (fun w => I.frNone nC (w ▸ y))).trans z
      refine ⟨?_, fun y c z => ?_, f4.apart, f4.nim⟩
      · obtain ⟨m, ⟨o, es, ep, q1, r⟩, q⟩ := f4.loc
        refine ⟨m, ⟨o, es, ep, k5 _ (.inl rfl) o q1, r⟩, fun y j d' h1 h2 h3 => ?_⟩
        obtain ⟨u, r1, l⟩ := q y j d' h1 h2 h3
        refine ⟨u, VR.mono g5 _ _ r1, ?_⟩
        rcases l with l | ⟨kk, c, h3, o', h4, h5⟩
        · exact .inl l
        · exact .inr ⟨kk, c, h3, o', k5 c (.inr ⟨y, h3⟩) o' h4, h5⟩
      · obtain ⟨v, o, h1, h2⟩ := f4.cell y c z
        exact ⟨v, o, k5 c (.inr ⟨y, z⟩) o h1, h2⟩
  have OO : Out X X.own (SR X) G hs s ((mkL b xs hs2).bind fun d h => .ok (.nx, σ.set i (some d)) h) Q E := O
  unfold mkL at OO
  have hz := grd_nb (bind_nb OO.nb)
  rw [grd_pos hz] at OO
  cases b with
  | true =>
    rw [if_pos rfl] at OO
    refine key (.ref hs2.length) _ _ (ev.adoptC (c := .lst xs) aL nL ⟨rfl, hz, _, hl, by simpa using hr⟩) ?_ (fun i p y => ?_) (aC.im C rfl) OO
    · rw [VR]
      exact ⟨(L, L), by show (G2.mu ++ [(L, L)])[hs2.length]? = _; rw [← ev.inv.len]; simp, rfl⟩
    · have y : (G2.mu ++ [(L, L)])[i]? = some p := y
      by_cases hi : i < G2.mu.length
      · rw [List.getElem?_append_left hi] at y; exact aC.mu C rfl i p y
      · rw [List.getElem?_append_right (Nat.le_of_not_lt hi)] at y
        cases hj : i - G2.mu.length with
        | zero => rw [hj] at y; simp at y; subst y; exact ⟨ne.symm, ne.symm⟩
        | succ n => rw [hj] at y; simp at y
  | false =>
    rw [if_neg Bool.false_ne_true] at OO
    refine key (.lst xs) _ _ (ev.adopt aL nL) ?_ (fun i p y => aC.mu C rfl i p y) (fun z => z.elim (aC.im C rfl) fun z => ne z.symm) OO
    rw [VR]
    exact ⟨L, _, rfl, .inr rfl, hz, hl, by simpa using VRs.add (p := L) (fun _ _ x => x) hr⟩

/-! ### two clauses -/
noncomputable def lc2Go (ok : Hs → Prop) (g1 : SG) (t1 : ST) (m2 : SI) (raw : LG) : List D → List D → St → Hs → Res (List D × St)
  | [], xs, σ, hs => .ok (xs, σ) hs
  | d :: ds, xs, σ, hs => (g1 d σ hs).bind fun σ1 h1 => (t1 σ1 h1).bind fun c h2 => if c = true then (m2 σ1 h2).bind fun r h3 => (raw r.2 r.1 xs σ1 h3).bind fun y h4 => chk (ok h4) (lc2Go ok g1 t1 m2 raw ds y.1 y.2 h4) else chk (ok h2) (lc2Go ok g1 t1 m2 raw ds xs σ1 h2)
noncomputable def lc2 (g1 : SG) (t1 : ST) (m2 : SI) (raw : LG) : LG := fun ok ds xs σ hs => lc2Go ok g1 t1 m2 raw ds xs σ hs
theorem loop2_in {Y : Cx} {elt it1 it2 tgt1 tgt2 : Expr} {ifs1 ifs2 : List Expr} {scope : Scope} {pos : Pos} {u : Value} {L : Addr} : LoopRule Y tgt2 ifs2 elt u L (.compLoop (.ListComp elt [⟨tgt1, it1, ifs1, 0⟩, ⟨tgt2, it2, ifs2, 0⟩] scope pos) 1 u (.ref L) Y.env) := by
  intro R I turn k s h
  refine codeAny_loop rfl I (fun k s hI => ?_) k h
  show wpAny _ Y.A ((compTurn (.ListComp elt [⟨tgt1, it1, ifs1, 0⟩, ⟨tgt2, it2, ifs2, 0⟩] scope pos) 1 u (.ref L) Y.env).onRaise (fun x => do noteFrame x Y.env; theTreesLotGoes x)) _ _ s
  refine wpAny_noted ?_
  rw [compTurn_list2_in]
  refine wpAny_bind (wpAny_standAt (wpAny_bind (wpAny_mono (turn k s hI) (fun r s₁ h₁ => ?_) fun _ _ h' => h')))
  cases r with
  | none => exact wpAny_pure h₁
  | some v =>
    refine wpAny_bind (wpAny_mono h₁ (fun _ s₁' h₁' => ?_) fun _ _ h' => h')
    refine wpAny_bind (wpAny_mono h₁' (fun _ s₂ h₂ => wpAny_bind (wpAny_mono h₂ (fun ok s₃ h₃ => ?_) fun _ _ h' => h')) fun _ _ h' => h')
    cases ok with
    | false => exact wpAny_pure ⟨rfl, h₃⟩
    | true =>
      exact wpAny_bind (wpAny_bind (wpAny_mono h₃ (fun x s₄ h₄ => wpAny_bind (wpAny_mono h₄ (fun _ s₅ h₅ => wpAny_pure (wpAny_pure ⟨rfl, h₅⟩)) fun _ _ h' => h')) fun _ _ h' => h'))
theorem run2in {Y : Cx} {elt it1 it2 tgt1 : Expr} {ifs1 ifs : List Expr} {scope : Scope} {pos : Pos} {g : SG} {t : ST} {el : SE} (hg : PGr R Y tgt g) (ht : PTs Y ifs t) (he : PE Y elt el) :
    LoopRun Y R tgt (fun u L => .compLoop (.ListComp elt [⟨tgt1, it1, ifs1, 0⟩, ⟨tgt, it2, ifs, 0⟩] scope pos) 1 u (.ref L) Y.env) (lc1 g t el) := by
  intro G G1 G0 σ hs1 hs0 s1 s0 Z fp gp u L ds xs us ok P Rr W I p0 a0 nfr nf ng aL nL fL zL hl hr hk e0 hz hx hb done
  unfold lc1 at hx hb done
  have hsz := grd_nb hb
  rw [grd_pos hsz] at hx hb done
  exact lc_loop loop2_in hg ht he W I p0 a0 nfr nf ng aL nL fL zL hl hr hk e0 hz rfl hx hb hsz done
theorem run2 {Y : Cx} {R2 : RI} {elt it1 it2 tgt2 : Expr} {ifs1 ifs2 : List Expr} {scope : Scope} {pos : Pos} {g : SG} {t : ST} {m2 : SI} {raw : LG} (hg : PGr R Y tgt g) (ht : PTs Y ifs1 t) (hi : PI R2 Y tgt2 it2 m2)
    (hin : LoopRun Y R2 tgt2 (fun u L => .compLoop (.ListComp elt [⟨tgt, it1, ifs1, 0⟩, ⟨tgt2, it2, ifs2, 0⟩] scope pos) 1 u (.ref L) Y.env) raw) (hfold : ∀ x, foldedSetIterable it2 Y.env x = pure x) :
    LoopRun Y R tgt (fun u L => .compLoop (.ListComp elt [⟨tgt, it1, ifs1, 0⟩, ⟨tgt2, it2, ifs2, 0⟩] scope pos) 0 u (.ref L) Y.env) (lc2 g t m2 raw) := by
  intro G G1 G0 σ hs1 hs0 s1 s0 Z fp gp u L ds xs us ok P Rr W I p0 a0 nfr nf ng aL nL fL zL hl hr hk e0 hz hx hb done
  unfold lc2 at hx hb done
  generalize hr0 : lc2Go ok g t m2 raw ds xs σ hs1 = r0 at hx hb done
  have nLo : ∀ a, a = L → ¬ Y.own a := fun a x y => nL (I.ok.ownf L (x ▸ y))
  have hzf : ∀ c o, s0.heap.get? c = some o → c = L → Z c := fun c o x y => by subst y; exact zL o x
  refine codeAny_loop rfl (fun n s' => ∃ i fp gp G' σ' hs' xs' us', i ≤ ds.length ∧ n = ds.length + 1 - i ∧ (∀ a, fp a → ¬ Y.fr a) ∧ (∀ a, fp a → s0.heap.get? a = none) ∧ (∀ g, gp g → s0.gens[g]? = none) ∧ ¬ fp L ∧ P i fp gp G' s' ∧ Apt fp gp G' s' ∧ Apt (· = L) noG G' s' ∧ Inv Y G' σ' hs' s' ∧ ok hs' ∧ Ev Y.S Z G0 hs0 s0 G' hs' s' ∧ s'.heap.PlainList L us'.toArray ∧ VRs Y.S G' s'.heap xs' us' ∧ lc2Go ok g t m2 raw (ds.drop i) xs' σ' hs' = r0) ?_ (ds.length + 1)
    ⟨0, fp, gp, G1, σ, hs1, xs, us, Nat.zero_le _, rfl, nfr, nf, ng, fL, p0, a0, aL, I, hk, e0, hl, hr, hr0⟩
  clear fL nfr nf ng p0 a0 I aL hl hr hk e0
  rintro n s' ⟨i, fp, gp, G', σ', hs', xs', us', hi', rfl, nfr, nf, ng, fL, p, a, aL, I', hk, ev, hl, hr, hgo⟩
  show wpAny _ Y.A ((compTurn (.ListComp elt [⟨tgt, it1, ifs1, 0⟩, ⟨tgt2, it2, ifs2, 0⟩] scope pos) 0 u (.ref L) Y.env).onRaise (fun x => do noteFrame x Y.env; theTreesLotGoes x)) _ _ s'
  refine wpAny_noted ?_
  rw [compTurn_list2_out]
  refine wpAny_bind (wpAny_standAt ?_)
  have nf' : ∀ a o, s0.heap.get? a = some o → fp a → Z a := fun a o x y => by rw [nf a y] at x; cases x
  have lv' : ∀ {s'' : Shared}, ∀ a o, s0.heap.get? a = some o → fp a → ∃ o', s''.heap.get? a = some o' := fun {_} a o x y => by rw [nf a y] at x; cases x
  have nLf : ∀ b, b = L → ¬ fp b := fun b x y => fL (x ▸ y)
  cases hd : ds[i]? with
  | none =>
    have hin : i = ds.length := by rw [List.getElem?_eq_none_iff] at hd; omega
    subst hin
    refine wpAny_bind (wpAny_mono (W.stop fp gp G' hs' s' (fun s2 => Rr (.ok .next) s2) _ p a I'.bas hk fun G2 s2 t2 => ?_) (fun r s₁ h₁ => ?_) fun _ _ e => e)
    · rw [List.drop_length] at hgo
      refine done xs' σ' hs' G2 s2 us' hgo.symm (I'.it t2 nfr a.im) (ev.it t2 nf' lv' ng (fun a x _ => .inr (nf a x))) (aL.other (X := Y) t2 nLf fun g x => x.elim) (hl.at fun o x => t2.keep _ o fL x) (VRs.mono (t2.grow a.im) _ _ hr)
    · obtain ⟨rfl, q⟩ := h₁
      exact wpAny_pure q
  | some d =>
    have hlt : i < ds.length := (List.getElem?_eq_some_iff.mp hd).1
    rw [drop_cons hd] at hgo
    unfold lc2Go at hgo
    refine wpAny_bind (wpAny_mono (W.item i fp gp d G' hs' s' (fun v s2 => ∃ fp2 gp2 G2, (∀ a, fp2 a → ¬ Y.fr a) ∧ (∀ a, fp2 a → s0.heap.get? a = none) ∧ (∀ g, gp2 g → s0.gens[g]? = none) ∧ ¬ fp2 L ∧ Inv Y G2 σ' hs' s2 ∧ Ev Y.S Z G0 hs0 s0 G2 hs' s2 ∧ Apt (· = L) noG G2 s2 ∧ s2.heap.PlainList L us'.toArray ∧ VRs Y.S G2 s2.heap xs' us' ∧ Apt fp2 gp2 G2 s2 ∧ R Y.S G2 s2.heap d v ∧ P (i + 1) fp2 gp2 G2 s2) _ hd p a I'.bas hk fun v fp2 gp2 G2 s2 t2 a2 n1 n2 rv p2 =>
      ⟨fp2, gp2, G2, fun a x => (n1 a x).elim (nfr a) fun z => I'.frNone z, fun a x => (n1 a x).elim (nf a) fun z => ev.stp.dead z, fun g x => (n2 g x).elim (ng g) fun z => ev.stp.deadG z, fun x => (n1 L x).elim fL fun z => (by obtain ⟨o, q⟩ := aL.live L rfl; rw [z] at q; cases q), I'.it t2 nfr a.im, ev.it t2 nf' lv' ng (fun a x _ => .inr (nf a x)), aL.other (X := Y) t2 nLf fun g x => x.elim, hl.at fun o x => t2.keep _ o fL x, VRs.mono (t2.grow a.im) _ _ hr, a2, rv, p2⟩) (fun r s₁ h₁ => ?_) fun _ _ e => e)
    obtain ⟨v, rfl, q⟩ := h₁
    refine wpAny_bind (wpAny_mono q (fun _ s2 ⟨fp2, gp2, G2, nfr2, nf2, ng2, fL2, I2, ev2, aL2, hl2, hr2, a2, rv, p2⟩ => ?_) fun _ _ h' => h')
    have nown : ∀ a, fp2 a → ¬ Y.own a := fun a x y => nfr2 a x (I'.ok.ownf a y)
    have nfL : ∀ b, fp2 b → ¬ b = L := fun b x y => fL2 (y ▸ x)
    have nx := hx
    have nb := hb
    rw [← hgo] at nx nb
    refine wpAny_bind ((hg.run G2 σ' hs' s2 d v I2 rv).go (bind_nx nx) (bind_nb nb) fun σ1 h1 _ s3 G3 eg e3 f3 => ?_)
    rw [eg] at nx nb hgo
    simp only [Res.bind_ok] at nx nb hgo
    have I3 := I2.stepS e3 f3
    refine wpAny_bind ((ht.run G3 σ1 h1 s3 I3).go (bind_nx nx) (bind_nb nb) fun b h2 b' s4 G4 eb e4 q4 => ?_)
    subst q4
    rw [eb] at nx nb hgo
    simp only [Res.bind_ok] at nx nb hgo
    have I4 := I3.step e4
    have ev4 := (ev2.trans e3 (fun _ _ _ z => z) (Z2 := Z) hz).trans e4 (Z2 := Z) (fun _ _ _ z => z) fun _ _ _ z => z.elim
    have a3 := a2.ev nown e3
    have a4 := a3.ev (fun _ _ z => z) e4
    have aL3 := aL2.ev nLo e3
    have aL4 := aL3.ev (fun _ _ z => z) e4
    have p3 : P (i + 1) fp2 gp2 G3 s3 := W.ev (Y := Y) p2 a2 nown e3 (I2.growS e3)
    have p4 : P (i + 1) fp2 gp2 G4 s4 := W.ev (Y := Y) p3 a3 (fun _ _ z => z) e4 (I3.grow e4)
    have hl4 : s4.heap.PlainList L us'.toArray := (hl2.at fun o x => aL2.keep nLo e3 L o rfl x).at fun o x => aL3.keep (fun _ _ z => z) e4 L o rfl x
    have hr4 := VRs.mono (I3.grow e4) _ _ (VRs.mono (I2.growS e3) _ _ hr2)
    cases b' with
    | false =>
      simp only [Bool.false_eq_true, if_false] at nx nb hgo ⊢
      have hk2 : ok h2 := chk_nb nb
      rw [chk_pos hk2] at hgo
      exact wpAny_pure ⟨rfl, ds.length + 1 - (i + 1), by omega, i + 1, fp2, gp2, G4, σ1, h2, xs', us', hlt, rfl, nfr2, nf2, ng2, fL2, p4, a4, aL4, I4, hk2, ev4, hl4, hr4, hgo⟩
    | true =>
      simp only [if_true] at nx nb hgo ⊢
      refine wpAny_bind (wpAny_mono (hi.run G4 σ1 h2 s4 (fun it s5 => ∃ ds2 ok2 h3 G5, m2 σ1 h2 = .ok (ds2, ok2) h3 ∧ Ev Y.S noZ G4 h2 s4 G5 h3 s5 ∧ ok2 h3 ∧ Iter R2 Y.S Y.A tgt2 s4 ds2 ok2 it G5 s5) _ I4 (bind_nx nx) (bind_nb nb) fun ds2 ok2 h3 u2 s5 G5 em e5 hok2 it2' => ⟨ds2, ok2, h3, G5, em, e5, hok2, it2'⟩) (fun xv s₄ h₄ => ?_) fun _ _ h' => h')
      refine wpAny_bind (wpAny_standAt (wpAny_bind (wpAny_of_eq (hfold xv) (wpAny_bind (wpAny_holding (wpAny_mono h₄ (fun it s5 h₅ => ?_) fun _ _ h' => h'))))))
      obtain ⟨ds2, ok2, h3, G5, em, e5, hok2, fq, gq, P2, W2, q2, b2, nfq, ngq⟩ := h₅
      rw [em] at nx nb hgo
      simp only [Res.bind_ok] at nx nb hgo
      have I5 := I4.step e5
      have live4 : ∀ {a}, s4.heap.get? a = none → ¬ Y.fr a := fun {a} x => I4.frNone x
      have L4 : ∃ o, s4.heap.get? L = some o := by obtain ⟨n, q⟩ := hl4; exact ⟨_, q⟩
      have a5 := a4.ev (fun _ _ z => z) e5
      have aL5 := aL4.ev (fun _ _ z => z) e5
      have hl5 : s5.heap.PlainList L us'.toArray := hl4.at fun o x => aL4.keep (fun _ _ z => z) e5 L o rfl x
      have hr5 := VRs.mono (I4.grow e5) _ _ hr4
      refine wpAny_bind (wpAny_runOwn ?_)
      have loop : codeAny (model Y.S.P Y.S.w) Y.A (.compLoop (.ListComp elt [⟨tgt, it1, ifs1, 0⟩, ⟨tgt2, it2, ifs2, 0⟩] scope pos) 1 it (.ref L) Y.env)
          (fun r s' => match r with
            | .ok f => wpAny (model Y.S.P Y.S.w) Y.A (again (.compLoop (.ListComp elt [⟨tgt, it1, ifs1, 0⟩, ⟨tgt2, it2, ifs2, 0⟩] scope pos) 0 u (.ref L) Y.env)) (fun fin s' => match fin with
                | .done f => Rr (.ok f) s'
                | .again c' => c' = .compLoop (.ListComp elt [⟨tgt, it1, ifs1, 0⟩, ⟨tgt2, it2, ifs2, 0⟩] scope pos) 0 u (.ref L) Y.env ∧ ∃ m, m < ds.length + 1 - i ∧ ∃ i fp gp G' σ' hs' xs' us', i ≤ ds.length ∧ m = ds.length + 1 - i ∧ (∀ a, fp a → ¬ Y.fr a) ∧ (∀ a, fp a → s0.heap.get? a = none) ∧ (∀ g, gp g → s0.gens[g]? = none) ∧ ¬ fp L ∧ P i fp gp G' s' ∧ Apt fp gp G' s' ∧ Apt (· = L) noG G' s' ∧ Inv Y G' σ' hs' s' ∧ ok hs' ∧ Ev Y.S Z G0 hs0 s0 G' hs' s' ∧ s'.heap.PlainList L us'.toArray ∧ VRs Y.S G' s'.heap xs' us' ∧ lc2Go ok g t m2 raw (ds.drop i) xs' σ' hs' = r0) (notedBy (model Y.S.P Y.S.w) Y.A Y.env fun e s' => Rr (.error e) s') s'
            | .error e => cameBackBy (model Y.S.P Y.S.w) Y.A Y.env (notedBy (model Y.S.P Y.S.w) Y.A Y.env fun e s' => Rr (.error e) s') e s') s5 := by
        refine hin G4 G5 G4 σ1 h3 h2 s5 s4 (fun a => Y.own a ∨ a = L) fq gq it L ds2 xs' us' ok2 P2 _ W2 I5 q2 b2 (fun a x y => live4 (nfq a x) y) nfq ngq aL5 nL (fun z => by obtain ⟨o, x⟩ := L4; rw [nfq L z] at x; cases x) (fun o _ => .inr rfl) hl5 hr5 hok2 (e5.weak fun _ _ _ z => z.elim) (fun _ _ _ z => .inl z) (bind_nx nx) (bind_nb nb) fun xs6 σ6 h6 G6 s6 us6 er I6 e6 aL6 hl6 hr6 => ?_
        rw [er] at nx nb hgo
        simp only [Res.bind_ok] at nx nb hgo
        have hk6 : ok h6 := chk_nb nb
        rw [chk_pos hk6] at hgo
        have nz : ∀ a, fp2 a → ¬ (Y.own a ∨ a = L) := fun a x y => y.elim (nown a x) (nfL a x)
        have a6 := a4.ev nz e6
        have ni : ∀ a, (Y.own a ∨ a = L) → ¬ G4.im a := fun a x => x.elim (fun x => I4.fr.nim a x) fun x => by subst x; exact aL4.im a rfl
        have g6 : Grow G4 G6 s4.heap s6.heap := e6.grow I4.hinv ni
        have p6 : P (i + 1) fp2 gp2 G6 s6 := W.ev (Y := Y) p4 a4 nz e6 g6
        exact wpAny_pure ⟨rfl, ds.length + 1 - (i + 1), by omega, i + 1, fp2, gp2, G6, σ6, h6, xs6, us6, hlt, rfl, nfr2, nf2, ng2, fL2, p6, a6, aL6, I6, hk6, ev4.trans e6 (Z2 := Z) (fun _ _ _ z => z) (fun c o x z => z.elim (hz c o x) (hzf c o x)), hl6, hr6, hgo⟩
      exact compStart_list2_in loop (W2.self 0 _ _ _ _ _ _ q2 loop)
end
end Qo
-- QN
set_option maxRecDepth 100000
set_option maxHeartbeats 4000000
/-! QN: what is walked: lists, tuples, texts, ranges, enumerate. -/
namespace Qo
open PySem PySem.Spec PyProof.Rows

section
variable {X : Cx} {G G1 : Gh} {σ : St} {hs hs1 : Hs} {s s1 : Shared} {tgt : Expr} {fp : Addr → Prop}
/-- new objects, an iterator's own -/
theorem iter_new (e : Ev X.S noZ G hs s G1 hs1 s1) {h' : Heap} {t : Nat} (k : ∀ a o, s1.heap.get? a = some o → h'.get? a = some o) (nf : ∀ a, fp a → s1.heap.get? a = none) (lv : ∀ a, fp a → ∃ o, h'.get? a = some o) :
    Ev X.S noZ G hs s G1 hs1 { s1 with heap := h', toks := t } ∧ Apt fp noG G1 { s1 with heap := h', toks := t } ∧ ∀ a, fp a → s.heap.get? a = none :=
  ⟨e.trans (Ev.kept (X := X) (Z := noZ) (t := t) e.inv k) (fun _ _ _ z => z) fun _ _ _ z => z, ⟨lv, fun a x => Inv.muNone (X := X) e.inv (nf a x), fun a x => Inv.imNone (X := X) e.inv (nf a x), fun g z => z.elim⟩, fun a x => e.stp.dead (nf a x)⟩
theorem Iter.mk {ds : List D} {ok : Hs → Prop} {u : Value} {P : Nat → Gh → Shared → Prop} {s2 : Shared} (W : Wk0 VR X.S X.A tgt fp noG u ds ok P) (p : P 0 G1 s2) (a : Apt fp noG G1 s2) (nf : ∀ a, fp a → s.heap.get? a = none) : Iter VR X.S X.A tgt s ds ok u G1 s2 :=
  ⟨fp, noG, _, W.wk, ⟨rfl, rfl, p⟩, a, nf, fun g z => z.elim⟩
/-- one object of an iterator turns -/
theorem ItS.one {S : Stat} {I : Addr} (H : HInv S G hs s.heap) (a : Apt (· = I) noG G s) {h' : Heap} {t : Nat} (ng : ¬ GenObj s.heap I) (k : ∀ b o, b ≠ I → s.heap.get? b = some o → h'.get? b = some o) : ItS S (· = I) noG G hs s G { s with heap := h', toks := t } :=
  ItS.heap (X := Cx0 S) H a (fun b o n x => k b o n x) fun b z => by subst z; exact ng
theorem Apt.one {I : Addr} (a : Apt (· = I) noG G s) {h' : Heap} {t : Nat} {o : Obj} (e : h'.get? I = some o) : Apt (· = I) noG G { s with heap := h', toks := t } := ⟨fun b x => by subst x; exact ⟨o, e⟩, a.mu, a.im, fun g z => z.elim⟩

theorem wk_list {S : Stat} {A : Around} {I l : Addr} {src : D} {xs : List D} : Wk0 VR S A tgt (· = I) noG (.ref I) xs (fun h => asL h src = some xs) (fun i G s => s.heap.IsListIter I l i ∧ VR S G s.heap src (.ref l)) where
  fr := fun i G s G' s' p g k _ => ⟨p.1.at fun o x => k I o rfl x, VR.mono g _ _ p.2⟩
  self := fun i G s Q E p h => lf (wpAny_pyIter_listiter p.1 h)
  item := by
    rintro i d G hs s Q E hd ⟨p, r⟩ a b hk hQ
    obtain ⟨l', its, e, pl, hz, hl, q⟩ := asL_at (X := Cx0 S) b.hinv r hk
    cases e
    obtain ⟨u, hu, ru⟩ := q.get hd
    refine lf (wpAny_pyNext_list_item p pl.isList (x := u) (by simpa using hu) fun h' st' sb => ?_)
    have t := ItS.one (t := s.toks) b.hinv a (h' := h') (let ⟨_, e, c, _⟩ := p; notGenC e c (by decide)) fun b o n x => (sb.2 b n).trans x
    obtain ⟨o, e, c, dd⟩ := id st'
    have g := t.grow (X := Cx0 S) a.im
    exact ⟨u, rfl, lf (L2.go_of (s := { s with heap := h' }) e c dd (by decide) (hQ u G _ t (a.one e) (VR.mono g _ _ ru) ⟨st', VR.mono g _ _ r⟩))⟩
  stop := by
    rintro G hs s Q E ⟨p, r⟩ a b hk hQ
    obtain ⟨l', its, e, pl, hz, hl, q⟩ := asL_at (X := Cx0 S) b.hinv r hk
    cases e
    exact lf (wpAny_pyNext_list_end b.hd p pl.isList (by simp; omega) fun h' eb => ⟨rfl, hQ G _ (ItS.one (t := s.toks) b.hinv a (let ⟨_, e, c, _⟩ := p; notGenC e c (by decide)) fun b o n x => eb b o n x)⟩)
theorem wk_tup {S : Stat} {A : Around} {I l : Addr} {xs : List D} : Wk0 VR S A tgt (· = I) noG (.ref I) xs (fun _ => True) (fun i G s => s.heap.IsTupleIter I l i ∧ VR S G s.heap (.tup xs) (.ref l)) where
  fr := fun i G s G' s' p g k _ => ⟨p.1.at fun o x => k I o rfl x, VR.mono g _ _ p.2⟩
  self := fun i G s Q E p h => lf (wpAny_pyIter_tupleiter p.1 h)
  item := by
    rintro i d G hs s Q E hd ⟨p, r⟩ a b hk hQ
    obtain ⟨l', its, e, pl, hz, hl, q⟩ := tup_at r
    cases e
    obtain ⟨u, hu, ru⟩ := q.get hd
    refine lf (wpAny_pyNext_tuple_item p pl (x := u) (by simpa using hu) fun h' st' sb => ?_)
    have t := ItS.one (t := s.toks) b.hinv a (h' := h') (let ⟨_, e, c, _⟩ := p; notGenC e c (by decide)) fun b o n x => (sb.2 b n).trans x
    obtain ⟨o, e, c, dd⟩ := id st'
    have g := t.grow (X := Cx0 S) a.im
    exact ⟨u, rfl, lf (L2.go_of (s := { s with heap := h' }) e c dd (by decide) (hQ u G _ t (a.one e) (VR.mono g _ _ ru) ⟨st', VR.mono g _ _ r⟩))⟩
  stop := by
    rintro G hs s Q E ⟨p, r⟩ a b hk hQ
    obtain ⟨l', its, e, pl, hz, hl, q⟩ := tup_at r
    cases e
    exact lf (wpAny_pyNext_tuple_end b.hd p pl (by simp; omega) fun h' eb => ⟨rfl, hQ G _ (ItS.one (t := s.toks) b.hinv a (let ⟨_, e, c, _⟩ := p; notGenC e c (by decide)) fun b o n x => eb b o n x)⟩)
theorem ng_str {h : Heap} {I : Addr} {x : Str} {tk : Tok} {i : Nat} (p : h.IsStrIter I (strIterType x) x tk i) : ¬ GenObj h I := by
  obtain ⟨o, e, c, _⟩ := p
  refine notGenC e c ?_
  unfold strIterType
  split <;> decide
def chars (x : Str) : List D := x.cps.toList.map fun c => .str ⟨#[c]⟩
theorem wk_str {S : Stat} {A : Around} {I : Addr} {x : Str} {tk : Tok} : Wk0 VR S A tgt (· = I) noG (.ref I) (chars x) (fun _ => True) (fun i G s => s.heap.IsStrIter I (strIterType x) x tk i) where
  fr := fun i G s G' s' p g k _ => let ⟨o, ho, r⟩ := p; ⟨o, k I o rfl ho, r⟩
  self := fun i G s Q E p h => by
    cases ha : x.cps.all (· < 128)
    · simp only [strIterType, ha, Bool.false_eq_true, if_false] at p
      exact lf (wpAny_pyIter_striter_wide p h)
    · simp only [strIterType, ha, if_true] at p
      exact lf (wpAny_pyIter_striter_ascii p h)
  item := by
    rintro i d G hs s Q E hd p a b hk hQ
    have W := Goes.text (prog := S.P) (w := S.w) (A := A) (target := tgt) b.hd I x tk
    have hi : i < x.cps.size := by
      have := (List.getElem?_eq_some_iff.mp hd).1
      simpa [chars] using this
    refine lf2 (W.goes i s Q E hi p fun v h' t hv st' kk _ => ?_)
    obtain ⟨c, u, hc, rfl⟩ := hv
    have e : d = .str ⟨#[c]⟩ := by
      unfold chars at hd
      rw [List.getElem?_map] at hd
      simp only [Array.getElem?_toList] at hd
      rw [hc] at hd
      simpa using hd.symm
    subst e
    obtain ⟨o, e, _⟩ := id st'
    exact hQ _ G _ (ItS.one (t := t) b.hinv a (ng_str p) fun b o n x => kk b o (by simpa using n) x) (a.one e) vr_str st'
  stop := by
    rintro G hs s Q E p a b hk hQ
    have W := Goes.text (prog := S.P) (w := S.w) (A := A) (target := tgt) b.hd I x tk
    exact lf (W.stops s Q E (by simpa [chars] using p) fun h' t kk _ => hQ G _ (ItS.one (t := t) b.hinv a (ng_str p) fun b o n x => kk b o (by simpa using n) x))
/-- for .. in a list, a tuple, a text -/
def iSeq (m : SE) : SI := fun σ hs => (m σ hs).bind fun d h => match d with
  | .tup xs => .ok (xs, fun _ => True) h
  | .str x => .ok (chars x, fun _ => True) h
  | d => match asL h d with
    | some xs => .ok (xs, fun h' => asL h' d = some xs) h
    | none => .bad
theorem pi_seq {e : Expr} {m : SE} (he : PE X e m) : PI VR X tgt e (iSeq m) := by
  refine ⟨fun G σ hs s Q E I hx hb hQ => (he.run G σ hs s I).go (bind_nx hx) (bind_nb hb) fun d hs1 u s1 G1 em e1 r1 => ?_⟩
  unfold iSeq at hx hb hQ
  rw [em] at hx hb hQ
  simp only [Res.bind_ok] at hx hb hQ
  have H := e1.inv
  have key : ∀ xs, asL hs1 d = some xs → (∀ ds ok hs1' u s1 G1, (Res.ok (xs, fun h' => asL h' d = some xs) hs1 : Res (List D × (Hs → Prop))) = .ok (ds, ok) hs1' → Ev X.S noZ G hs s G1 hs1' s1 → ok hs1' → Iter VR X.S X.A tgt s ds ok u G1 s1 → Q u s1) → wpAny (model X.S.P X.S.w) X.A (pyIter u) Q E s1 := fun xs ea hQ => by
    obtain ⟨l, its, rfl, pl, hz, hl, q⟩ := asL_at (X := X) H r1 ea
    refine lf (wpAny_pyIter_list pl.isList ?_)
    have st : ({ s1 with heap := s1.heap.push { cls := .type "list_iterator", data := .fields #[.ref l, .int 0 0] } } : Shared).heap.IsListIter s1.heap.objs.size l 0 := ⟨_, Heap.get?_push_size _ rfl, rfl, rfl⟩
    obtain ⟨e2, a2, nf⟩ := iter_new (fp := (· = s1.heap.objs.size)) (t := s1.toks) e1 (fun a o x => Heap.get?_push_of_some _ x) (fun a x => by subst x; exact push_new _) (fun a x => by subst x; obtain ⟨o, e, _⟩ := st; exact ⟨o, e⟩)
    exact hQ _ _ _ _ _ _ rfl e2 ea (Iter.mk wk_list ⟨st, VR.mono ⟨fun _ x => x, fun a o _ x => Heap.get?_push_of_some _ x, fun _ _ x => x⟩ _ _ r1⟩ a2 nf)
  cases d with
  | tup xs =>
    obtain ⟨l, its, rfl, pl, hz, hl, q⟩ := tup_at r1
    refine lf (wpAny_pyIter_tuple pl ?_)
    have st : ({ s1 with heap := s1.heap.push { cls := .type "tuple_iterator", data := .fields #[.ref l, .int 0 0] } } : Shared).heap.IsTupleIter s1.heap.objs.size l 0 := ⟨_, Heap.get?_push_size _ rfl, rfl, rfl⟩
    obtain ⟨e2, a2, nf⟩ := iter_new (fp := (· = s1.heap.objs.size)) (t := s1.toks) e1 (fun a o x => Heap.get?_push_of_some _ x) (fun a x => by subst x; exact push_new _) (fun a x => by subst x; obtain ⟨o, e, _⟩ := st; exact ⟨o, e⟩)
    exact hQ _ _ _ _ _ _ rfl e2 trivial (Iter.mk wk_tup ⟨st, VR.mono ⟨fun _ x => x, fun a o _ x => Heap.get?_push_of_some _ x, fun _ _ x => x⟩ _ _ r1⟩ a2 nf)
  | str x =>
    obtain ⟨t, rfl⟩ := str_of r1
    refine lf (wpAny_pyIter_strU ?_)
    have st : ({ s1 with heap := s1.heap.push { cls := .type (strIterType x), data := .fields #[.str x t, .int 0 0] } } : Shared).heap.IsStrIter s1.heap.objs.size (strIterType x) x t 0 := ⟨_, Heap.get?_push_size _ rfl, rfl, rfl⟩
    obtain ⟨e2, a2, nf⟩ := iter_new (fp := (· = s1.heap.objs.size)) (t := s1.toks) e1 (fun a o x => Heap.get?_push_of_some _ x) (fun a x => by subst x; exact push_new _) (fun a x => by subst x; obtain ⟨o, e, _⟩ := st; exact ⟨o, e⟩)
    exact hQ _ _ _ _ _ _ rfl e2 trivial (Iter.mk wk_str st a2 nf)
  | lst xs => exact key xs rfl hQ
  | ref i =>
    cases ea : asL hs1 (.ref i) with
    | none => simp only [ea] at hb; exact absurd rfl hb
    | some xs => simp only [ea] at hQ; exact key xs ea hQ
  | _ => exact absurd rfl hb
/-! ### range -/
def rangeD (lo : Int) (n : Nat) : List D := (List.range n).map fun (i : Nat) => .int (lo + i)
theorem wk_range {S : Stat} {A : Around} {I : Addr} {lo : Int} {n : Nat} : Wk0 VR S A tgt (· = I) noG (.ref I) (rangeD lo n) (fun _ => True) (fun i G s => IsRangeIter s.heap I (lo + (i : Nat) * 1) ((n : Int) - (i : Nat)) 1) where
  fr := fun i G s G' s' p g k _ => k I _ rfl p
  self := fun i G s Q E p h => lf (wpAny_pyIter_rangeiter p h)
  item := by
    rintro i d G hs s Q E hd p a b hk hQ
    have W := Goes.range (prog := S.P) (w := S.w) (A := A) (target := tgt) b.hd I lo 1 n
    have hi : i < n := by
      have := (List.getElem?_eq_some_iff.mp hd).1
      simpa [rangeD] using this
    refine lf2 (W.goes i s Q E hi p fun v h' t hv st' kk _ => ?_)
    obtain ⟨u, rfl⟩ := hv
    have e : d = .int (lo + i) := by
      unfold rangeD at hd
      rw [List.getElem?_map, List.getElem?_range hi] at hd
      simpa using hd.symm
    subst e
    rw [Int.mul_one]
    exact hQ _ G _ (ItS.one (t := t) b.hinv a (notGenC p rfl (by decide)) fun b o n x => kk b o (by simpa using n) x) (a.one st') vr_int st'
  stop := by
    rintro G hs s Q E p a b hk hQ
    have W := Goes.range (prog := S.P) (w := S.w) (A := A) (target := tgt) b.hd I lo 1 n
    exact lf (W.stops s Q E (by simpa [rangeD] using p) fun h' t kk _ => hQ G _ (ItS.one (t := t) b.hinv a (notGenC p rfl (by decide)) fun b o n x => kk b o (by simpa using n) x))
def smallI (i : Int) : Prop := -(2 ^ 62) ≤ i ∧ i < 2 ^ 62
instance (i : Int) : Decidable (smallI i) := by unfold smallI; exact inferInstance
theorem range_it {Q : Value → Shared → Prop} {E : Value → Shared → Prop} {lo hi : Int} {t u v : Tok} {tk : Nat} (e1 : Ev X.S noZ G hs s G1 hs1 s1) (h1 : smallI lo) (h2 : smallI hi)
    (hQ : ∀ u s2, Ev X.S noZ G hs s G1 hs1 s2 → Iter VR X.S X.A tgt s (rangeD lo (hi - lo).toNat) (fun _ => True) u G1 s2 → Q u s2) :
    wpAny (model X.S.P X.S.w) X.A (pyIter (.ref s1.heap.objs.size)) Q E { s1 with heap := s1.heap.push { cls := .type "range", data := .fields #[.int lo t, .int hi u, .int 1 v] }, toks := tk } := by
  refine lf (wpAny_pyIter_range (IsRange.new ..) (small_one h1.1 h1.2 h2.1 h2.2) ?_)
  have e2 : Ev X.S noZ G hs s G1 hs1 { s1 with heap := s1.heap.push { cls := .type "range", data := .fields #[.int lo t, .int hi u, .int 1 v] }, toks := tk } := e1.trans (Ev.kept (X := X) (Z := noZ) e1.inv fun a o x => Heap.get?_push_of_some _ x) (fun _ _ _ z => z) fun _ _ _ z => z
  have st : IsRangeIter ((s1.heap.push { cls := .type "range", data := .fields #[.int lo t, .int hi u, .int 1 v] }).push { cls := .type "range_iterator", data := .fields #[rawInt lo, rawInt (Builtin.Range.rangeSize lo hi 1), rawInt 1] }) (s1.heap.push { cls := .type "range", data := .fields #[.int lo t, .int hi u, .int 1 v] }).objs.size (lo + ((0 : Nat) : Int) * 1) ((((hi - lo).toNat : Nat) : Int) - ((0 : Nat) : Int)) 1 := by
    have z1 : lo + ((0 : Nat) : Int) * 1 = lo := by simp
    have z2 : (((hi - lo).toNat : Nat) : Int) - ((0 : Nat) : Int) = Builtin.Range.rangeSize lo hi 1 := by rw [rangeSize_one]; split <;> omega
    rw [z1, z2]
    exact Heap.get?_push_size _ rfl
  obtain ⟨e3, a3, nf⟩ := iter_new (fp := (· = (s1.heap.push { cls := .type "range", data := .fields #[.int lo t, .int hi u, .int 1 v] }).objs.size)) (t := tk) e2 (fun a o x => Heap.get?_push_of_some _ x) (fun a x => by subst x; exact push_new _) (fun a x => by subst x; exact ⟨_, st⟩)
  exact hQ _ _ e3 (Iter.mk wk_range st a3 nf)
def iRng1 (m : SA) : SI := fun σ hs => (m σ hs).bind fun ds h => match ds with
  | [.int j] => grd (smallI j) (.ok (rangeD 0 (j - 0).toNat, fun _ => True) h)
  | _ => .bad
def iRng2 (m : SA) : SI := fun σ hs => (m σ hs).bind fun ds h => match ds with
  | [.int i, .int j] => grd (smallI i ∧ smallI j) (.ok (rangeD i (j - i).toNat, fun _ => True) h)
  | _ => .bad
theorem pi_range1 {a : Expr} {ma : SA} {p pos : Pos} (hg : Gl X "range") (hm : X.S.mg "range" = none) (ha : PA X [a] ma) (hs' : starEach [a] X.env = [(false, eval a X.env)]) : PI VR X tgt (.Call (.Name "range" p) [a] [] pos) (iRng1 ma) := by
  refine ⟨fun G σ hs s Q E I hx hb hQ => ?_⟩
  refine Call_ (ld_blt I hg hm boot_range (by decide) (by decide) (callWith_type1 ((ha.run pos G σ hs s I).go (bind_nx hx) (bind_nb hb) fun ds hs1 us s1 G1 em e1 r1 => ?_) hs' rfl))
  unfold iRng1 at hx hb hQ
  rw [em] at hx hb hQ
  simp only [Res.bind_ok] at hx hb hQ
  split at hb
  · rename_i j
    have r1 : VRs X.S G1 s1.heap [.int j] us := r1
    rw [VRs] at r1
    obtain ⟨u, r, rfl, q, r1⟩ := r1
    rw [VRs] at r1; subst r1
    obtain ⟨t, rfl⟩ := int_of q
    have hz := grd_nb hb
    refine lf (call_range_1 (range_it e1 (by decide) hz fun u s2 e2 it => hQ _ _ _ _ _ _ (grd_pos hz) e2 trivial it))
  · exact absurd rfl hb
theorem pi_range2 {a b : Expr} {ma : SA} {p pos : Pos} (hg : Gl X "range") (hm : X.S.mg "range" = none) (ha : PA X [a, b] ma) (hs' : starEach [a, b] X.env = [(false, eval a X.env), (false, eval b X.env)]) (hs2 : starEach [b] X.env = [(false, eval b X.env)]) : PI VR X tgt (.Call (.Name "range" p) [a, b] [] pos) (iRng2 ma) := by
  refine ⟨fun G σ hs s Q E I hx hb hQ => ?_⟩
  refine Call_ (ld_blt I hg hm boot_range (by decide) (by decide) (callWith_type1 ((ha.run pos G σ hs s I).go (bind_nx hx) (bind_nb hb) fun ds hs1 us s1 G1 em e1 r1 => ?_) (by rw [hs', hs2]) (by rw [hs2]; rfl)))
  unfold iRng2 at hx hb hQ
  rw [em] at hx hb hQ
  simp only [Res.bind_ok] at hx hb hQ
  split at hb
  · rename_i i j
    have r1 : VRs X.S G1 s1.heap [.int i, .int j] us := r1
    rw [VRs] at r1
    obtain ⟨u, r, rfl, q, r1⟩ := r1
    rw [VRs] at r1
    obtain ⟨u', r, rfl, q', r1⟩ := r1
    rw [VRs] at r1; subst r1
    obtain ⟨t, rfl⟩ := int_of q
    obtain ⟨t', rfl⟩ := int_of q'
    have hz := grd_nb hb
    exact lf (call_range_2 (range_it e1 hz.1 hz.2 fun u s2 e2 it => hQ _ _ _ _ _ _ (grd_pos hz) e2 trivial it))
  · exact absurd rfl hb
end
end Qo
-- QO
set_option maxRecDepth 100000
set_option maxHeartbeats 4000000
/-! QO: built-in functions and types called. -/
namespace Qo
open PySem PySem.Spec PyProof.Rows

/-- a built-in called with values -/
def BltR (X : Cx) (v : Value) (f : SF) : Prop :=
  ∀ (G : Gh) (hs : Hs) (s : Shared) (ds : List D) (us : List Value) (Q : Value → Shared → Prop) (E : Value → Shared → Prop), Bas X.S X.A G hs s → VRs X.S G s.heap ds us → Out X noZ (VRX X) G hs s (f ds hs) Q E → wpAny (model X.S.P X.S.w) X.A (call v us []) Q E s
def eBlt (f : SF) (a : SA) : SE := fun σ hs => (a σ hs).bind fun ds h => f ds h
section
variable {X : Cx} {G : Gh} {σ : St} {hs : Hs} {s : Shared} {Q : Value → Shared → Prop} {E : Value → Shared → Prop}
theorem pe_bltB {x : Str} {p pos : Pos} {e : Expr} {es : List Expr} {ma : SA} {f : SF} {id : String} (hc : BltR X (.builtin id) f) (hg : Gl X x) (hm : X.S.mg x = none) (hv : bootBuiltins x = some (.builtin id)) (hn : x ≠ "__name__") (ha : PA X (e :: es) ma) (hdb : (x == ("__debug__" : Str)) = false)
    (he : starEach (e :: es) X.env = (false, eval e X.env) :: starEach es X.env) (hpl : (backTo pos (starEach es X.env)).any (·.1) = false) : PE X (.Call (.Name x p) (e :: es) [] pos) (eBlt f ma) :=
  ⟨fun G σ hs s I Q E O => wpAny_Call_Name_kw (ld_blt I hg hm hv hn hdb (callWith_builtin1 ((ha.run pos G σ hs s I).thn O fun ds h1 us s1 G1 _ e1 r1 O1 => hc G1 h1 s1 ds us Q E (I.step e1).bas r1 O1) he hpl))⟩
theorem pe_bltT {x : Str} {p pos : Pos} {e : Expr} {es : List Expr} {ma : SA} {f : SF} {id : String} (hc : BltR X (.type id) f) (hg : Gl X x) (hm : X.S.mg x = none) (hv : bootBuiltins x = some (.type id)) (hn : x ≠ "__name__") (ha : PA X (e :: es) ma) (hdb : (x == ("__debug__" : Str)) = false)
    (he : starEach (e :: es) X.env = (false, eval e X.env) :: starEach es X.env) (hpl : (backTo pos (starEach es X.env)).any (·.1) = false) : PE X (.Call (.Name x p) (e :: es) [] pos) (eBlt f ma) :=
  ⟨fun G σ hs s I Q E O => wpAny_Call_Name_kw (ld_blt I hg hm hv hn hdb (callWith_type1 ((ha.run pos G σ hs s I).thn O fun ds h1 us s1 G1 _ e1 r1 O1 => hc G1 h1 s1 ds us Q E (I.step e1).bas r1 O1) he hpl))⟩
theorem vrs1 {S : Stat} {h : Heap} {x : D} {us : List Value} (r : VRs S G h [x] us) : ∃ u, us = [u] ∧ VR S G h x u := by
  rw [VRs] at r
  obtain ⟨u, t, rfl, q, r⟩ := r
  rw [VRs] at r; subst r
  exact ⟨u, rfl, q⟩
theorem vrs2 {S : Stat} {h : Heap} {x y : D} {us : List Value} (r : VRs S G h [x, y] us) : ∃ u v, us = [u, v] ∧ VR S G h x u ∧ VR S G h y v := by
  rw [VRs] at r
  obtain ⟨u, t, rfl, q, r⟩ := r
  obtain ⟨v, rfl, q2⟩ := vrs1 r
  exact ⟨u, v, rfl, q, q2⟩

/-! ### len -/
def asSq (hs : Hs) : D → Option (List D)
  | .tup xs => some xs
  | d => asL hs d
def dLen : D → Hs → Res D := fun d hs => match d with
  | .str x => grd (x.length ≤ sizeLine) (.ok (.int (x.length : Nat)) hs)
  | .tup xs => .ok (.int (xs.length : Nat)) hs
  | .dct ks _ => .ok (.int (ks.length : Nat)) hs
  | .ref i => match hs[i]? with
    | some (_, .lst xs) => .ok (.int (xs.length : Nat)) hs
    | some (_, .dct ks _) => .ok (.int (ks.length : Nat)) hs
    | _ => .bad
  | .lst xs => .ok (.int (xs.length : Nat)) hs
  | _ => .bad
def bLen : SF := fun ds hs => match ds with | [d] => dLen d hs | _ => .bad
theorem blt_len : BltR X (.builtin "len") bLen := by
  intro G hs s ds us Q E B r O
  have hl := line63
  unfold bLen at O
  split at O
  · rename_i d
    obtain ⟨u, rfl, rr⟩ := vrs1 r
    clear r
    have r := rr
    clear rr
    have lst : ∀ xs, asL hs d = some xs → Out X noZ (VRX X) G hs s (.ok (.int (xs.length : Nat)) hs) Q E → wpAny (model X.S.P X.S.w) X.A (call (.builtin "len") [u] []) Q E s := fun xs e O => by
      obtain ⟨a, its, rfl, pl, hz, hsz, q⟩ := asL_at (X := X) B.hinv r e
      refine lf (Calls.call_len_list pl.isList (by omega) ?_)
      rw [hsz]
      exact O.i B.hinv _
    have dct : ∀ (ks : List Ky) (a : Addr) (us : List Value), u = .ref a → ks.length ≤ sizeLine → (a == sysModules) = false → us.length = ks.length → s.heap.DictOf (L2.mixKind X.S.P X.S.w) a (ks.zip us) → Out X noZ (VRX X) G hs s (.ok (.int (ks.length : Nat)) hs) Q E → wpAny (model X.S.P X.S.w) X.A (call (.builtin "len") [u] []) Q E s := fun ks a us e hz hn hlen hd O => by
      subst e
      have hlen : (ks.zip us).length = ks.length := by rw [List.length_zip]; omega
      refine lf (call_len_dict hn hd (by omega) ?_)
      rw [hlen]
      exact O.i B.hinv _
    cases d with
    | str x =>
      obtain ⟨t, rfl⟩ := str_of r
      have O : Out X noZ _ G hs s (grd (x.length ≤ sizeLine) _) Q E := O
      obtain ⟨hz, O⟩ := O.grd
      exact lf (len_str (by omega) (O.i B.hinv _))
    | tup xs =>
      obtain ⟨a, its, rfl, pl, hz, hsz, q⟩ := tup_at r
      refine lf (len_tuple pl (by omega) ?_)
      rw [hsz]
      exact Out.i (i := (xs.length : Nat)) O B.hinv _
    | lst xs => exact lst xs rfl O
    | dct ks vs =>
      rw [VR] at r
      obtain ⟨a, us, rfl, _, hz, hn, l, t, q⟩ := r
      exact dct ks a us rfl hz hn l t O
    | ref i =>
      unfold dLen at O
      simp only at O
      split at O
      · rename_i f xs hc
        exact lst xs (by unfold asL; simp only [hc]) O
      · rename_i f ks vs hc
        rw [VR] at r
        obtain ⟨p, e, rfl⟩ := r
        obtain ⟨_, hz, hn, us, l, t, q⟩ := B.hinv.cell i p f _ e hc
        exact dct ks p.1 us rfl hz hn l t O
      · exact absurd rfl O.nb
    | _ => exact absurd rfl O.nb
  · exact absurd rfl O.nb

/-! ### lists of bools, of ints, of texts -/
def blsOf : List D → Option (List Bool)
  | [] => some []
  | .bl b :: xs => (blsOf xs).map (b :: ·)
  | _ => none
def intsOf : List D → Option (List Int)
  | [] => some []
  | .int b :: xs => (intsOf xs).map (b :: ·)
  | _ => none
def strsOf : List D → Option (List Str)
  | [] => some []
  | .str b :: xs => (strsOf xs).map (b :: ·)
  | _ => none
theorem bls_at {S : Stat} {h : Heap} : ∀ {xs : List D} {bs : List Bool} {us : List Value}, VRs S G h xs us → blsOf xs = some bs → us = bs.map Value.bool
  | [], bs, us, r, e => by rw [VRs] at r; subst r; cases e; rfl
  | .bl b :: xs, bs, us, r, e => by
    rw [VRs] at r
    obtain ⟨u, t, rfl, q, r⟩ := r
    rw [blsOf] at e
    cases h1 : blsOf xs with
    | none => rw [h1] at e; cases e
    | some cs =>
      rw [h1] at e; cases e
      rw [bl_of q, bls_at r h1]; rfl
  | .non :: _, _, _, _, e => by simp [blsOf] at e
  | .int _ :: _, _, _, _, e => by simp [blsOf] at e
  | .str _ :: _, _, _, _, e => by simp [blsOf] at e
  | .tup _ :: _, _, _, _, e => by simp [blsOf] at e
  | .lst _ :: _, _, _, _, e => by simp [blsOf] at e
  | .dct _ _ :: _, _, _, _, e => by simp [blsOf] at e
  | .obj _ _ _ :: _, _, _, _, e => by simp [blsOf] at e
  | .ref _ :: _, _, _, _, e => by simp [blsOf] at e
  | .fn _ :: _, _, _, _, e => by simp [blsOf] at e
  | .ty _ :: _, _, _, _, e => by simp [blsOf] at e
theorem ints_at {S : Stat} {h : Heap} : ∀ {xs : List D} {bs : List Int} {us : List Value}, VRs S G h xs us → intsOf xs = some bs → PyProof.Rows.IntsAre us bs
  | [], bs, us, r, e => by rw [VRs] at r; subst r; cases e; exact .nil
  | .int b :: xs, bs, us, r, e => by
    rw [VRs] at r
    obtain ⟨u, t, rfl, q, r⟩ := r
    rw [intsOf] at e
    cases h1 : intsOf xs with
    | none => rw [h1] at e; cases e
    | some cs =>
      rw [h1] at e; cases e
      obtain ⟨t, rfl⟩ := int_of q
      exact .cons _ _ (ints_at r h1)
  | .non :: _, _, _, _, e => by simp [intsOf] at e
  | .bl _ :: _, _, _, _, e => by simp [intsOf] at e
  | .str _ :: _, _, _, _, e => by simp [intsOf] at e
  | .tup _ :: _, _, _, _, e => by simp [intsOf] at e
  | .lst _ :: _, _, _, _, e => by simp [intsOf] at e
  | .dct _ _ :: _, _, _, _, e => by simp [intsOf] at e
  | .obj _ _ _ :: _, _, _, _, e => by simp [intsOf] at e
  | .ref _ :: _, _, _, _, e => by simp [intsOf] at e
  | .fn _ :: _, _, _, _, e => by simp [intsOf] at e
  | .ty _ :: _, _, _, _, e => by simp [intsOf] at e
theorem strs_at {S : Stat} {h : Heap} : ∀ {xs : List D} {bs : List Str} {us : List Value}, VRs S G h xs us → strsOf xs = some bs → PyProof.Rows.StrsAre us bs
  | [], bs, us, r, e => by rw [VRs] at r; subst r; cases e; exact .nil
  | .str b :: xs, bs, us, r, e => by
    rw [VRs] at r
    obtain ⟨u, t, rfl, q, r⟩ := r
    rw [strsOf] at e
    cases h1 : strsOf xs with
    | none => rw [h1] at e; cases e
    | some cs =>
      rw [h1] at e; cases e
      obtain ⟨t, rfl⟩ := str_of q
      exact .cons _ _ (strs_at r h1)
  | .non :: _, _, _, _, e => by simp [strsOf] at e
  | .bl _ :: _, _, _, _, e => by simp [strsOf] at e
  | .int _ :: _, _, _, _, e => by simp [strsOf] at e
  | .tup _ :: _, _, _, _, e => by simp [strsOf] at e
  | .lst _ :: _, _, _, _, e => by simp [strsOf] at e
  | .dct _ _ :: _, _, _, _, e => by simp [strsOf] at e
  | .obj _ _ _ :: _, _, _, _, e => by simp [strsOf] at e
  | .ref _ :: _, _, _, _, e => by simp [strsOf] at e
  | .fn _ :: _, _, _, _, e => by simp [strsOf] at e
  | .ty _ :: _, _, _, _, e => by simp [strsOf] at e
theorem vr_ints {S : Stat} {h : Heap} : ∀ {us : List Value} {ns : List Int}, PyProof.Rows.IntsAre us ns → VRs S G h (ns.map D.int) us
  | _, _, .nil => .nil
  | _, _, .cons x t h => .cons vr_int (vr_ints h)
theorem vr_strs {S : Stat} {h : Heap} : ∀ {us : List Value} {ns : List Str}, PyProof.Rows.StrsAre us ns → VRs S G h (ns.map D.str) us
  | _, _, .nil => .nil
  | _, _, .cons x t h => .cons vr_str (vr_strs h)
def bAll : SF := fun ds hs => match ds with
  | [d] => match asL hs d with
    | some xs => match blsOf xs with
      | some bs => .ok (.bl (bs.all id)) hs
      | none => .bad
    | none => .bad
  | _ => .bad
def bAny : SF := fun ds hs => match ds with
  | [d] => match asL hs d with
    | some xs => match blsOf xs with
      | some bs => .ok (.bl (bs.any id)) hs
      | none => .bad
    | none => .bad
  | _ => .bad
theorem Out.keep {d : D} {u : Value} {h' : Heap} {t : Nat} (O : Out X noZ (VRX X) G hs s (.ok d hs) Q E) (I : HInv X.S G hs s.heap) (k : ∀ a o, s.heap.get? a = some o → h'.get? a = some o) (r : VR X.S G h' d u) : Q u { s with heap := h', toks := t } :=
  O.ok d hs rfl u _ G (Ev.kept (X := X) I k) r
theorem not_new {h h' : Heap} {o : Obj} (hk : ∀ b q, b ∉ [h.objs.size] → (h.push o).get? b = some q → h'.get? b = some q) : ∀ b q, h.get? b = some q → h'.get? b = some q := fun b q e => hk b q (fun hm => by
  rcases List.mem_cons.mp hm with e1 | hm
  · exact absurd (e1 ▸ Heap.lt_size e) (Nat.lt_irrefl _)
  · cases hm) (Heap.get?_push_of_some _ e)
theorem blt_all : BltR X (.builtin "all") bAll := by
  intro G hs s ds us Q E B r O
  unfold bAll at O
  split at O
  · rename_i d
    obtain ⟨u, rfl, rr⟩ := vrs1 r
    clear r
    have r := rr
    clear rr
    split at O
    · rename_i xs e
      split at O
      · rename_i bs eb
        obtain ⟨a, its, rfl, pl, hz, hsz, q⟩ := asL_at (X := X) B.hinv r e
        have hb := bls_at q eb
        refine lf (call_all_walk (L2.iter_any (items := its.toList.toArray) (by simpa using pl.isList) fun s₂ e2 st hne => ?_))
        subst e2
        refine ⟨_, _, _, _, _, _, _, rfl, Walks.list (A := X.A.in1) B.hd _ a hne its.toList.toArray, st, L2.truth_bools hb, fun h' tk hk => ?_⟩
        refine O.keep B.hinv (not_new hk) ?_
        rw [VR, ← L2.all_range, hb, List.size_toArray, List.length_map]
      · exact absurd rfl O.nb
    · exact absurd rfl O.nb
  · exact absurd rfl O.nb
theorem blt_any : BltR X (.builtin "any") bAny := by
  intro G hs s ds us Q E B r O
  unfold bAny at O
  split at O
  · rename_i d
    obtain ⟨u, rfl, rr⟩ := vrs1 r
    clear r
    have r := rr
    clear rr
    split at O
    · rename_i xs e
      split at O
      · rename_i bs eb
        obtain ⟨a, its, rfl, pl, hz, hsz, q⟩ := asL_at (X := X) B.hinv r e
        have hb := bls_at q eb
        refine lf (call_any_walk (L2.iter_any (items := its.toList.toArray) (by simpa using pl.isList) fun s₂ e2 st hne => ?_))
        subst e2
        refine ⟨_, _, _, _, _, _, _, rfl, Walks.list (A := X.A.in1) B.hd _ a hne its.toList.toArray, st, L2.truth_bools hb, fun h' tk hk => ?_⟩
        refine O.keep B.hinv (not_new hk) ?_
        rw [VR, ← L2.any_range, hb, List.size_toArray, List.length_map]
      · exact absurd rfl O.nb
    · exact absurd rfl O.nb
  · exact absurd rfl O.nb
/-! ### tuple, list -/
def bTuple : SF := fun ds hs => match ds with
  | [.tup xs] => .ok (.tup xs) hs
  | [d] => match asL hs d with
    | some xs => mkT xs hs
    | none => .bad
  | _ => .bad
theorem blt_tuple : BltR X (.type "tuple") bTuple := by
  intro G hs s ds us Q E B r O
  unfold bTuple at O
  split at O
  · rename_i xs
    obtain ⟨u, rfl, rr⟩ := vrs1 r
    clear r
    have r := rr
    clear rr
    obtain ⟨a, its, rfl, pl, hz, hsz, q⟩ := tup_at r
    exact lf (call_tuple_same pl (O.val' B.hinv r))
  · rename_i d _
    obtain ⟨u, rfl, rr⟩ := vrs1 r
    clear r
    have r := rr
    clear rr
    split at O
    · rename_i xs e
      obtain ⟨a, its, rfl, pl, hz, hsz, q⟩ := asL_at (X := X) B.hinv r e
      refine lf (call_tuple_list pl.isList (fun h' kp => ?_) (by omega))
      exact O.newT (t := s.toks) B.hinv (fun a o x => Heap.get?_push_of_some _ (kp a o x)) (by
        cases q : s.heap.get? h'.objs.size with
        | none => rfl
        | some o => exact absurd (Heap.lt_size (kp _ _ q)) (Nat.lt_irrefl _)) (IsTup.new _ _) q
    · exact absurd rfl O.nb
  · exact absurd rfl O.nb
def bList (b : Bool) : SF := fun ds hs => match ds with
  | [d] => match asSq hs d with
    | some xs => mkL b xs hs
    | none => .bad
  | _ => .bad
theorem blt_list (b : Bool) : BltR X (.type "list") (bList b) := by
  intro G hs s ds us Q E B r O
  unfold bList at O
  split at O
  · rename_i d
    obtain ⟨u, rfl, rr⟩ := vrs1 r
    clear r
    have r := rr
    clear rr
    split at O
    · rename_i xs e
      have key : ∀ (a : Addr) (its : Array Value) {T : String} {o : Obj} {n : Nat}, (T = "list" ∨ T = "tuple") → s.heap.get? a = some o → o.cls = .type T → o.data = .seq its n → xs.length ≤ sizeLine → its.size = xs.length → VRs X.S G s.heap xs its.toList → wpAny (model X.S.P X.S.w) X.A (call (.type "list") [.ref a] []) Q E s := fun a its T o n hT ho hc hd hz hsz q =>
        lf (call_list_seq a hT ho hc hd (fun h' c' kp e => O.newL (t := s.toks) B.hinv kp (push_new _) ⟨c', e⟩ q) (by omega))
      have lst : asL hs d = some xs → wpAny (model X.S.P X.S.w) X.A (call (.type "list") [u] []) Q E s := fun e => by
        obtain ⟨a, its, rfl, pl, hz, hsz, q⟩ := asL_at (X := X) B.hinv r e
        obtain ⟨o, ho, hc, n, hd⟩ := pl.isList
        exact key a its (.inl rfl) ho hc hd hz hsz q
      cases d with
      | tup ys =>
        cases e
        obtain ⟨a, its, rfl, ⟨o, ho, hc, n, hd⟩, hz, hsz, q⟩ := tup_at r
        exact key a its (.inr rfl) ho hc hd hz hsz q
      | _ => exact lst e
    · exact absurd rfl O.nb
  · exact absurd rfl O.nb
/-! ### numbers -/
def bAbs : SF := fun ds hs => match ds with | [.int i] => .ok (.int (if i < 0 then -i else i)) hs | _ => .bad
theorem blt_abs : BltR X (.builtin "abs") bAbs := by
  intro G hs s ds us Q E B r O
  unfold bAbs at O
  split at O
  · obtain ⟨u, rfl, rr⟩ := vrs1 r
    clear r
    have r := rr
    clear rr
    obtain ⟨t, rfl⟩ := int_of r
    exact lf (call_abs_int fun u tk => O.i B.hinv _)
  · exact absurd rfl O.nb
def bDivmod : SF := fun ds hs => match ds with | [.int i, .int j] => grd (dvOk j) (.ok (.tup [.int (i / j), .int (i % j)]) hs) | _ => .bad
theorem blt_divmod : BltR X (.builtin "divmod") bDivmod := by
  intro G hs s ds us Q E B r O
  unfold bDivmod at O
  split at O
  · rename_i i j
    obtain ⟨u, v, rfl, r1, r2⟩ := vrs2 r
    obtain ⟨t, rfl⟩ := int_of r1
    obtain ⟨t', rfl⟩ := int_of r2
    obtain ⟨⟨h1, h2⟩, O⟩ := O.grd
    refine lf (divmod_int (by omega) ?_ (.inl (PyProof.noPylong_of_log2 h2)))
    rw [Int.fdiv_eq_ediv_of_nonneg i (by omega), Int.fmod_eq_emod_of_nonneg i (by omega)]
    have O' : Out X noZ (VRX X) G hs s (mkT [.int (i / j), .int (i % j)] hs) Q E := by unfold mkT; rw [grd_pos (by rw [sizeLine_eq]; simp)]; exact O
    exact O'.pushT B.hinv (t := s.toks + 1 + 1) (its := #[.int (i / j) s.toks, .int (i % j) (s.toks + 1)]) (.cons vr_int (.cons vr_int .nil))
  · exact absurd rfl O.nb
def bMax : SF := fun ds hs => match ds with
  | [.int i, .int j] => .ok (.int (if j > i then j else i)) hs
  | [d] => match asL hs d with
    | some xs => match intsOf xs with
      | some (n :: ns) => .ok (.int (ns.foldl max n)) hs
      | _ => .bad
    | none => .bad
  | _ => .bad
def bMin : SF := fun ds hs => match ds with
  | [.int i, .int j] => .ok (.int (if j < i then j else i)) hs
  | [d] => match asL hs d with
    | some xs => match intsOf xs with
      | some (n :: ns) => .ok (.int (ns.foldl min n)) hs
      | _ => .bad
    | none => .bad
  | _ => .bad
theorem fold_max : ∀ (ns : List Int) (n : Int), ns.foldl max n ∈ n :: ns ∧ ∀ a ∈ n :: ns, a ≤ ns.foldl max n
  | [], n => by simp
  | m :: ns, n => by
    obtain ⟨h1, h2⟩ := fold_max ns (max n m)
    simp only [List.foldl_cons]
    refine ⟨?_, fun a ha => ?_⟩
    · rcases List.mem_cons.mp h1 with e | e
      · rw [e]
        by_cases h : n ≤ m
        · rw [Int.max_eq_right h]; simp
        · rw [Int.max_eq_left (by omega)]; simp
      · simp [e]
    · have h0 := h2 _ List.mem_cons_self
      rcases List.mem_cons.mp ha with e | ha
      · omega
      · rcases List.mem_cons.mp ha with e | ha
        · omega
        · exact h2 a (List.mem_cons_of_mem _ ha)
theorem fold_min : ∀ (ns : List Int) (n : Int), ns.foldl min n ∈ n :: ns ∧ ∀ a ∈ n :: ns, ns.foldl min n ≤ a
  | [], n => by simp
  | m :: ns, n => by
    obtain ⟨h1, h2⟩ := fold_min ns (min n m)
    simp only [List.foldl_cons]
    refine ⟨?_, fun a ha => ?_⟩
    · rcases List.mem_cons.mp h1 with e | e
      · rw [e]
        by_cases h : n ≤ m
        · rw [Int.min_eq_left h]; simp
        · rw [Int.min_eq_right (by omega)]; simp
      · simp [e]
    · have h0 := h2 _ List.mem_cons_self
      rcases List.mem_cons.mp ha with e | ha
      · omega
      · rcases List.mem_cons.mp ha with e | ha
        · omega
        · exact h2 a (List.mem_cons_of_mem _ ha)
theorem blt_max : BltR X (.builtin "max") bMax := by
  intro G hs s ds us Q E B r O
  unfold bMax at O
  split at O
  · rename_i i j
    obtain ⟨u, v, rfl, r1, r2⟩ := vrs2 r
    obtain ⟨t, rfl⟩ := int_of r1
    obtain ⟨t', rfl⟩ := int_of r2
    refine lf (max_two_ints B.hd fun h' tk k => O.keep B.hinv k ?_)
    by_cases hj : j > i
    · rw [if_pos hj, if_pos hj]; exact vr_int
    · rw [if_neg hj, if_neg hj]; exact vr_int
  · rename_i d
    obtain ⟨u, rfl, rr⟩ := vrs1 r
    clear r
    have r := rr
    clear rr
    split at O
    · rename_i xs e
      split at O
      · rename_i n ns en
        obtain ⟨a, its, rfl, pl, hz, hsz, q⟩ := asL_at (X := X) B.hinv r e
        refine lf (L2.max_raw (its := its.toList) B.hd (by simpa using pl.isList) (ints_at q en) (by simp) fun h' tk M t' k h1 h2 => O.keep B.hinv k ?_)
        obtain ⟨f1, f2⟩ := fold_max ns n
        have : M = ns.foldl max n := by
          have := f2 M h1
          have := h2 _ f1
          omega
        rw [this]; exact vr_int
      · exact absurd rfl O.nb
    · exact absurd rfl O.nb
  · exact absurd rfl O.nb
theorem blt_min : BltR X (.builtin "min") bMin := by
  intro G hs s ds us Q E B r O
  unfold bMin at O
  split at O
  · rename_i i j
    obtain ⟨u, v, rfl, r1, r2⟩ := vrs2 r
    obtain ⟨t, rfl⟩ := int_of r1
    obtain ⟨t', rfl⟩ := int_of r2
    refine lf (min_two_ints B.hd fun h' tk k => O.keep B.hinv k ?_)
    by_cases hj : j < i
    · rw [if_pos hj, if_pos hj]; exact vr_int
    · rw [if_neg hj, if_neg hj]; exact vr_int
  · rename_i d
    obtain ⟨u, rfl, rr⟩ := vrs1 r
    clear r
    have r := rr
    clear rr
    split at O
    · rename_i xs e
      split at O
      · rename_i n ns en
        obtain ⟨a, its, rfl, pl, hz, hsz, q⟩ := asL_at (X := X) B.hinv r e
        refine lf (L2.min_raw (its := its.toList) B.hd (by simpa using pl.isList) (ints_at q en) (by simp) fun h' tk M t' k h1 h2 => O.keep B.hinv k ?_)
        obtain ⟨f1, f2⟩ := fold_min ns n
        have : M = ns.foldl min n := by
          have := f2 M h1
          have := h2 _ f1
          omega
        rw [this]; exact vr_int
      · exact absurd rfl O.nb
    · exact absurd rfl O.nb
  · exact absurd rfl O.nb
def bSum : SF := fun ds hs => match ds with
  | [d] => match asL hs d with
    | some xs => match intsOf xs with
      | some ns => .ok (.int ns.sum) hs
      | none => .bad
    | none => .bad
  | _ => .bad
theorem blt_sum : BltR X (.builtin "sum") bSum := by
  intro G hs s ds us Q E B r O
  unfold bSum at O
  split at O
  · rename_i d
    obtain ⟨u, rfl, rr⟩ := vrs1 r
    clear r
    have r := rr
    clear rr
    split at O
    · rename_i xs e
      split at O
      · rename_i ns en
        obtain ⟨a, its, rfl, pl, hz, hsz, q⟩ := asL_at (X := X) B.hinv r e
        exact lf (L2.sum_raw (its := its.toList) B.hd (by simpa using pl.isList) (ints_at q en) fun h' tk t' k => O.keep B.hinv k vr_int)
      · exact absurd rfl O.nb
    · exact absurd rfl O.nb
  · exact absurd rfl O.nb
end
end Qo
-- QP
set_option maxRecDepth 100000
set_option maxHeartbeats 4000000
/-! QP: sorted, isinstance. -/
namespace Qo
open PySem PySem.Spec PyProof.Rows

theorem ltCps_iff : ∀ l m : List Nat, ltCps l m = decide (l < m)
  | [], [] => by simp [ltCps]
  | [], b :: m => by simp [ltCps]
  | a :: l, [] => by simp [ltCps]
  | a :: l, b :: m => by
    rw [ltCps, ltCps_iff l m]
    by_cases h : a < b
    · simp [h, List.cons_lt_cons_iff]
    · by_cases h2 : a = b
      · subst h2; simp [List.cons_lt_cons_iff]
      · simp [List.cons_lt_cons_iff, h, h2]
def leS (x y : Str) : Bool := decide (x.cps.toList ≤ y.cps.toList)
def sortS (xs : List Str) : List Str := xs.mergeSort leS
def sortI (xs : List Int) : List Int := xs.mergeSort fun a b => decide (a ≤ b)
theorem leS_trans (a b c : Str) (h1 : leS a b = true) (h2 : leS b c = true) : leS a c = true := by
  unfold leS at *
  simp only [decide_eq_true_eq] at *
  exact List.le_trans h1 h2
theorem leS_total (a b : Str) : (leS a b || leS b a) = true := by
  unfold leS
  simp only [Bool.or_eq_true, decide_eq_true_eq]
  exact List.le_total _ _
theorem leS_anti {a b : Str} (h1 : leS a b = true) (h2 : leS b a = true) : a = b := by
  unfold leS at *
  simp only [decide_eq_true_eq] at *
  have := List.le_antisymm h1 h2
  cases a; cases b
  simpa using this
theorem rising_le : ∀ (p : Str) (ys : List Str), risingS p ys = true → (∀ y ∈ ys, leS p y = true) ∧ ys.Pairwise (fun a b => leS a b = true)
  | p, [], _ => by simp
  | p, x :: r, h => by
    rw [risingS, Bool.and_eq_true, ltCps_iff] at h
    obtain ⟨h1, h2⟩ := h
    have hp : leS p x = true := by
      unfold leS
      simp only [Bool.not_eq_true', decide_eq_false_iff_not] at h1
      simpa using h1
    obtain ⟨q1, q2⟩ := rising_le x r h2
    refine ⟨fun y hy => ?_, ?_⟩
    · rcases List.mem_cons.mp hy with rfl | hy
      · exact hp
      · exact leS_trans _ _ _ hp (q1 y hy)
    · exact List.Pairwise.cons q1 q2
theorem sorted_eqS {xs ys : List Str} (p : ys.Perm xs) (h : sortedS ys = true) : ys = sortS xs := by
  have h1 : ys.Pairwise (fun a b => leS a b = true) := by
    cases ys with
    | nil => exact .nil
    | cons x r =>
      obtain ⟨q1, q2⟩ := rising_le x r h
      exact .cons q1 q2
  exact List.Perm.eq_of_pairwise (fun a b _ _ => leS_anti) h1 (List.pairwise_mergeSort leS_trans leS_total xs) (p.trans (List.mergeSort_perm xs _).symm)
theorem sorted_eqI {xs ys : List Int} (p : ys.Perm xs) (h : ys.Pairwise (· ≤ ·)) : ys = sortI xs := by
  refine List.Perm.eq_of_pairwise (le := fun a b => decide (a ≤ b) = true) (fun a b _ _ h1 h2 => ?_) (h.imp fun {a b} h => by simpa using h) (List.pairwise_mergeSort (fun a b c h1 h2 => ?_) (fun a b => ?_) xs) (p.trans (List.mergeSort_perm xs _).symm)
  · simp only [decide_eq_true_eq] at h1 h2; omega
  · simp only [decide_eq_true_eq] at *; omega
  · simp only [Bool.or_eq_true, decide_eq_true_eq]; omega
section
variable {X : Cx} {G : Gh} {σ : St} {hs : Hs} {s : Shared} {Q : Value → Shared → Prop} {E : Value → Shared → Prop}
def bSorted (b : Bool) : SF := fun ds hs => match ds with
  | [d] => match asL hs d with
    | some xs => grd (xs.length < 64) (match strsOf xs with
      | some ss => mkL b ((sortS ss).map .str) hs
      | none => match intsOf xs with
        | some ns => mkL b ((sortI ns).map .int) hs
        | none => .bad)
    | none => .bad
  | _ => .bad
theorem blt_sorted (b : Bool) : BltR X (.builtin "sorted") (bSorted b) := by
  intro G hs s ds us Q E B r O
  unfold bSorted at O
  split at O
  · rename_i d
    obtain ⟨u, rfl, rr⟩ := vrs1 r
    clear r
    split at O
    · rename_i xs e
      obtain ⟨a, its, rfl, pl, hz, hsz, q⟩ := asL_at (X := X) B.hinv rr e
      obtain ⟨h64, O⟩ := O.grd
      have hql := q.len
      split at O
      · rename_i ss es
        refine lf (PyProof.Rows.sorted_strs (vs := its.toList) (by simpa using pl.isList) (strs_at q es) (by omega) fun out ys h1 h2 h3 => ?_)
        obtain ⟨ep, he'⟩ := PyProof.Rows.sortedAll_at s.heap its.toList out
        have e2 := sorted_eqS h2 h3
        subst e2
        exact O.newL (t := s.toks) B.hinv (fun _ _ => PyProof.Rows.sortedAll_old) (Heap.get?_none_of_le (Nat.le_succ _)) ⟨ep, he'⟩ (vr_strs h1)
      · split at O
        · rename_i ns en
          refine lf (PyProof.Rows.sorted_ints (vs := its.toList) (by simpa using pl.isList) (ints_at q en) (by omega) fun out ys h1 h2 h3 => ?_)
          obtain ⟨ep, he'⟩ := PyProof.Rows.sortedAll_at s.heap its.toList out
          have e2 := sorted_eqI h2 h3
          subst e2
          exact O.newL (t := s.toks) B.hinv (fun _ _ => PyProof.Rows.sortedAll_old) (Heap.get?_none_of_le (Nat.le_succ _)) ⟨ep, he'⟩ (vr_ints h1)
        · exact absurd rfl O.nb
    · exact absurd rfl O.nb
  · exact absurd rfl O.nb

/-! ### isinstance -/
inductive TyN where
  | ty (n : String) | own (c : Addr)
def TyN.val : TyN → Value | .ty n => .type n | .own c => .ref c
def tyN (hs : Hs) : D → Option TyN
  | .non => some (.ty "NoneType")
  | .bl _ => some (.ty "bool")
  | .int _ => some (.ty "int")
  | .str _ => some (.ty "str")
  | .tup _ => some (.ty "tuple")
  | .lst _ => some (.ty "list")
  | .dct _ _ => some (.ty "dict")
  | .obj c _ _ => some (.own c)
  | .ref i => match hs[i]? with
    | some (_, .lst _) => some (.ty "list")
    | some (_, .dct _ _) => some (.ty "dict")
    | some (_, .ins c _ _) => some (.own c)
    | none => none
  | _ => none
def clsN : D → Option TyN
  | .ty n => some (.ty n)
  | .fn a => some (.own a)
  | _ => none
/-- what isinstance answers, by the types -/
abbrev IsT := TyN → TyN → Option Bool
/-- a class whose instances isinstance knows -/
structure ClsI (K : PySem.W.Frag) (C : Addr) : Prop where
  cl : L2.Cls K C
  ha : PySem.W.findIn K (.ref C) "__class__" = some (some (.builtin "object.__class__"))
  hn : PySem.W.specialIn K (.builtin "object.__class__") "__get__" = some (some (.builtin "getset_descriptor.__get__"))
  htk : PySem.W.takesIn K (.builtin "object.__class__") = some true
  hm : PySem.W.mroIn K C (.type "object") = some true
structure IsOk (K : PySem.W.Frag) (it : IsT) : Prop where
  one : ∀ t c b, it t c = some b → PySem.W.kitOne K t.val c.val = some b
  own : ∀ t c b, it t c = some b → ∀ a, t = .own a → ClsI K a
def bIsi (it : IsT) : SF := fun ds hs => match ds with
  | [x, c] => match tyN hs x, clsN c with
    | some t, some k => match it t k with
      | some b => .ok (.bl b) hs
      | none => .bad
    | _, _ => .bad
  | _ => .bad
theorem kit_at {it : IsT} {x : D} {u : Value} {t k : TyN} {b : Bool} (B : Bas X.S X.A G hs s) (ok : IsOk X.S.K it) (r : VR X.S G s.heap x u) (e : tyN hs x = some t) (hb : it t k = some b) : ∃ P : Heap → Prop, PySem.W.KitX X.S.K u t.val P ∧ P s.heap ∧ u ≠ .builtin "__main__.__loader__#opaque" := by
  have own : ∀ (c : Addr) (ns : List Str) (vs : List D), asO hs x = some (c, ns, vs) → t = .own c → ∃ P : Heap → Prop, PySem.W.KitX X.S.K u t.val P ∧ P s.heap ∧ u ≠ .builtin "__main__.__loader__#opaque" := fun c ns vs ea et => by
    subst et
    obtain ⟨a, dx, m, us, rfl, ob, l, tt, q⟩ := asO_at (X := X) B.hinv r ea
    obtain ⟨od, J, _⟩ := ob.look
    have ci := ok.own _ _ _ hb c rfl
    exact ⟨_, PySem.W.kitx_own (ci.cl.get _) ci.cl.hd ci.ha ci.hn ci.htk ci.hm, J, fun z => nomatch z⟩
  have lst : ∀ xs, asL hs x = some xs → t = .ty "list" → ∃ P : Heap → Prop, PySem.W.KitX X.S.K u t.val P ∧ P s.heap ∧ u ≠ .builtin "__main__.__loader__#opaque" := fun xs ea et => by
    subst et
    obtain ⟨a, its, rfl, pl, hz, hsz, q⟩ := asL_at (X := X) B.hinv r ea
    obtain ⟨n, h1⟩ := pl
    exact ⟨_, PySem.W.kitx_list, ⟨_, h1, rfl⟩, fun z => nomatch z⟩
  have dct : ∀ (a : Addr) (kvs : List (Ky × Value)), u = .ref a → s.heap.DictOf (L2.mixKind X.S.P X.S.w) a kvs → t = .ty "dict" → ∃ P : Heap → Prop, PySem.W.KitX X.S.K u t.val P ∧ P s.heap ∧ u ≠ .builtin "__main__.__loader__#opaque" := fun a kvs eu hd et => by
    subst et eu
    obtain ⟨o, es, ep, h1, h2, _⟩ := hd
    exact ⟨_, PySem.W.kitx_dict, ⟨o, h1, h2.1⟩, fun z => nomatch z⟩
  cases x with
  | non => cases e; rw [VR] at r; subst r; exact ⟨_, PySem.W.kitx_none, True.intro, fun z => nomatch z⟩
  | bl y => cases e; rw [bl_of r]; exact ⟨_, PySem.W.kitx_bool, True.intro, fun z => nomatch z⟩
  | int i => cases e; obtain ⟨t, rfl⟩ := int_of r; exact ⟨_, PySem.W.kitx_int, True.intro, fun z => nomatch z⟩
  | str i => cases e; obtain ⟨t, rfl⟩ := str_of r; exact ⟨_, PySem.W.kitx_str, True.intro, fun z => nomatch z⟩
  | tup xs =>
    cases e
    obtain ⟨a, its, rfl, ⟨o, h1, h2, _⟩, hz, hsz, q⟩ := tup_at r
    exact ⟨_, PySem.W.kitx_tuple, ⟨o, h1, h2⟩, fun z => nomatch z⟩
  | lst xs => cases e; exact lst xs rfl rfl
  | dct ks vs =>
    cases e
    rw [VR] at r
    obtain ⟨a, us, rfl, _, hz, hn, l, t, q⟩ := r
    exact dct a _ rfl t rfl
  | obj c ns vs => cases e; exact own c ns vs rfl rfl
  | ref i =>
    rw [tyN] at e
    split at e
    · rename_i f xs hc; cases e; exact lst xs (by unfold asL; simp only [hc]) rfl
    · rename_i f ks vs hc
      cases e
      rw [VR] at r
      obtain ⟨p, e, rfl⟩ := r
      obtain ⟨_, hz, hn, us, l, t, q⟩ := B.hinv.cell i p f _ e hc
      exact dct p.1 _ rfl t rfl
    · rename_i f c ns vs hc; cases e; exact own c ns vs (by unfold asO; simp only [hc]) rfl
    · cases e
  | _ => cases e
theorem blt_isi {it : IsT} (ok : IsOk X.S.K it) : BltR X (.builtin "isinstance") (bIsi it) := by
  intro G hs s ds us Q E B r O
  unfold bIsi at O
  split at O
  · rename_i x c
    obtain ⟨u, v, rfl, r1, r2⟩ := vrs2 r
    split at O
    · rename_i t k e1 e2
      split at O
      · rename_i b eb
        obtain ⟨P, Z, p, hx⟩ := kit_at B ok r1 e1 eb
        have ev : v = k.val := by
          cases c with
          | ty n => cases e2; rw [VR] at r2; exact r2
          | fn n => cases e2; rw [VR] at r2; exact r2
          | _ => cases e2
        subst ev
        exact lf (PySem.W.kia_one Z B.kIn p (ok.one _ _ _ eb) hx fun tk => O.val B.hinv tk vr_bl)
      · exact absurd rfl O.nb
    · exact absurd rfl O.nb
  · exact absurd rfl O.nb
end
end Qo
-- QQ
set_option maxRecDepth 100000
set_option maxHeartbeats 4000000
/-! QQ: slices, methods of lists and texts, stores, while. -/
namespace Qo
open PySem PySem.Spec PyProof.Rows

section
variable {X : Cx} {G : Gh} {σ : St} {hs : Hs} {s : Shared} {Q : Value → Shared → Prop} {E : Value → Shared → Prop}
theorem VRs.reverse {S : Stat} {h : Heap} : ∀ {xs : List D} {us : List Value}, VRs S G h xs us → VRs S G h xs.reverse us.reverse
  | [], us, r => by rw [VRs] at r; subst r; exact .nil
  | x :: xs, us, r => by
    rw [VRs] at r
    obtain ⟨u, t, rfl, q, r⟩ := r
    rw [List.reverse_cons, List.reverse_cons]
    exact (VRs.reverse r).append (.one q)
theorem VRs.dropLast {S : Stat} {h : Heap} {xs : List D} {us : List Value} (r : VRs S G h xs us) : VRs S G h xs.dropLast us.dropLast := by
  rw [List.dropLast_eq_take, List.dropLast_eq_take, r.len]
  exact r.take _
/-! ### chains -/
def eChain (f g : D → D → Hs → Res D) (a b c : SE) : SE := fun σ hs => (a σ hs).bind fun x h => (b σ h).bind fun y h => (f x y h).bind fun z h => match z with
  | .bl true => (c σ h).bind fun w h => g y w h
  | .bl false => .ok (.bl false) h
  | _ => .bad
theorem pe_chain {a b c : Expr} {ma mb mc : SE} {op op' : CmpOp} {f g : D → D → Hs → Res D} {pos : Pos} (ho : OpR X (compareOp op) f) (ho' : OpR X (compareOp op') g) (ha : PE X a ma) (hb : PE X b mb) (hc : PE X c mc) (hm : lastMarks [op, op'] [b, c] = false) : PE X (.Compare a [op, op'] [b, c] pos) (eChain f g ma mb mc) := by
  refine ⟨fun G σ hs s I Q E O => Compare_chain ((ha.run G σ hs s I).thn O fun x h1 v s1 G1 _ e1 r1 O1 => chain_link ((hb.run G1 σ h1 s1 (I.step e1)).thn O1 fun y h2 u s2 G2 _ e2 r2 O2 => ?_)) hm⟩
  have I2 := (I.step e1).step e2
  refine ho G2 σ h2 s2 x y v u I2 (VR.mono ((I.step e1).grow e2) _ _ r1) r2 _ E (O2.fst fun z h3 d s3 G3 _ e3 r3 O3 => ?_)
  have I3 := I2.step e3
  split at O3
  · rw [bl_of r3]
    refine lf (wpAny_truthy_bool (ite_tt (chain_last ((hc.run G3 σ h3 s3 I3).thn O3 fun w h4 wv s4 G4 _ e4 r4 O4 => ?_))))
    exact ho' G4 σ h4 s4 y w u wv (I3.step e4) (VR.mono (I3.grow e4) _ _ (VR.mono (I2.grow e3) _ _ r2)) r4 Q E O4
  · rw [bl_of r3]
    exact lf (wpAny_truthy_bool (ite_ff (O3.b I3.hinv)))
  · exact absurd rfl O3.nb
theorem pt_chain {a b c : Expr} {ma mb mc : SE} {op op' : CmpOp} {f g : D → D → Hs → Res D} {pos : Pos} (ho : OpR X (compareOp op) f) (ho' : OpR X (compareOp op') g) (ha : PE X a ma) (hb : PE X b mb) (hc : PE X c mc) (hm : lastMarks [op, op'] [b, c] = false) : PT X (.Compare a [op, op'] [b, c] pos) (tOf (eChain f g ma mb mc)) := by
  refine ⟨fun G σ hs s I Q E O => ?_⟩
  have O : Out X noZ (fun _ _ d u => u = d) G hs s ((ma σ hs).bind fun x h => (mb σ h).bind fun y h => (f x y h).bind fun z h => (match z with
    | .bl true => (mc σ h).bind fun w h => g y w h
    | .bl false => .ok (.bl false) h
    | _ => .bad : Res D).bind fun d h => truR d h) Q E := by
    unfold tOf eChain at O
    simp only [Res.bind_assoc] at O
    exact O
  refine isTrue_chain ((ha.run G σ hs s I).thn O fun x h1 v s1 G1 _ e1 r1 O1 => test_link ((hb.run G1 σ h1 s1 (I.step e1)).thn O1 fun y h2 u s2 G2 _ e2 r2 O2 => ?_)) hm
  have I2 := (I.step e1).step e2
  refine ho G2 σ h2 s2 x y v u I2 (VR.mono ((I.step e1).grow e2) _ _ r1) r2 _ E (O2.fst fun z h3 d s3 G3 _ e3 r3 O3 => ?_)
  have I3 := I2.step e3
  split at O3
  · rw [bl_of r3]
    simp only [Res.bind_assoc] at O3
    refine lf (wpAny_truthy_bool (ite_tt (test_last ((hc.run G3 σ h3 s3 I3).thn O3 fun w h4 wv s4 G4 _ e4 r4 O4 => ?_))))
    exact ho' G4 σ h4 s4 y w u wv (I3.step e4) (VR.mono (I3.grow e4) _ _ (VR.mono (I2.grow e3) _ _ r2)) r4 _ E (O4.fst fun z' h5 d' s5 G5 _ e5 r5 O5 => tru_ok e5.inv r5 O5)
  · rw [bl_of r3]
    exact lf (wpAny_truthy_bool (ite_ff (Out.tt (b := false) O3 I3.hinv)))
  · exact absurd rfl O3.nb
/-! ### starred items -/
def aStar (m : SE) (b : SA) : SA := fun σ hs => (m σ hs).bind fun x h => match asSq h x with
  | some xs => (b σ h).bind fun ys h => .ok (xs ++ ys) h
  | none => .bad
theorem star_of {x : D} {u : Value} {xs : List D} {Q : List Value → Shared → Prop} (I : Inv X G σ hs s) (r : VR X.S G s.heap x u) (e : asSq hs x = some xs) (hQ : ∀ us s', Ev X.S noZ G hs s G hs s' → VRs X.S G s'.heap xs us → Q us s') : StarOf (model X.S.P X.S.w) X.A E u Q s := by
  have key : ∀ (a : Addr) (its : Array Value) {T : String} {o : Obj} {n : Nat}, (T = "list" ∨ T = "tuple") → s.heap.get? a = some o → o.cls = .type T → o.data = .seq its n → its.size ≤ sizeLine → VRs X.S G s.heap xs its.toList → wpAny (model X.S.P X.S.w) X.A (collect (.ref a)) Q E s := fun a its T o n hT ho hc hd hsz q => by
    refine lf (wpAny_collect_seq a hT ho hc hd (fun h' hk => ?_) hsz)
    exact hQ _ _ (Ev.kept (X := X) (t := s.toks) I.hinv hk) (VRs.mono ⟨fun _ x => x, fun a o _ x => hk a o x, fun _ _ x => x⟩ _ _ q)
  have lst : asL hs x = some xs → StarOf (model X.S.P X.S.w) X.A E u Q s := fun e => by
    obtain ⟨a, its, rfl, pl, hz, hsz, q⟩ := asL_at (X := X) I.hinv r e
    obtain ⟨o, ho, hc, n, hd⟩ := pl.isList
    unfold StarOf notIterableAtAll
    exact wpAny_bind (lf (wpAny_specialOf (⟨o, ho, hc⟩ : s.TypeIs (.ref a) "list") PySem.F.slot_list_iter.lookup (wpAny_pure ⟨rfl, key a its (.inl rfl) ho hc hd (by omega) q⟩)))
  cases x with
  | tup ys =>
    cases e
    obtain ⟨a, its, rfl, ⟨o, ho, hc, n, hd⟩, hz, hsz, q⟩ := tup_at r
    unfold StarOf notIterableAtAll
    exact wpAny_bind (lf (wpAny_specialOf (⟨o, ho, hc⟩ : s.TypeIs (.ref a) "tuple") PySem.F.slot_tuple_iter.lookup (wpAny_pure ⟨rfl, key a its (.inr rfl) ho hc hd (by omega) q⟩)))
  | _ => exact lst e
theorem pa_star {e : Expr} {es : List Expr} {m : SE} {ms : SA} {p : Pos} (he : PE X e m) (hr : PA X es ms) (hs : starEach (.Starred e p :: es) X.env = (true, eval e X.env) :: starEach es X.env) : PA X (.Starred e p :: es) (aStar m ms) := by
  refine ⟨fun pos G σ hs' s I Q E O => items_star ((he.run G σ hs' s I).thn O fun x h1 u s1 G1 _ e1 r1 O1 => ?_) hs⟩
  split at O1
  · rename_i xs ex
    refine star_of (I.step e1) r1 ex fun us s2 e2 r2 => ?_
    have I2 := (I.step e1).step e2
    refine (hr.run pos G1 σ h1 s2 I2).thn (O1.mv e2) fun ys h2 ws s3 G3 _ e3 r3 O3 => ?_
    exact O3.ok _ _ rfl _ _ _ (Ev.refl e3.inv) ((VRs.mono (I2.grow e3) _ _ r2).append r3)
  · exact absurd rfl O1.nb
/-! ### a text, a list times an int -/
theorem fold_rep (x : Str) : ∀ (n : Nat) (acc : Array Nat), (List.replicate n x.cps).foldl (· ++ ·) acc = acc ++ ((List.replicate n x.cps.toList).flatten).toArray
  | 0, acc => by simp
  | n + 1, acc => by
    rw [List.replicate_succ, List.foldl_cons, fold_rep x n, List.replicate_succ, List.flatten_cons]
    apply Array.ext'
    simp
def dMulS : D → D → Hs → Res D := fun x y hs => match x, y with
  | .str x, .int n => grd (1 ≤ n ∧ x.length * n.toNat ≤ sizeLine ∧ n ≤ sizeLine) (.ok (.str (repS x n)) hs)
  | x, y => dMul false x y hs
theorem op_mulS : OpR X (binaryOp .Mult) dMulS := by
  intro G σ hs s x y u v I r1 r2 Q E O
  unfold dMulS at O
  split at O
  · rename_i x n
    obtain ⟨t, rfl⟩ := str_of r1
    obtain ⟨t', rfl⟩ := int_of r2
    obtain ⟨⟨h1, h2, h3⟩, O⟩ := O.grd
    have hl := sizeLine_eq
    have h63 := line63
    have e1 : decide (n < -(2 ^ 63 : Int)) = false := decide_eq_false (by omega)
    have e2 : decide (n ≥ 2 ^ 63) = false := decide_eq_false (by omega)
    refine lf (PySem.P.mul_str (by rw [e1, e2, Bool.or_false]) (fun _ _ => ?_) (fun _ _ => ?_) ?_)
    · have : (x.length : Int) * n ≤ sizeLine := by
        have hn : (n.toNat : Int) = n := by omega
        have : ((x.length * n.toNat : Nat) : Int) ≤ sizeLine := by exact_mod_cast h2
        rw [Int.natCast_mul, hn] at this
        exact this
      have h4 : (x.length : Int) ≤ (2 ^ 63 - 1) / n := by
        rw [Int.le_ediv_iff_mul_le (by omega)]
        omega
      omega
    · exact decide_eq_false (by omega)
    · rw [if_neg (by omega)]
      by_cases c : (n == 1 || x.length == 0) = true
      · rw [if_pos c]
        have : repS x n = x := by
          rw [Bool.or_eq_true] at c
          rcases c with c | c
          · have c : n = 1 := by simpa using c
            subst c
            cases x
            simp [repS]
          · have c : x.length = 0 := by simpa using c
            have c' : x.cps.toList = [] := by
              have : x.cps.size = 0 := c
              simpa using this
            have c2 : x.cps = #[] := Array.ext' (by simpa using c')
            cases x
            simp only at c2
            subst c2
            simp [repS]
        rw [this] at O
        exact O.val' I.hinv (by rw [VR]; exact ⟨t, rfl⟩)
      · rw [if_neg c]
        have e : (⟨(List.replicate n.toNat x.cps).foldl (· ++ ·) #[]⟩ : Str) = repS x n := by
          rw [fold_rep]; simp [repS]
        rw [e]
        have hlen : (repS x n).length ≤ sizeLine := by
          show ((List.replicate n.toNat x.cps.toList).flatten.toArray).size ≤ _
          rw [List.size_toArray, List.length_flatten, List.map_replicate, List.sum_replicate_nat, Array.length_toList]
          rw [Nat.mul_comm]; exact h2
        exact ⟨hlen, O.st I.hinv _⟩
  · exact op_mul false G σ hs s x y u v I r1 r2 Q E O
/-! ### slices -/
def SlR (X : Cx) (f : D → Option Int → Option Int → Hs → Res D) : Prop :=
  ∀ (G : Gh) (σ : St) (hs : Hs) (s : Shared) (x : D) (v vl vu : Value) (lo hi : Option Int) (sl : Addr) (Q : Value → Shared → Prop) (E : Value → Shared → Prop), Inv X G σ hs s → VR X.S G s.heap x v → s.heap.IsSliceOf sl vl vu .none → IsPart vl lo → IsPart vu hi → Out X noZ (VRX X) G hs s (f x lo hi hs) Q E →
    ∃ T id, typeLookup (.type T) "__getitem__" = pure (some (.builtin id)) ∧ s.TypeIs v T ∧ wpAny (model X.S.P X.S.w) X.A (getItem v (.ref sl)) Q E s
def cutD (xs : List D) (lo hi : Option Int) : List D := (xs.drop (HT.sIx xs.length 0 lo)).take (HT.sIx xs.length xs.length hi - HT.sIx xs.length 0 lo)
theorem cutD_len (xs : List D) (lo hi : Option Int) : (cutD xs lo hi).length ≤ xs.length := by
  unfold cutD
  rw [List.length_take, List.length_drop]
  omega
def dSl (b : Bool) : D → Option Int → Option Int → Hs → Res D := fun x lo hi hs => match x with
  | .str z => grd (z.length ≤ sizeLine) (.ok (.str (L2.cutS z lo hi)) hs)
  | x => match asL hs x with
    | some xs => mkL b (cutD xs lo hi) hs
    | none => .bad
theorem sl_any (b : Bool) : SlR X (dSl b) := by
  intro G σ hs s x v vl vu lo hi sl Q E I r hsl pl pu O
  unfold dSl at O
  split at O
  · rename_i z
    obtain ⟨t, rfl⟩ := str_of r
    obtain ⟨hz, O⟩ := O.grd
    obtain ⟨os, hos, hcs, hds⟩ := hsl
    obtain ⟨l, rfl, rfl⟩ := L2.IsPart.raw pl
    obtain ⟨u, rfl, rfl⟩ := L2.IsPart.raw pu
    refine ⟨"str", _, F.slot_str_getitem.lookup, typeIs_str _ _ _, ?_⟩
    refine lf (wpAny_getItem_str_slice (l := l) (u := u) (st := none) ⟨os, hos, hcs, hds⟩ rfl ?_)
    have hl : (PySem.StrLaws.sliceText z (l.map (·.1)) (u.map (·.1))).length ≤ sizeLine := by
      rw [L2.sliceText_cut]
      exact Nat.le_trans (L2.cutS_length z _ _) hz
    rw [← L2.sliceText_cut] at O
    unfold PySem.StrLaws.sliceText at O hl
    show Made.post (if ((1 : Int) == 1 && (Builtin.Str.strSliceIndices (l.map (·.1)) (u.map (·.1)) 1 z.length).length == z.length) = true then Made.val (.str z t)
      else Made.str ⟨((Builtin.Str.strSliceIndices (l.map (·.1)) (u.map (·.1)) 1 z.length).filterMap (z.cps[·]?)).toArray⟩) Q s
    by_cases c : ((1 : Int) == 1 && (Builtin.Str.strSliceIndices (l.map (·.1)) (u.map (·.1)) 1 z.length).length == z.length) = true
    · rw [if_pos c] at O ⊢
      exact O.val' I.hinv (by rw [VR]; exact ⟨t, rfl⟩)
    · rw [if_neg c] at O hl ⊢
      exact ⟨hl, O.st I.hinv _⟩
  · split at O
    · rename_i xs ex
      obtain ⟨a, its, rfl, pll, hz, hsz, q⟩ := asL_at (X := X) I.hinv r ex
      refine ⟨"list", _, slot_list_getitem.lookup, pll.isList.typeIs, ?_⟩
      refine lf (wpAny_getItem_list_slice pll.isList hsl pl pu .none (by simp) ?_ (by omega))
      have e : its = its.toList.toArray := by simp
      rw [e, L2.slicePick_cut, Array.length_toList, hsz]
      exact O.pushL (t := s.toks) I.hinv (by simpa [cutD] using (q.drop (HT.sIx xs.length 0 lo)).take (HT.sIx xs.length xs.length hi - HT.sIx xs.length 0 lo))
    · exact absurd rfl O.nb
abbrev SO := St → Hs → Res (Option Int)
structure PO (X : Cx) (e : Option Expr) (m : SO) : Prop where
  run : ∀ (G : Gh) (σ : St) (hs : Hs) (s : Shared), Inv X G σ hs s → Sat X noZ (evalPart e X.env) (fun _ _ o u => IsPart u o) G hs s (m σ hs)
def oNone : SO := fun _ hs => .ok none hs
def oSome (m : SE) : SO := fun σ hs => (m σ hs).bind fun d h => match d with | .int i => .ok (some i) h | _ => .bad
theorem po_none : PO X none oNone := ⟨fun G σ hs s I Q E O => by rw [evalPart_none]; exact wpAny_pure (O.ok _ _ rfl _ _ _ (Ev.refl I.hinv) .none)⟩
theorem po_some {e : Expr} {m : SE} (h : PE X e m) : PO X (some e) (oSome m) := by
  refine ⟨fun G σ hs s I Q E O => ?_⟩
  rw [evalPart_some]
  refine (h.run G σ hs s I).thn O fun d h1 u s1 G1 _ e1 r1 O1 => ?_
  split at O1
  · obtain ⟨t, rfl⟩ := int_of r1
    exact O1.ok _ _ rfl _ _ _ (Ev.refl e1.inv) (.int _ t)
  · exact absurd rfl O1.nb
def eSl (f : D → Option Int → Option Int → Hs → Res D) (m : SE) (l u : SO) : SE := fun σ hs => (m σ hs).bind fun x h => (l σ h).bind fun lo h => (u σ h).bind fun hi h => f x lo hi h
theorem pe_slice {f : D → Option Int → Option Int → Hs → Res D} {e : Expr} {lo hi : Option Expr} {m : SE} {l u : SO} {p2 pos : Pos} (hr : SlR X f) (he : PE X e m) (hl : PO X lo l) (hu : PO X hi u)
    (hsub : ∀ v w, subscripted (.Slice lo hi none p2) false v (.ref w) = operate [.ref w, v] (getItem v (.ref w))) : PE X (.Subscript e (.Slice lo hi none p2) pos) (eSl f m l u) := by
  refine ⟨fun G σ hs s I Q E O => Subscript_ ((he.run G σ hs s I).thn O fun x h1 v s1 G1 _ e1 r1 O1 => ?_)⟩
  have I1 := I.step e1
  refine wpAny_Slice ((hl.run G1 σ h1 s1 I1).thn O1 fun lo' h2 vl s2 G2 _ e2 pl O2 => ?_)
  have I2 := I1.step e2
  refine (hu.run G2 σ h2 s2 I2).thn O2 fun hi' h3 vu s3 G3 _ e3 pu O3 => ?_
  have I3 := I2.step e3
  rw [evalPart_none]
  refine wpAny_pure ?_
  have k4 : ∀ b o, s3.heap.get? b = some o → (s3.heap.push { cls := .type "slice", data := .fields #[vl, vu, .none] }).get? b = some o := fun b o q => Heap.get?_push_of_some _ q
  have e4 : Ev X.S noZ G3 h3 s3 G3 h3 { s3 with heap := s3.heap.push { cls := .type "slice", data := .fields #[vl, vu, .none] } } := Ev.kept (X := X) (t := s3.toks) I3.hinv k4
  have r4 := VR.mono (I3.grow e4) _ _ (VR.mono (I2.grow e3) _ _ (VR.mono (I1.grow e2) _ _ r1))
  obtain ⟨T, id, hT, ht, hg⟩ := hr G3 σ h3 _ x v vl vu lo' hi' s3.heap.objs.size Q E (I3.step e4) r4 (Heap.IsSliceOf.new ..) pl pu (O3.mv e4)
  show wpAny (model X.S.P X.S.w) X.A (subscriptTail e (.Slice lo hi none p2) v (.ref s3.heap.objs.size)) Q E { s3 with heap := s3.heap.push { cls := .type "slice", data := .fields #[vl, vu, .none] } }
  exact tail_any (ops := [.ref s3.heap.objs.size, v]) ht hT hg (hsub v _)
/-- e[::-1] of a list -/
def eRev (b : Bool) (m : SE) : SE := fun σ hs => (m σ hs).bind fun x h => match asL h x with
  | some xs => mkL b xs.reverse h
  | none => .bad
theorem pe_rev (b : Bool) {e st : Expr} {m : SE} {p2 pos : Pos} (he : PE X e m) (hst : PE X st (eC (.int (-1))))
    (hsub : ∀ v w, subscripted (.Slice none none (some st) p2) false v (.ref w) = operate [.ref w, v] (getItem v (.ref w))) : PE X (.Subscript e (.Slice none none (some st) p2) pos) (eRev b m) := by
  refine ⟨fun G σ hs s I Q E O => Subscript_ ((he.run G σ hs s I).thn O fun x h1 v s1 G1 _ e1 r1 O1 => ?_)⟩
  have I1 := I.step e1
  split at O1
  · rename_i xs ex
    refine wpAny_Slice ?_
    rw [evalPart_none, evalPart_some]
    refine wpAny_pure (wpAny_pure ((hst.run G1 σ h1 s1 I1).go (by intro x h z; cases z) (by intro z; cases z) fun d h2 vs s2 G2 ed e2 r2 => ?_))
    cases ed
    have I2 := I1.step e2
    obtain ⟨t, rfl⟩ := int_of r2
    have k4 : ∀ b o, s2.heap.get? b = some o → (s2.heap.push { cls := .type "slice", data := .fields #[.none, .none, .int (-1) t] }).get? b = some o := fun b o q => Heap.get?_push_of_some _ q
    have e4 : Ev X.S noZ G2 h1 s2 G2 h1 { s2 with heap := s2.heap.push { cls := .type "slice", data := .fields #[.none, .none, .int (-1) t] } } := Ev.kept (X := X) (t := s2.toks) I2.hinv k4
    have r4 := VR.mono (I2.grow e4) _ _ (VR.mono (I1.grow e2) _ _ r1)
    have I4 := I2.step e4
    obtain ⟨a, its, rfl, pll, hz, hsz, q⟩ := asL_at (X := X) I4.hinv r4 ex
    have O4 := (O1.mv e2).mv e4
    show wpAny (model X.S.P X.S.w) X.A (subscriptTail e (.Slice none none (some st) p2) (.ref a) (.ref s2.heap.objs.size)) Q E { s2 with heap := s2.heap.push { cls := .type "slice", data := .fields #[.none, .none, .int (-1) t] } }
    refine tail_any (ops := [.ref s2.heap.objs.size, .ref a]) pll.isList.typeIs slot_list_getitem.lookup ?_ (hsub _ _)
    refine lf (wpAny_getItem_list_slice pll.isList (Heap.IsSliceOf.new ..) .none .none (.int (-1) t) (by simp) ?_ (by omega))
    rw [PySem.W.krv_pick]
    exact O4.pushL (t := s2.toks) I4.hinv (by simpa using q.reverse)
  · exact absurd rfl O1.nb
end
end Qo
-- QS
set_option maxRecDepth 100000
set_option maxHeartbeats 4000000
/-! QS: stores, while, methods of lists and texts. -/
namespace Qo
open PySem PySem.Spec PyProof.Rows

section
variable {X : Cx} {G : Gh} {σ : St} {hs : Hs} {s : Shared} {E : Value → Shared → Prop}
/-! ### stores -/
def sAsg (m : SE) (g : SG) : SS := fun σ hs => (m σ hs).bind fun d h => (g d σ h).bind fun σ1 h => .ok (.nx, σ1) h
theorem ps_asg {tg e : Expr} {m : SE} {g : SG} {pos : Pos} (he : PE X e m) (hg : PG X tg g) (hs' : swapsWithSole [tg] e pos.line X.env = pure false) (hw : swappedStores [tg] e X.env = pure none) (h1 : (assignEach [tg] X.env).map (·.2) = [assign tg X.env]) : PS X (.Assign [tg] e pos) (sAsg m g) := by
  refine ⟨fun G σ hs s I Q E O => wpAny_Assign_stores ((he.run G σ hs s I).thnZ O fun d h1' v s1 G1 _ e1 r1 O1 => ?_) hs' hw⟩
  rw [h1]
  have I1 := I.step e1
  exact (hg.run G1 σ h1' s1 d v I1 r1).thn O1 fun σ1 h2 _ s2 G2 _ e2 f2 O2 => O2.ok _ _ rfl _ _ _ (Ev.refl e2.inv) ⟨f2, trivial⟩
theorem ps_set {x : Str} {i : Nat} {e : Expr} {m : SE} {px pos : Pos} (hi : X.vars.lookup x = some i) (hx : Loc X x) (he : PE X e m) (hs' : swapsWith e (some (.Name x px)) pos.line X.env = pure false) : PS X (.Assign [.Name x px] e pos) (sAsg m (gName i)) := by
  refine ⟨fun G σ hs s I Q E O => wpAny_Assign_Name ((he.run G σ hs s I).thnZ O fun d h1' v s1 G1 _ e1 r1 O1 => ?_) hs'⟩
  exact store_ok (I.step e1) hi hx r1 fun s2 e2 f2 => O1.ok _ _ rfl _ _ _ e2 ⟨f2, trivial⟩
/-- a, b = x, y with plain local names -/
def sPar (i j : Nat) (a : SA) : SS := fun σ hs => (a σ hs).bind fun ds h => match ds with
  | [v, w] => .ok (.nx, (σ.set j (some w)).set i (some v)) h
  | _ => .bad
theorem ps_par {i j : Nat} {x y : Str} {a b : Expr} {ma : SA} {px py pt pos pt2 : Pos} {kt k2 : Nat} (hi : X.vars.lookup x = some i) (hj : X.vars.lookup y = some j) (hx : Loc X x) (hy : Loc X y) (ha : PA X [a, b] ma)
    (hw : swappedStores [.Tuple [.Name x px, .Name y py] kt pt] (.Tuple [a, b] k2 pt2) X.env = pure (some [x, y])) (hs' : swapsWithSole [.Tuple [.Name x px, .Name y py] kt pt] (.Tuple [a, b] k2 pt2) pos.line X.env = pure false) :
    PS X (.Assign [.Tuple [.Name x px, .Name y py] kt pt] (.Tuple [a, b] k2 pt2) pos) (sPar i j ma) := by
  refine ⟨fun G σ hs s I Q E O => ?_⟩
  rw [exec_Assign_arm]
  refine wpAny_bind (wpAny_standAt ?_)
  rw [hs']
  refine wpAny_bind (wpAny_pure ?_)
  rw [if_neg (by decide)]
  refine wpAny_bind (Tuple_ ((ha.run _ G σ hs s I).thnZ O fun ds h1 us s1 G1 eds e1 r1 O1 => ?_))
  split at O1
  · rename_i v w
    obtain ⟨u1, u2, rfl, rv, rw'⟩ := vrs2 r1
    refine lf (wpAny_newObj_type ?_ (by show 2 ≤ sizeLine; rw [sizeLine_eq]; decide))
    have I1 := I.step e1
    have e2 : Ev X.S noZ G1 h1 s1 G1 h1 { s1 with heap := s1.heap.push { cls := .type "tuple", data := .seq [u1, u2].toArray } } := Ev.kept (X := X) (t := s1.toks) I1.hinv fun b o e => Heap.get?_push_of_some _ e
    rw [hw]
    refine wpAny_bind (wpAny_pure ?_)
    show wpAny (model X.S.P X.S.w) X.A (do rule "assign.swapped-stores"; let items ← unpackItems (.ref s1.heap.objs.size) 2 none; assignInOrder [fun v => bindName X.env y v, fun v => bindName X.env x v] items.reverse; pure Flow.next) _ _ _
    refine wpAny_bind (wpAny_rule (wpAny_bind (lf (unpackItems_tuple (items := #[u1, u2]) I.ok.hd (IsTup.new s1.heap _) fun h' hx' => ?_))))
    have I2 := I1.step e2
    have e3 : Ev X.S noZ G1 h1 { s1 with heap := s1.heap.push { cls := .type "tuple", data := .seq [u1, u2].toArray } } G1 h1 { s1 with heap := h' } := Ev.kept (X := X) (t := s1.toks) I2.hinv fun b o e => hx' b o (Nat.ne_of_lt (Heap.lt_size e)) e
    have I3 := I2.step e3
    have rv3 := VR.mono (I2.grow e3) _ _ (VR.mono (I1.grow e2) _ _ rv)
    have rw3 := VR.mono (I2.grow e3) _ _ (VR.mono (I1.grow e2) _ _ rw')
    show wpAny _ _ (assignInOrder [fun v => bindName X.env y v, fun v => bindName X.env x v] [u2, u1] >>= fun _ => pure Flow.next) _ _ _
    refine wpAny_bind (assignInOrder_cons (wpAny_bindName (store_ok I3 hj hy rw3 fun s4 e4 f4 => ?_)))
    have I4 := I3.stepS e4 f4
    refine assignInOrder_cons (wpAny_bindName (store_ok I4 hi hx (VR.mono (I3.growS e4) _ _ rv3) fun s5 e5 f5 => lf (assignInOrder_nil (wpAny_pure ?_))))
    have O2 : Out X X.own (SR X) G1 h1 s1 (.ok (.nx, (σ.set j (some w)).set i (some v)) h1) Q E := O1
    exact O2.ok _ _ rfl _ _ _ ((((e2.trans e3 (Z2 := noZ) (fun _ _ _ z => z) fun _ _ _ z => z).trans e4 (Z2 := X.own) (fun _ _ _ z => z.elim) fun _ _ _ z => z)).trans e5 (Z2 := X.own) (fun _ _ _ z => z) fun _ _ _ z => z) ⟨f5, trivial⟩
  · exact absurd rfl O1.nb
/-- name op= e, ints; texts -/
def dIAdd : D → D → Hs → Res D := fun x y hs => match x, y with
  | .int i, .int j => .ok (.int (i + j)) hs
  | _, _ => .bad
def dISub : D → D → Hs → Res D := fun x y hs => match x, y with
  | .int i, .int j => .ok (.int (i - j)) hs
  | _, _ => .bad
theorem ip_add : OpR X (inplaceOp .Add) dIAdd := by
  intro G σ hs s x y u v I r1 r2 Q E O
  unfold dIAdd at O
  split at O
  · obtain ⟨t, rfl⟩ := int_of r1
    obtain ⟨t', rfl⟩ := int_of r2
    exact lf (iadd_int (O.i I.hinv _))
  · exact absurd rfl O.nb
theorem ip_sub : OpR X (inplaceOp .Sub) dISub := by
  intro G σ hs s x y u v I r1 r2 Q E O
  unfold dISub at O
  split at O
  · obtain ⟨t, rfl⟩ := int_of r1
    obtain ⟨t', rfl⟩ := int_of r2
    exact lf (isub_int (O.i I.hinv _))
  · exact absurd rfl O.nb
def sAug (i : Nat) (m : SE) (f : D → D → Hs → Res D) : SS := fun σ hs => match σ[i]? with
  | some (some x) => (m σ hs).bind fun y h => (f x y h).bind fun z h => .ok (.nx, σ.set i (some z)) h
  | _ => .bad
theorem ps_aug {i : Nat} {x : Str} {e : Expr} {m : SE} {op : Operator} {f : D → D → Hs → Res D} {px pos : Pos} (hi : X.vars.lookup x = some i) (hx : Loc X x) (he : PE X e m) (ho : OpR X (inplaceOp op) f) : PS X (.AugAssign (.Name x px) op e pos) (sAug i m f) := by
  refine ⟨fun G σ hs s I Q E O => ?_⟩
  unfold sAug at O
  split at O
  · rename_i d ed
    obtain ⟨mm, hn, hl⟩ := id I.fr.loc
    have vis : L2.Vis X.env.scope x := by rcases hx with k | k; exact .inl k; exact .inr (.inl k.1)
    obtain ⟨u, r, l⟩ := hl x i d hi ed vis
    refine wpAny_AugAssign_Name ?_
    have go : wpAny (model X.S.P X.S.w) X.A (eval e X.env) (fun w s₂ => wpAny (model X.S.P X.S.w) X.A (inplaceOp op u w) (fun r s₃ => wpAny (model X.S.P X.S.w) X.A (storeName X.env x r) (fun _ => Q .next) E s₃) E s₂) E s := by
      refine (he.run G σ hs s I).thnZ O fun y h1 w s1 G1 _ e1 r1 O1 => ?_
      have I1 := I.step e1
      refine Sat.thnZ (R := VRX X) (fun Q E O => ho G1 σ h1 s1 d y u w I1 (VR.mono (I.grow e1) _ _ r) r1 Q E O) O1 fun z h2 zv s2 G2 _ e2 r2 O2 => ?_
      exact store_ok (I1.step e2) hi hx r2 fun s3 e3 f3 => O2.ok _ _ rfl _ _ _ e3 ⟨f3, trivial⟩
    rcases l with ⟨hk, hm⟩ | ⟨hk, c, hc, hcell⟩
    · exact lf (wpAny_loadName_local I.ok.kind hk hn hm go)
    · rcases hk with hk | hk
      · exact lf (wpAny_loadName_cell I.ok.kind hk hc hcell go)
      · have hk : X.env.scope.names.lookup x = some .free := hk
        rcases hx with k | k
        · rw [k] at hk; cases hk
        · rw [k.1] at hk; cases hk
  · exact absurd rfl O.nb
/-! ### items stored -/
def setC (o i v : D) (hs : Hs) : Res Unit := match o, i with
  | .ref p, .int k => match hs[p]? with
    | some (false, .lst xs) => match L2.ixN xs.length k with
      | some j => .ok () (hs.set p (false, .lst (xs.set j v)))
      | none => .bad
    | _ => .bad
  | _, _ => .bad
def gSub (mo mi : SE) : SG := fun v σ hs => (mo σ hs).bind fun o h => (mi σ h).bind fun i h => (setC o i v h).bind fun _ h => .ok σ h
theorem cell_lst {i : Nat} {u : Value} {xs : List D} {f : Bool} (I : HInv X.S G hs s.heap) (r : VR X.S G s.heap (.ref i) u) (hc : hs[i]? = some (f, .lst xs)) :
    ∃ a its n, u = .ref a ∧ G.mu[i]? = some (a, a) ∧ s.heap.get? a = some { cls := .type "list", data := .seq its n } ∧ xs.length ≤ sizeLine ∧ its.size = xs.length ∧ VRs X.S G s.heap xs its.toList := by
  rw [VR] at r
  obtain ⟨⟨a, b⟩, e, rfl⟩ := r
  obtain ⟨h1, hz, its, ⟨n, hn⟩, q⟩ := I.cell i (a, b) f _ e hc
  have h1 : b = a := h1
  subst h1
  have := q.len
  rw [Array.length_toList] at this
  exact ⟨b, its, n, rfl, e, hn, hz, this, q⟩
theorem lst_upd {i : Nat} {a : Addr} {xs ys : List D} {its its' : Array Value} {n : Nat} {g : Array Value → Array Value} {t : Nat} (I : HInv X.S G hs s.heap) (hm : G.mu[i]? = some (a, a)) (hc : hs[i]? = some (false, .lst xs)) (ha : s.heap.get? a = some { cls := .type "list", data := .seq its n })
    (hg : g its = its') (hz : ys.length ≤ sizeLine) (r : VRs X.S G s.heap ys its'.toList) : Ev X.S noZ G hs s G (hs.set i (false, .lst ys)) { s with heap := s.heap.update a (Obj.mapSeq g), toks := t } := by
  have q := PySem.IsL.update ha g
  rw [hg] at q
  have k : ∀ b o, b ≠ a → s.heap.get? b = some o → (s.heap.update a (Obj.mapSeq g)).get? b = some o := fun b o h x => (Heap.get?_update_other s.heap (Obj.mapSeq g) (Ne.symm h)).trans x
  have ni := (I.free i (a, a) _ hm hc).1
  refine Ev.wrCell (X := X) I hm hc (fun b o h1 _ x => k b o h1 x) ⟨rfl, hz, its', ⟨_, q⟩, VRs.mono ⟨fun _ x => x, fun b o x y => k b o (fun z => ni (z ▸ x)) y, fun _ _ x => x⟩ _ _ r⟩
theorem pg_sub {o i : Expr} {mo mi : SE} {pos : Pos} (ho : PE X o mo) (hi : PE X i mi)
    (ha : ∀ v, assign (.Subscript o i pos) X.env v = (do
      let ov ← holding [v] (eval o X.env)
      let iv ← holding [v, ov] (eval i X.env)
      standAt pos
      holding [v, ov, iv] (setItem ov iv v)
      release [v, ov, iv] [])) : PG X (.Subscript o i pos) (gSub mo mi) := by
  refine ⟨fun G σ hs s d u I r Q E O => ?_⟩
  rw [ha]
  refine wpAny_bind (wpAny_holding ((ho.run G σ hs s I).thnZ O fun x h1 ov s1 G1 ex1 e1 r1 O1 => ?_))
  have I1 := I.step e1
  refine wpAny_bind (wpAny_holding ((hi.run G1 σ h1 s1 I1).thnZ O1 fun y h2 iv s2 G2 ex2 e2 r2 O2 => ?_))
  have I2 := I1.step e2
  refine wpAny_bind (wpAny_standAt (wpAny_bind (wpAny_holding ?_)))
  have rx := VR.mono (I1.grow e2) _ _ r1
  have rd := VR.mono (I1.grow e2) _ _ (VR.mono (I.grow e1) _ _ r)
  unfold setC at O2
  split at O2
  · rename_i p k
    split at O2
    · rename_i xs hc
      split at O2
      · rename_i j hj
        obtain ⟨a, its, n, rfl, hm, hh, hz, hsz, q⟩ := cell_lst I2.hinv rx hc
        obtain ⟨t, rfl⟩ := int_of r2
        obtain ⟨q1, q2, q3, q4⟩ := L2.ixN_seq hj
        have hn := line63
        have e3 := lst_upd (t := s2.toks) (ys := xs.set j d) (its' := its.setIfInBounds j u) (g := (·.setIfInBounds j u)) I2.hinv hm hc hh rfl (by rw [List.length_set]; exact hz) (by rw [Array.toList_setIfInBounds]; exact q.set rd j)
        have fin : wpAny (model X.S.P X.S.w) X.A (release [u, .ref a, .int k t] []) Q E { s2 with heap := s2.heap.update a (Obj.mapSeq (·.setIfInBounds j u)) } := wpAny_release (O2.ok _ _ rfl () _ _ (e3.weak fun _ _ _ z => z.elim) (I2.step e3).fr)
        by_cases h0 : 0 ≤ k
        · have hk : k.toNat = j := by
            rw [seqIndex_of h0 q4] at q1
            exact Option.some.inj q1
          exact lf (PySem.W.ki_setAt hh h0 (by omega) (by rw [hsz]; exact q4) (by rw [hk]; exact fin))
        · have hk : (k + (its.size : Int)).toNat = j := by
            rw [seqIndex_neg (by omega) q3] at q1
            rw [hsz]
            exact Option.some.inj q1
          exact lf (PySem.W.ki_setBack hh (by omega) (by rw [hsz]; exact q3) (by omega) (by rw [hk]; exact fin))
      · exact absurd rfl O2.nb
    · exact absurd rfl O2.nb
  · exact absurd rfl O2.nb
/-! ### while -/
def whGo (c : ST) (b : SS) : Nat → SS
  | 0, _, _ => .bad
  | n + 1, σ, hs => (c σ hs).bind fun t h => if t = true then (b σ h).bind fun r h2 => match r.1 with
      | .nx => whGo c b n r.2 h2
      | .ct => whGo c b n r.2 h2
      | .bk => .ok (.nx, r.2) h2
      | .rt d => .ok (.rt d, r.2) h2
    else .ok (.nx, σ) h
theorem whGo_mono {c : ST} {b : SS} : ∀ {n : Nat} {σ : St} {hs : Hs}, whGo c b n σ hs ≠ .bad → whGo c b (n + 1) σ hs = whGo c b n σ hs
  | 0, σ, hs, h => absurd rfl h
  | n + 1, σ, hs, h => by
    rw [whGo, whGo]
    rw [whGo] at h
    cases e : c σ hs with
    | bad => rfl
    | exc _ _ => rfl
    | ok t h1 =>
      rw [e] at h
      simp only [Res.bind_ok] at h ⊢
      cases t with
      | false => rfl
      | true =>
        simp only [if_true] at h ⊢
        cases e2 : b σ h1 with
        | bad => rfl
        | exc _ _ => rfl
        | ok r h2 =>
          rw [e2] at h
          simp only [Res.bind_ok] at h ⊢
          obtain ⟨f, σ2⟩ := r
          cases f with
          | nx => exact whGo_mono h
          | ct => exact whGo_mono h
          | bk => rfl
          | rt d => rfl
theorem whGo_le {c : ST} {b : SS} {n m : Nat} {σ : St} {hs : Hs} (h : whGo c b n σ hs ≠ .bad) (l : n ≤ m) : whGo c b m σ hs = whGo c b n σ hs := by
  induction l with
  | refl => rfl
  | step l ih => rw [whGo_mono (by rw [ih]; exact h), ih]
open Classical in
noncomputable def sWhile (c : ST) (b : SS) : SS := fun σ hs => if h : ∃ n, whGo c b n σ hs ≠ .bad then whGo c b h.choose σ hs else .bad
theorem sWhile_of {c : ST} {b : SS} {n : Nat} {σ : St} {hs : Hs} (h : whGo c b n σ hs ≠ .bad) : sWhile c b σ hs = whGo c b n σ hs := by
  have ex : ∃ n, whGo c b n σ hs ≠ .bad := ⟨n, h⟩
  unfold sWhile
  rw [dif_pos ex]
  have hc := ex.choose_spec
  rcases Nat.le_total n ex.choose with l | l
  · exact whGo_le h l
  · exact (whGo_le hc l).symm
theorem sWhile_nb {c : ST} {b : SS} {σ : St} {hs : Hs} (h : sWhile c b σ hs ≠ .bad) : ∃ n, whGo c b n σ hs ≠ .bad := Classical.byContradiction fun ne => h (by unfold sWhile; rw [dif_neg ne])
theorem sWhile_eq (c : ST) (b : SS) (σ : St) (hs : Hs) : sWhile c b σ hs = (c σ hs).bind fun t h => if t = true then (b σ h).bind fun r h2 => match r.1 with
      | .nx => sWhile c b r.2 h2
      | .ct => sWhile c b r.2 h2
      | .bk => .ok (.nx, r.2) h2
      | .rt d => .ok (.rt d, r.2) h2
    else .ok (.nx, σ) h := by
  have key : ∀ n, whGo c b (n + 1) σ hs ≠ .bad → whGo c b (n + 1) σ hs = (c σ hs).bind fun t h => if t = true then (b σ h).bind fun r h2 => match r.1 with
      | .nx => sWhile c b r.2 h2
      | .ct => sWhile c b r.2 h2
      | .bk => .ok (.nx, r.2) h2
      | .rt d => .ok (.rt d, r.2) h2
    else .ok (.nx, σ) h := fun n h => by
    rw [whGo] at h ⊢
    cases e : c σ hs with
    | bad => rfl
    | exc _ _ => rfl
    | ok t h1 =>
      rw [e] at h
      simp only [Res.bind_ok] at h ⊢
      cases t with
      | false => rfl
      | true =>
        simp only [if_true] at h ⊢
        cases e2 : b σ h1 with
        | bad => rfl
        | exc _ _ => rfl
        | ok r h2 =>
          rw [e2] at h
          simp only [Res.bind_ok] at h ⊢
          obtain ⟨f, σ2⟩ := r
          cases f with
          | nx => exact (sWhile_of h).symm
          | ct => exact (sWhile_of h).symm
          | bk => rfl
          | rt d => rfl
  by_cases hb : ∃ n, whGo c b n σ hs ≠ .bad
  · obtain ⟨n, hn⟩ := hb
    have h1 : whGo c b (n + 1) σ hs ≠ .bad := by rw [whGo_mono hn]; exact hn
    rw [sWhile_of h1]
    exact key n h1
  · have : sWhile c b σ hs = .bad := by unfold sWhile; rw [dif_neg hb]
    rw [this]
    refine Classical.byContradiction fun ne => hb ?_
    have ne' := Ne.symm ne
    cases e : c σ hs with
    | bad => rw [e] at ne'; exact absurd rfl ne'
    | exc _ _ => exact ⟨1, by rw [whGo, e]; simp⟩
    | ok t h1 =>
      rw [e] at ne'
      simp only [Res.bind_ok] at ne'
      cases t with
      | false => exact ⟨1, by rw [whGo, e]; simp⟩
      | true =>
        simp only [if_true] at ne'
        cases e2 : b σ h1 with
        | bad => rw [e2] at ne'; exact absurd rfl ne'
        | exc _ _ => exact ⟨1, by rw [whGo, e]; simp [e2]⟩
        | ok r h2 =>
          rw [e2] at ne'
          obtain ⟨f, σ2⟩ := r
          simp only [Res.bind_ok] at ne'
          cases f with
          | nx =>
            obtain ⟨n, hn⟩ := sWhile_nb ne'
            exact ⟨n + 1, by rw [whGo, e]; simpa [e2] using hn⟩
          | ct =>
            obtain ⟨n, hn⟩ := sWhile_nb ne'
            exact ⟨n + 1, by rw [whGo, e]; simpa [e2] using hn⟩
          | bk => exact ⟨1, by rw [whGo, e]; simp [e2]⟩
          | rt d => exact ⟨1, by rw [whGo, e]; simp [e2]⟩
theorem ps_while {c : Expr} {body : List Stmt} {mc : ST} {mb : SS} {pos : Pos} (hc : PT X c mc) (hb : PSs X body mb) : PS X (.While c body [] pos) (sWhile mc mb) := by
  refine ⟨fun G σ hs s I Q E O => wpAny_While ?_⟩
  obtain ⟨n0, hn0⟩ := sWhile_nb O.nb
  rw [sWhile_of hn0] at O
  generalize hr0 : whGo mc mb n0 σ hs = r0 at O
  refine codeAny_whileLoop (fun n s' => ∃ G' σ' hs', Inv X G' σ' hs' s' ∧ Ev X.S X.own G hs s G' hs' s' ∧ whGo mc mb n σ' hs' = r0) ?_ n0 ⟨G, σ, hs, I, Ev.refl I.hinv, hr0⟩
  rintro n s1 ⟨G1, σ1, h1, I1, ev, hr⟩
  cases n with
  | zero => exact absurd hr.symm O.nb
  | succ n =>
    rw [whGo] at hr
    have nx := O.exc
    have nb := O.nb
    rw [← hr] at nx nb
    refine (hc.run G1 σ1 h1 s1 I1).go (bind_nx nx) (bind_nb nb) fun t h2 t' s2 G2 et e2 q2 => ?_
    subst q2
    rw [et] at nx nb hr
    simp only [Res.bind_ok] at nx nb hr
    have I2 := I1.step e2
    have ev2 := ev.trans e2 (Z2 := X.own) (fun _ _ _ z => z) fun _ _ _ z => z.elim
    cases t' with
    | false =>
      simp only [Bool.false_eq_true, if_false] at nx nb hr ⊢
      exact wpAny_execs_nil (O.ok _ _ hr.symm _ _ G2 ev2 ⟨I2.fr, trivial⟩)
    | true =>
      simp only [if_true] at nx nb hr ⊢
      refine (hb.run G2 σ1 h2 s2 I2).go (bind_nx nx) (bind_nb nb) fun r h3 f s3 G3 er e3 r3 => ?_
      obtain ⟨fl, σ3⟩ := r
      obtain ⟨f3, q3⟩ := r3
      rw [er] at nx nb hr
      simp only [Res.bind_ok] at nx nb hr
      have I3 := I2.stepS e3 f3
      have ev3 := ev2.trans e3 (Z2 := X.own) (fun _ _ _ z => z) fun _ _ _ z => z
      cases fl with
      | nx =>
        cases f with
        | next => exact ⟨n, Nat.lt_succ_self _, G3, σ3, h3, I3, ev3, hr⟩
        | _ => exact False.elim q3
      | ct =>
        cases f with
        | cont => exact ⟨n, Nat.lt_succ_self _, G3, σ3, h3, I3, ev3, hr⟩
        | _ => exact False.elim q3
      | bk =>
        cases f with
        | brk => exact O.ok _ _ hr.symm _ _ _ ev3 ⟨f3, trivial⟩
        | _ => exact False.elim q3
      | rt d =>
        cases f with
        | ret u => exact O.ok _ _ hr.symm _ _ _ ev3 ⟨f3, q3⟩
        | _ => exact False.elim q3
end
end Qo
-- QT
set_option maxRecDepth 100000
set_option maxHeartbeats 4000000
/-! QT: methods of lists and texts. -/
namespace Qo
open PySem PySem.Spec PyProof.Rows

section
variable {X : Cx} {G : Gh} {σ : St} {hs : Hs} {s : Shared} {E : Value → Shared → Prop}
def MtR (X : Cx) (id : String) (f : D → List D → Hs → Res D) : Prop :=
  ∀ (G : Gh) (hs : Hs) (s : Shared) (x : D) (v : Value) (ds : List D) (us : List Value) (Q : Value → Shared → Prop) (E : Value → Shared → Prop), Bas X.S X.A G hs s → VR X.S G s.heap x v → VRs X.S G s.heap ds us → Out X noZ (VRX X) G hs s (f x ds hs) Q E → wpAny (model X.S.P X.S.w) X.A (call (.builtin id) (v :: us) []) Q E s
def isL (hs : Hs) (d : D) : Bool := (asL hs d).isSome
def eLm0 (f : D → List D → Hs → Res D) (o : SE) : SE := fun σ hs => (o σ hs).bind fun x h => grd (isL h x = true) (f x [] h)
def eLm1 (f : D → List D → Hs → Res D) (o a : SE) : SE := fun σ hs => (o σ hs).bind fun x h => grd (isL h x = true) ((a σ h).bind fun y h => f x [y] h)
theorem isL_at {x : D} {v : Value} (I : HInv X.S G hs s.heap) (r : VR X.S G s.heap x v) (h : isL hs x = true) : s.TypeIs v "list" ∧ ∀ a, v = .ref a → ∃ ob, s.heap.get? a = some ob ∧ ob.dict = none := by
  unfold isL at h
  obtain ⟨xs, e⟩ := Option.isSome_iff_exists.mp h
  obtain ⟨a, its, rfl, ⟨n, pl⟩, hz, hsz, q⟩ := asL_at (X := X) I r e
  exact ⟨⟨_, pl, rfl⟩, fun b e => by cases e; exact ⟨_, pl, rfl⟩⟩
theorem pe_lm0 {o : Expr} {mo : SE} {f : D → List D → Hs → Res D} {name : Str} {id : String} {apos pos : Pos} (slot : Slot "list" name id) (ty : typeOf (.builtin id) = pure (.type "method_descriptor")) (rule : MtR X id f) (ho : PE X o mo)
    (hbase : attributeBase o name X.env (eval o X.env) = eval o X.env) (hline : (apos.endLine == pos.line) = true) : PE X (.Call (.Attribute o name apos) [] [] pos) (eLm0 f mo) := by
  refine ⟨fun G σ hs s I Q E O => Call_method0 hbase hline ((ho.run G σ hs s I).thn O fun x h1 v s1 G1 _ e1 r1 O1 => ?_)⟩
  obtain ⟨hl, O1⟩ := O1.grd
  have I1 := I.step e1
  obtain ⟨t1, t2⟩ := isL_at (X := X) I1.hinv r1 hl
  exact ⟨"list", _, PySem.F.plainAttrs_list, slot, ty, t1, t2, Calls.callWith_builtin rfl (lf (PySem.evalArgs_none (rule G1 h1 s1 x v [] [] Q E I1.bas r1 .nil O1)))⟩
theorem pe_lm1 {o e : Expr} {mo me : SE} {f : D → List D → Hs → Res D} {name : Str} {id : String} {apos pos : Pos} (slot : Slot "list" name id) (ty : typeOf (.builtin id) = pure (.type "method_descriptor")) (rule : MtR X id f) (ho : PE X o mo) (he : PE X e me)
    (hs' : starEach [e] X.env = [(false, eval e X.env)]) (hbase : attributeBase o name X.env (eval o X.env) = eval o X.env) (hline : (apos.endLine == pos.line) = true) : PE X (.Call (.Attribute o name apos) [e] [] pos) (eLm1 f mo me) := by
  refine ⟨fun G σ hs s I Q E O => Call_method1 hbase hs' hline ((ho.run G σ hs s I).thn O fun x h1 v s1 G1 _ e1 r1 O1 => ?_)⟩
  obtain ⟨hl, O1⟩ := O1.grd
  have I1 := I.step e1
  obtain ⟨t1, t2⟩ := isL_at (X := X) I1.hinv r1 hl
  refine ⟨"list", _, PySem.F.plainAttrs_list, slot, ty, t1, t2, Calls.callWith_builtin rfl (Calls.evalArgs_plain (Calls.spliced_cons ((he.run G1 σ h1 s1 I1).thn O1 fun y h2 u s2 G2 _ e2 r2 O2 => Calls.spliced_nil ?_)))⟩
  have I2 := I1.step e2
  exact rule G2 h2 s2 x v [y] [u] Q E I2.bas (VR.mono (I1.grow e2) _ _ r1) (.one r2) O2
def eSm0 (f : D → List D → Hs → Res D) (o : SE) : SE := fun σ hs => (o σ hs).bind fun x h => match x with | .str _ => f x [] h | _ => .bad
def eSm1 (f : D → List D → Hs → Res D) (o a : SE) : SE := fun σ hs => (o σ hs).bind fun x h => match x with | .str _ => (a σ h).bind fun y h => f x [y] h | _ => .bad
theorem pe_sm0 {o : Expr} {mo : SE} {f : D → List D → Hs → Res D} {name : Str} {id : String} {apos pos : Pos} (slot : Slot "str" name id) (ty : typeOf (.builtin id) = pure (.type "method_descriptor")) (rule : MtR X id f) (ho : PE X o mo)
    (hbase : attributeBase o name X.env (eval o X.env) = eval o X.env) (hline : (apos.endLine == pos.line) = true) : PE X (.Call (.Attribute o name apos) [] [] pos) (eSm0 f mo) := by
  refine ⟨fun G σ hs s I Q E O => Call_method0 hbase hline ((ho.run G σ hs s I).thn O fun x h1 v s1 G1 _ e1 r1 O1 => ?_)⟩
  have I1 := I.step e1
  cases x with
  | str z =>
    obtain ⟨t, rfl⟩ := str_of r1
    exact ⟨"str", _, F.plainAttrs_str, slot, ty, typeIs_str _ _ _, (fun _ e => nomatch e), Calls.callWith_builtin rfl (lf (PySem.evalArgs_none (rule G1 h1 s1 (.str z) _ [] [] Q E I1.bas r1 .nil O1)))⟩
  | _ => exact absurd rfl O1.nb
theorem pe_sm1 {o e : Expr} {mo me : SE} {f : D → List D → Hs → Res D} {name : Str} {id : String} {apos pos : Pos} (slot : Slot "str" name id) (ty : typeOf (.builtin id) = pure (.type "method_descriptor")) (rule : MtR X id f) (ho : PE X o mo) (he : PE X e me)
    (hs' : starEach [e] X.env = [(false, eval e X.env)]) (hbase : attributeBase o name X.env (eval o X.env) = eval o X.env) (hline : (apos.endLine == pos.line) = true) : PE X (.Call (.Attribute o name apos) [e] [] pos) (eSm1 f mo me) := by
  refine ⟨fun G σ hs s I Q E O => Call_method1 hbase hs' hline ((ho.run G σ hs s I).thn O fun x h1 v s1 G1 _ e1 r1 O1 => ?_)⟩
  have I1 := I.step e1
  cases x with
  | str z =>
    obtain ⟨t, rfl⟩ := str_of r1
    refine ⟨"str", _, F.plainAttrs_str, slot, ty, typeIs_str _ _ _, (fun _ e => nomatch e), Calls.callWith_builtin rfl (Calls.evalArgs_plain (Calls.spliced_cons ((he.run G1 σ h1 s1 I1).thn O1 fun y h2 u s2 G2 _ e2 r2 O2 => Calls.spliced_nil ?_)))⟩
    have I2 := I1.step e2
    exact rule G2 h2 s2 (.str z) _ [y] [u] Q E I2.bas (VR.mono (I1.grow e2) _ _ r1) (.one r2) O2
  | _ => exact absurd rfl O1.nb
/-! ### lists -/
def mAppend : D → List D → Hs → Res D := fun x ds hs => match x, ds with
  | .ref i, [d] => match hs[i]? with
    | some (false, .lst xs) => grd (xs.length < sizeLine) (.ok .non (hs.set i (false, .lst (xs ++ [d]))))
    | _ => .bad
  | _, _ => .bad
theorem mt_append : MtR X "list.append" mAppend := by
  intro G hs s x v ds us Q E B r rs O
  unfold mAppend at O
  split at O
  · rename_i i d
    obtain ⟨u, rfl, ru⟩ := vrs1 rs
    split at O
    · rename_i xs hc
      obtain ⟨hz1, O⟩ := O.grd
      obtain ⟨a, its, n, rfl, hm, hh, hz, hsz, q⟩ := cell_lst B.hinv r hc
      refine lf (call_meets F.slot_list_append ⟨_, hh, rfl⟩ F.entry_list_append (F.args_list_append_2 _ _) (PySem.list_append a its n u (by omega)) ⟨hh, ?_⟩)
      exact O.ok _ _ rfl _ _ _ (lst_upd B.hinv hm hc hh rfl (by rw [List.length_append, List.length_singleton]; omega) (by rw [Array.toList_push]; exact q.append (.one ru))) vr_non
    · exact absurd rfl O.nb
  · exact absurd rfl O.nb
def mPop : D → List D → Hs → Res D := fun x ds hs => match x, ds with
  | .ref i, [] => match hs[i]? with
    | some (false, .lst xs) => match xs[xs.length - 1]? with
      | some d => .ok d (hs.set i (false, .lst xs.dropLast))
      | none => .bad
    | _ => .bad
  | _, _ => .bad
theorem mt_pop : MtR X "list.pop" mPop := by
  intro G hs s x v ds us Q E B r rs O
  unfold mPop at O
  split at O
  · rename_i i
    rw [VRs] at rs
    subst rs
    split at O
    · rename_i xs hc
      split at O
      · rename_i d hd
        obtain ⟨a, its, n, rfl, hm, hh, hz, hsz, q⟩ := cell_lst B.hinv r hc
        obtain ⟨u, hu, ru⟩ := q.get hd
        have hy' : its[its.size - 1]? = some u := by rw [hsz]; simpa using hu
        refine lf (call_meets F.slot_list_pop ⟨_, hh, rfl⟩ F.entry_list_pop (F.args_list_pop_1 _) (MeetsSeq.list_pop_last a its n u hy' (by omega)) ⟨hh, ?_⟩)
        have e3 := lst_upd (t := s.toks) (ys := xs.dropLast) (its' := its.toList.dropLast.toArray) (g := fun x => x.eraseIdxIfInBounds (its.size - 1)) B.hinv hm hc hh (by
          have : its = its.toList.toArray := by simp
          rw [this, List.size_toArray, List.eraseIdxIfInBounds_toArray, PyProof.Rows.Copied.eraseIdx_last]) (by rw [List.length_dropLast]; omega) (by simpa using q.dropLast)
        refine O.ok _ _ rfl _ _ _ e3 (VR.mono (e3.grow B.hinv fun _ z => z.elim) _ _ ru)
      · exact absurd rfl O.nb
    · exact absurd rfl O.nb
  · exact absurd rfl O.nb
def mExtend : D → List D → Hs → Res D := fun x ds hs => match x, ds with
  | .ref i, [d] => match hs[i]? with
    | some (false, .lst xs) => match asL hs d with
      | some ys => grd (xs.length + ys.length ≤ sizeLine) (.ok .non (hs.set i (false, .lst (xs ++ ys))))
      | none => .bad
    | _ => .bad
  | _, _ => .bad
theorem mt_extend : MtR X "list.extend" mExtend := by
  intro G hs s x v ds us Q E B r rs O
  unfold mExtend at O
  split at O
  · rename_i i d
    obtain ⟨u, rfl, ru⟩ := vrs1 rs
    split at O
    · rename_i xs hc
      split at O
      · rename_i ys ey
        obtain ⟨hz1, O⟩ := O.grd
        obtain ⟨a, its, n, rfl, hm, hh, hz, hsz, q⟩ := cell_lst B.hinv r hc
        obtain ⟨b, its2, rfl, ⟨n2, pl2⟩, hz2, hsz2, q2⟩ := asL_at (X := X) B.hinv ru ey
        have hlong : ¬ (!its.isEmpty && Builtin.List.listTooLong (its.size + its2.size)) = true := by
          rw [L2.notLongL (by omega), Bool.and_false]
          exact Bool.false_ne_true
        refine lf (call_meets F.slot_list_extend ⟨_, hh, rfl⟩ F.entry_list_extend (F.args_list_extend_2 _ _) (AutoSeq1.list_extend_list_list_0 a its n b its2 n2 hlong (by omega) (by omega)) ⟨hh, pl2, ?_⟩)
        exact O.ok _ _ rfl _ _ _ (lst_upd B.hinv hm hc hh rfl (by rw [List.length_append]; omega) (by rw [Array.toList_append]; exact q.append q2)) vr_non
      · exact absurd rfl O.nb
    · exact absurd rfl O.nb
  · exact absurd rfl O.nb
/-! ### texts -/
def mJoin : D → List D → Hs → Res D := fun x ds hs => match x, ds with
  | .str a, [d] => match asSq hs d with
    | some xs => match strsOf xs with
      | some ys => grd ((ys.map (·.length)).sum + ys.length * a.length ≤ 16777216) (.ok (.str (Txt.join a ys)) hs)
      | none => .bad
    | none => .bad
  | _, _ => .bad
theorem mt_join : MtR X "str.join" mJoin := by
  intro G hs s x v ds us Q E B r rs O
  unfold mJoin at O
  split at O
  · rename_i a d
    obtain ⟨t, rfl⟩ := str_of r
    obtain ⟨u, rfl, ru⟩ := vrs1 rs
    split at O
    · rename_i xs ex
      split at O
      · rename_i ys ey
        obtain ⟨hz, O⟩ := O.grd
        have lst : asL hs d = some xs → wpAny (model X.S.P X.S.w) X.A (call (.builtin "str.join") [.str a t, u] []) Q E s := fun e => by
          obtain ⟨b, its, rfl, pl, hz1, hsz, q⟩ := asL_at (X := X) B.hinv ru e
          exact lf (PyProof.Rows.join_list pl.isList (strs_at q ey) hz fun t' k => O.st B.hinv k)
        cases d with
        | tup zs =>
          cases ex
          obtain ⟨b, its, rfl, pl, hz1, hsz, q⟩ := tup_at ru
          exact lf (PyProof.Rows.join_tuple pl (strs_at q ey) hz fun t' k => O.st B.hinv k)
        | _ => exact lst ex
      · exact absurd rfl O.nb
    · exact absurd rfl O.nb
  · exact absurd rfl O.nb
end
end Qo
-- QU
set_option maxRecDepth 100000
set_option maxHeartbeats 4000000
/-! QU: attributes stored, instances made. -/
namespace Qo
open PySem PySem.Spec PyProof.Rows

def putK (f : Str) : List Str → List Str
  | [] => [f]
  | n :: ns => if n = f then n :: ns else n :: putK f ns
def putV {α : Type} (f : Str) (x : α) : List Str → List α → List α
  | [], _ => [x]
  | _, [] => [x]
  | n :: ns, v :: vs => if n = f then x :: vs else v :: putV f x ns vs
theorem put_len {α : Type} (f : Str) (x : α) : ∀ (ns : List Str) (vs : List α), vs.length = ns.length → (putV f x ns vs).length = (putK f ns).length
  | [], vs, h => by simp [putV, putK]
  | n :: ns, [], h => by simp at h
  | n :: ns, v :: vs, h => by
    rw [putV, putK]
    by_cases e : n = f
    · rw [if_pos e, if_pos e]; exact h
    · rw [if_neg e, if_neg e, List.length_cons, List.length_cons, put_len f x ns vs (by simpa using h)]
theorem putK_len (f : Str) : ∀ (ns : List Str), (putK f ns).length ≤ ns.length + 1
  | [] => by simp [putK]
  | n :: ns => by
    rw [putK]
    by_cases e : n = f
    · rw [if_pos e]; simp
    · rw [if_neg e]; have := putK_len f ns; simp; omega
theorem put_look {α : Type} (f : Str) (x : α) (y : Str) : ∀ (ns : List Str) (vs : List α), vs.length = ns.length → ((putK f ns).zip (putV f x ns vs)).lookup y = if y = f then some x else (ns.zip vs).lookup y
  | [], vs, h => by
    simp only [putK, putV, List.zip_cons_cons, List.lookup_cons, List.zip_nil_right, List.zip_nil_left, List.lookup_nil]
    by_cases e : y = f
    · simp [e]
    · have : (y == f) = false := by simp [e]
      rw [this, if_neg e]
  | n :: ns, [], h => by simp at h
  | n :: ns, v :: vs, h => by
    rw [putV, putK]
    by_cases e : n = f
    · rw [if_pos e, if_pos e]
      simp only [List.zip_cons_cons, List.lookup_cons]
      by_cases e2 : y = f
      · have : (y == n) = true := by simp [e, e2]
        rw [this, if_pos e2]
      · have : (y == n) = false := by simp [e, e2]
        rw [this, if_neg e2]
    · rw [if_neg e, if_neg e]
      simp only [List.zip_cons_cons, List.lookup_cons]
      rw [put_look f x y ns vs (by simpa using h)]
      by_cases e2 : y = n
      · have e3 : ¬ y = f := fun z => e (e2.symm.trans z)
        have : (y == n) = true := by simp [e2]
        simp only [this, if_neg e3]
      · have : (y == n) = false := by simp [e2]
        simp only [this]
section
variable {X : Cx} {G : Gh} {σ : St} {hs : Hs} {s : Shared} {E : Value → Shared → Prop} {k : Nat} {f C : Addr} {fd : FuncData} {ps : List Str} {fn : SF}
theorem VRs.put {S : Stat} {h : Heap} {n : Str} {x : D} {u : Value} (r : VR S G h x u) : ∀ {ns : List Str} {vs : List D} {us : List Value}, VRs S G h vs us → vs.length = ns.length → VRs S G h (putV n x ns vs) (putV n u ns us)
  | [], vs, us, q, l => by simp only [putV]; exact .one r
  | m :: ns, [], us, q, l => by simp at l
  | m :: ns, v :: vs, us, q, l => by
    rw [VRs] at q
    obtain ⟨w, t, rfl, q1, q⟩ := q
    rw [putV, putV]
    by_cases e : m = n
    · rw [if_pos e, if_pos e]; exact .cons r q
    · rw [if_neg e, if_neg e]; exact .cons q1 (VRs.put r q (by simpa using l))
/-- o.f = d, o a cell -/
def setF (ok : Addr → Bool) (n : Str) (o d : D) (hs : Hs) : Res Unit := match o with
  | .ref i => match hs[i]? with
    | some (false, .ins c ns vs) => grd (ok c = true ∧ ns.length < 1000 ∧ vs.length = ns.length) (.ok () (hs.set i (false, .ins c (putK n ns) (putV n d ns vs))))
    | _ => .bad
  | _ => .bad
/-- the classes whose instances take the attribute as it is -/
def SetOk (K : PySem.W.Frag) (n : Str) (ok : Addr → Bool) : Prop := ∀ c, ok c = true → L2.Cls K c ∧ L2.NoAttr K c n
theorem within_of {m : Str → Option Value} {ns : List Str} {us : List Value} (h : ∀ f, m f = (ns.zip us).lookup f) : PySem.Within m ns := fun y hy => by
  rw [h] at hy
  exact Classical.byContradiction fun z => hy (lookup_none z)
theorem set_field {n : Str} {ok : Addr → Bool} {o d : D} {ov u : Value} {Q : Unit → Shared → Prop} (T : SetOk X.S.K n ok) (B : Bas X.S X.A G hs s) (r : VR X.S G s.heap o ov) (rd : VR X.S G s.heap d u) (O : Out X noZ (fun _ _ _ _ => True) G hs s (setF ok n o d hs) Q E) :
    wpAny (model X.S.P X.S.w) X.A (setAttr ov n u) Q E s := by
  unfold setF at O
  split at O
  · rename_i i
    split at O
    · rename_i c ns vs hc
      obtain ⟨⟨h1, h2, h3⟩, O⟩ := O.grd
      obtain ⟨cl, na⟩ := T c h1
      rw [VR] at r
      obtain ⟨p, e, rfl⟩ := r
      obtain ⟨z, m, us, ob, l, t, q⟩ := B.hinv.cell i p false _ e hc
      have hl := sizeLine_eq
      refine lf (L2.set_map B.kIn ob cl.sa cl.po na.taker cl.hd (within_of t) (by omega) fun h' ob' sb => ?_)
      have kk : ∀ b o, b ≠ p.2 → s.heap.get? b = some o → h'.get? b = some o := fun b o h x => (sb.2 b h).trans x
      have ni := (B.hinv.free i p _ e hc).2
      have e1 := Ev.wrCell (X := X) (Z := noZ) (t := s.toks + 2) (c' := .ins c (putK n ns) (putV n d ns vs)) B.hinv e hc (fun b o _ h2 x => kk b o h2 x)
        ⟨by have := putK_len n ns; omega, _, putV n u ns us, ob', put_len n u ns us l, fun y => by rw [put_look n u y ns us l]; show (if y = n then some u else m y) = _; rw [t], VRs.mono ⟨fun _ x => x, fun b o x y => kk b o (fun z => ni (z ▸ x)) y, fun _ _ x => x⟩ _ _ (VRs.put rd q h3)⟩
      exact O.ok _ _ rfl () _ _ e1 trivial
    · exact absurd rfl O.nb
  · exact absurd rfl O.nb
def sFld (ok : Addr → Bool) (n : Str) (mo mv : SE) : SS := fun σ hs => (mv σ hs).bind fun d h => (mo σ h).bind fun o h => (setF ok n o d h).bind fun _ h => .ok (.nx, σ) h
theorem ps_fld {o e : Expr} {n : Str} {mo mv : SE} {ok : Addr → Bool} {p pos : Pos} (T : SetOk X.S.K n ok) (ho : PE X o mo) (hv : PE X e mv) (hs' : swapsWith e (some (.Attribute o n p)) pos.line X.env = pure false) : PS X (.Assign [.Attribute o n p] e pos) (sFld ok n mo mv) := by
  refine ⟨fun G σ hs s I Q E O => plainObj_wpAny_Assign_Attribute ((hv.run G σ hs s I).thnZ O fun d h1 u s1 G1 ed e1 r1 O1 => ?_) hs'⟩
  have I1 := I.step e1
  refine (ho.run G1 σ h1 s1 I1).thnZ O1 fun o' h2 ov s2 G2 eo e2 r2 O2 => ?_
  have I2 := I1.step e2
  refine Sat.thnZ (R := fun _ _ _ _ => True) (fun Q E O => set_field T I2.bas r2 (VR.mono (I1.grow e2) _ _ r1) O) O2 fun _ h3 _ s3 G3 _ e3 _ O3 => ?_
  exact O3.ok _ _ rfl _ _ _ (Ev.refl e3.inv) ⟨(I2.step e3).fr, trivial⟩
/-! ### new instances -/
def eMake (fz : Bool) (C : Addr) (fn : SF) (dd : List D) (a : SA) : SE := fun σ hs => (a σ hs).bind fun ds h => (fn (.ref h.length :: (ds ++ dd)) (h ++ [(false, .ins C [] [])])).bind fun r h2 => match r with
  | .non => finR (!fz) h.length (.ref h.length) h2
  | _ => .bad
theorem Rm.make {k : Nat} {A : Around} (r : Rm (k + 1) A) (C : Addr) (us : List Value) (kw : List (Str × Value)) : Rm k (A.under (.builtin "type.__call__" ⟨.ref C :: us, kw⟩)) := ⟨r.rm.make C us kw, r.gd⟩
theorem made_ev (I : HInv X.S G hs s.heap) : Ev X.S noZ G hs s ⟨G.mu ++ [(s.heap.objs.size + 1, s.heap.objs.size)], G.im⟩ (hs ++ [(false, .ins C [] [])]) { s with heap := (s.heap.push PySem.W.emptyDict).push (PySem.W.instObj C s.heap.objs.size) } := by
  have e1 : (s.heap.push PySem.W.emptyDict).get? s.heap.objs.size = some PySem.W.emptyDict := Heap.get?_push_size s.heap rfl
  have e2 : ((s.heap.push PySem.W.emptyDict).push (PySem.W.instObj C s.heap.objs.size)).get? (s.heap.objs.size + 1) = some (PySem.W.instObj C s.heap.objs.size) := by
    have := Heap.get?_push_size (s.heap.push PySem.W.emptyDict) (o := PySem.W.instObj C s.heap.objs.size) rfl
    rwa [Heap.size_push] at this
  have e3 : (s.heap.push PySem.W.emptyDict).Ns s.heap.objs.size (fun _ => none) := ⟨PySem.W.emptyDict, #[], _, e1, rfl, (fun e he => absurd he (by simp)), fun _ => rfl⟩
  have ne : s.heap.objs.size ≠ s.heap.objs.size + 1 := Nat.ne_of_lt (Nat.lt_succ_self _)
  refine Ev.newCell (X := X) (t := s.toks) (q := (s.heap.objs.size + 1, s.heap.objs.size)) (c := .ins C [] []) I (fun a o x => Heap.get?_push_of_some _ (Heap.get?_push_of_some _ x)) (Heap.get?_none_of_le (Nat.le_succ _)) (Heap.get?_none_of_le (Nat.le_refl _)) ?_
  exact ⟨Nat.zero_le _, fun _ => none, [], ⟨e2, (Heap.Ns1.of_empty e3).at fun o q => Heap.get?_push_of_some _ q, ne⟩, rfl, fun f => rfl, .nil⟩
theorem run_make {fz : Bool} {us dv : List Value} {ds dd : List D} {Q : Value → Shared → Prop} (M : L2.Mk X.S.K C f) (F : CallOk X.S k f fd ps fn) (hr : Rm (k + 1) X.A) (hb : L2.Binds X.S.K fd ps dv) (hd : Dflt X.S dd dv) (I : Inv X G σ hs s) (r : VRs X.S G s.heap ds us)
    (O : Out X noZ (VRX X) G hs s ((fn (.ref hs.length :: (ds ++ dd)) (hs ++ [(false, .ins C [] [])])).bind fun r h2 => match r with | .non => finR (!fz) hs.length (.ref hs.length) h2 | _ => .bad) Q E) : wpAny (model X.S.P X.S.w) X.A (call (.ref C) us []) Q E s := by
  have e1 := made_ev (C := C) I.hinv
  have I1 := I.step e1
  have r1 := VRs.mono (I.grow e1) _ _ r
  have rx : VR X.S ⟨G.mu ++ [(s.heap.objs.size + 1, s.heap.objs.size)], G.im⟩ ({ s with heap := (s.heap.push PySem.W.emptyDict).push (PySem.W.instObj C s.heap.objs.size) } : Shared).heap (.ref hs.length) (.ref (s.heap.objs.size + 1)) := by
    rw [VR]
    exact ⟨(s.heap.objs.size + 1, s.heap.objs.size), by show (G.mu ++ [_])[hs.length]? = _; rw [← I.hinv.len]; simp, rfl⟩
  have r2 : VRs X.S _ ({ s with heap := (s.heap.push PySem.W.emptyDict).push (PySem.W.instObj C s.heap.objs.size) } : Shared).heap (.ref hs.length :: (ds ++ dd)) (.ref (s.heap.objs.size + 1) :: (us ++ dv)) := .cons rx (r1.append (hd _ _ I1.hinv.base))
  have nb := bind_nb O.nb
  refine wpAny_call (make_map (f := f) I.kIn M.makes M.init (beq_iff_eq.mp M.fn) (codeAny_mono (F.run _ _ _ _ ⟨Value.ref (s.heap.objs.size + 1) :: us, []⟩ _ _ (fun u s' => u = .none ∧ Q (.ref (s.heap.objs.size + 1)) s') (fun _ _ => False) (hr.make C us [])
    I1.ok.mod I1.hinv I1.bare (hb _ (Value.ref (s.heap.objs.size + 1) :: us) I1.kIn (by rw [List.cons_append, r2.len]; exact F.len _ _ nb)) r2 ⟨fun d hs' ed v s' G' e3 r3 => ?_, fun x hs' ed => bind_nx O.exc x hs' ed, nb⟩) fun r s' hq => ?_))
  · rw [ed] at O
    cases d with
    | non =>
      have r3 : VR X.S G' s'.heap .non v := r3
      rw [VR] at r3
      refine ⟨r3, ?_⟩
      have O : Out X noZ (VRX X) G hs s (finR (!fz) hs.length (.ref hs.length) hs') Q E := O
      have ev : Ev X.S noZ G hs s G' hs' s' := e1.trans e3 (fun _ _ _ z => z) fun _ _ _ z => z
      exact O.fin ev (VR.mono (e3.grow I1.hinv fun _ z => z.elim) _ _ rx)
    | _ => exact absurd rfl O.nb
  · cases r with
    | error e => exact False.elim hq
    | ok fl =>
      cases fl with
      | ret u => exact ⟨hq.1, hq.2⟩
      | next => exact False.elim hq
      | brk => exact False.elim hq
      | cont => exact False.elim hq
theorem pe_make {fz : Bool} {x : Str} {p pos : Pos} {e : Expr} {es : List Expr} {ma : SA} {dd : List D} {dv : List Value} (M : L2.Mk X.S.K C f) (F : CallOk X.S k f fd ps fn) (hr : Rm (k + 1) X.A) (hg : Gl X x) (hm : X.S.mg x = some (.ref C))
    (hb : L2.Binds X.S.K fd ps dv) (hd : Dflt X.S dd dv) (ha : PA X (e :: es) ma) (hdb : (x == ("__debug__" : Str)) = false) (he : starEach (e :: es) X.env = (false, eval e X.env) :: starEach es X.env) (hpl : (backTo pos (starEach es X.env)).any (·.1) = false) :
    PE X (.Call (.Name x p) (e :: es) [] pos) (eMake fz C fn dd ma) := by
  refine ⟨fun G σ hs s I Q E O => wpAny_Call_Name_kw (ld_glob I hg hm hdb ?_)⟩
  refine callWith_K (h₀ := X.S.base) I.ok.mod.kin M.kp ((ha.run pos G σ hs s I).thn O fun ds h1 us s1 G1 _ e1 r1 O1 => ?_) he hpl
  have I1 := I.step e1
  exact ⟨I1.kIn, run_make M F hr hb hd I1 r1 O1⟩
theorem pe_make0 {fz : Bool} {x : Str} {p pos : Pos} {dd : List D} {dv : List Value} (M : L2.Mk X.S.K C f) (F : CallOk X.S k f fd ps fn) (hr : Rm (k + 1) X.A) (hg : Gl X x) (hm : X.S.mg x = some (.ref C))
    (hb : L2.Binds X.S.K fd ps dv) (hd : Dflt X.S dd dv) (hdb : (x == ("__debug__" : Str)) = false) : PE X (.Call (.Name x p) [] [] pos) (eMake fz C fn dd aNil) := by
  refine ⟨fun G σ hs s I Q E O => wpAny_Call_Name_kw (ld_glob I hg hm hdb ?_)⟩
  exact callWith_K0 I.kIn M.kp (run_make (us := []) M F hr hb hd I .nil O)
end
end Qo
-- QV
set_option maxRecDepth 100000
set_option maxHeartbeats 4000000
/-! QV: super. -/
namespace Qo
open PySem PySem.Spec PyProof.Rows

/-- judgements in the def's own frame -/
structure PEa (X : Cx) (B : List Stmt) (e : Expr) (m : SE) : Prop where
  run : ∀ (G : Gh) (σ : St) (hs : Hs) (s : Shared) (Q : Value → Shared → Prop) (E : Value → Shared → Prop), Inv X G σ hs s → Out X noZ (VRX X) G hs s (m σ hs) Q E → wpAt (model X.S.P X.S.w) X.A (.func B X.env) (eval e X.env) Q E s
structure PSa (X : Cx) (B : List Stmt) (st : Stmt) (m : SS) : Prop where
  run : ∀ (G : Gh) (σ : St) (hs : Hs) (s : Shared) (Q : Flow → Shared → Prop) (E : Value → Shared → Prop), Inv X G σ hs s → Out X X.own (SR X) G hs s (m σ hs) Q E → wpAt (model X.S.P X.S.w) X.A (.func B X.env) (exec st X.env) Q E s
structure PSsa (X : Cx) (B : List Stmt) (st : List Stmt) (m : SS) : Prop where
  run : ∀ (G : Gh) (σ : St) (hs : Hs) (s : Shared) (Q : Flow → Shared → Prop) (E : Value → Shared → Prop), Inv X G σ hs s → Out X X.own (SR X) G hs s (m σ hs) Q E → wpAt (model X.S.P X.S.w) X.A (.func B X.env) (execs st X.env) Q E s
section
variable {X : Cx} {B : List Stmt}
theorem psa_of {st : Stmt} {m : SS} (h : PS X st m) : PSa X B st m := ⟨fun G σ hs s Q E I O => wpAt_of_wpAny (h.run G σ hs s I Q E O)⟩
theorem pssa_of {st : List Stmt} {m : SS} (h : PSs X st m) : PSsa X B st m := ⟨fun G σ hs s Q E I O => wpAt_of_wpAny (h.run G σ hs s I Q E O)⟩
theorem Out.step2 {α β : Type} {G : Gh} {hs : Hs} {s : Shared} {Z Z' : Addr → Prop} {R : Gh → Heap → β → α → Prop} {γ δ : Type} {R2 : Gh → Heap → δ → γ → Prop} {r : Res β} {k : β → Hs → Res δ} {Q' : α → Shared → Prop} {Q : γ → Shared → Prop} {E : Value → Shared → Prop}
    (O : Out X Z' R2 G hs s (r.bind k) Q E) (hz : ∀ c o, s.heap.get? c = some o → Z c → Z' c)
    (c : ∀ b hs1 a s1 G1, r = .ok b hs1 → Ev X.S Z G hs s G1 hs1 s1 → R G1 s1.heap b a → Out X Z' R2 G1 hs1 s1 (k b hs1) Q E → Q' a s1) : Out X Z R G hs s r Q' E := by
  refine ⟨fun b hs1 e a s1 G1 e1 r1 => c b hs1 a s1 G1 e e1 r1 ?_, fun x hs' e => ?_, fun e => ?_⟩
  · subst e
    exact ⟨fun d hs2 e2 a2 s2 G2 e3 r2 => O.ok d hs2 e2 a2 s2 G2 (e1.trans e3 hz (fun _ _ _ z => z)) r2, O.exc, O.nb⟩
  · subst e; exact O.exc x hs' rfl
  · subst e; exact O.nb rfl
theorem pssa_cons {st : Stmt} {rest : List Stmt} {a b : SS} (h1 : PSa X B st a) (h2 : PSsa X B rest b) : PSsa X B (st :: rest) (sCons a b) := by
  refine ⟨fun G σ hs s Q E I O => ks_wpAt_execs_cons (h1.run G σ hs s _ E I (O.step2 (fun _ _ _ z => z) fun r hs1 f s1 G1 _ e1 r1 O1 => ?_))⟩
  obtain ⟨fl, σ1⟩ := r
  obtain ⟨f1, q⟩ := r1
  have fin : ∀ {fl f}, FlR X.S G1 s1.heap fl f → Out X X.own (SR X) G1 hs1 s1 (.ok (fl, σ1) hs1) Q E → Q f s1 := fun q O => O.ok _ _ rfl _ _ _ (Ev.refl e1.inv) ⟨f1, q⟩
  cases fl <;> cases f <;> first | exact h2.run G1 σ1 hs1 s1 Q E (I.stepS e1 f1) O1 | exact q.elim | exact fin q O1
theorem psa_expr {e : Expr} {m : SE} {pos : Pos} (h : PEa X B e m) (hs' : swapsWith e none pos.line X.env = pure false) : PSa X B (.Expr e pos) (sExpr m) := by
  refine ⟨fun G σ hs s Q E I O => ks_wpAt_Expr_any (h.run G σ hs s _ E I (O.step2 (fun _ _ _ z => z.elim) fun d hs1 v s1 G1 _ e1 r1 O1 => ?_)) I.quiet hs'⟩
  exact O1.ok _ _ rfl _ _ _ (Ev.refl e1.inv) ⟨I.frE e1, trivial⟩
theorem psa_ret {e : Expr} {m : SE} {pos : Pos} (h : PEa X B e m) : PSa X B (.Return (some e) pos) (sRet m) := by
  refine ⟨fun G σ hs s Q E I O => ks_wpAt_Return_some (h.run G σ hs s _ E I (O.step2 (fun _ _ _ z => z.elim) fun d hs1 v s1 G1 _ e1 r1 O1 => ?_))⟩
  exact O1.ok _ _ rfl _ _ _ (Ev.refl e1.inv) ⟨I.frE e1, r1⟩
theorem pea_op {a b : Expr} {ma mb : SE} {op : Operator} {f : D → D → Hs → Res D} {pos : Pos} (ho : OpR X (binaryOp op) f) (ha : PEa X B a ma) (hb : PE X b mb) : PEa X B (.BinOp a op b pos) (eOp f ma mb) := by
  refine ⟨fun G σ hs s Q E I O => ks_wpAt_BinOp (ha.run G σ hs s _ E I (O.step2 (fun _ _ _ z => z) fun x h1 v s1 G1 _ e1 r1 O1 => ?_))⟩
  have I1 := I.step e1
  refine (hb.run G1 σ h1 s1 I1).thn O1 fun y h2 u s2 G2 _ e2 r2 O2 => ?_
  exact ho G2 σ h2 s2 x y v u (I1.step e2) (VR.mono (I1.grow e2) _ _ r1) r2 Q E O2
end
/-- what super() needs of the written part: the def at f, its class at D (cell cc), its code object at cda -/
structure SupK (S : Stat) (f cc cda D : Addr) (sf : Str) : Prop where
  fd : ∃ oc od fd osl ar, S.K.lookup f = some ⟨oc, od, .func fd, osl⟩ ∧ (fd.params.posonlyargs ++ fd.params.args).head? = some ar ∧ ar.arg = sf
  code : ∃ ccl cdd vs ccs file tf, S.K.lookup cda = some ⟨ccl, cdd, .fields vs, ccs⟩ ∧ vs[2]? = some (.str file tf) ∧ ((S.P.main.file : Str) == file) = true
  cell : ∃ cl cld csl, S.K.lookup cc = some ⟨cl, cld, .cell (some (.ref D)), csl⟩
  cls : ∃ cd, PySem.W.clsIn S.K D = some cd
  mg : S.mg "super" = none
  top : (S.P.main.scope.names.lookup ("super" : Str)).isSome = false
  any : PySem.W.nsIn S.K cStatics "thirdparty.any" = some none
/-- what super().m is, by the instance's class -/
def SupT (S : Stat) (k : Nat) (D : Addr) (nm : Str) (tbl : Addr → Option SF) : Prop := ∀ c fn, tbl c = some fn → L2.Cls S.K c ∧ PySem.W.mroIn S.K c (.ref D) = some true ∧ ∃ f2 fd ps, PySem.W.ks_superIn S.K c D nm = some (some (.ref f2)) ∧ PySem.W.typeIn S.K (.ref f2) = some (.type "function") ∧ PySem.W.fnIn S.K f2 = true ∧ CallOk S k f2 fd ps fn ∧ L2.Binds S.K fd ps []
def eSup (i : Nat) (tbl : Addr → Option SF) (a : SA) : SE := fun σ hs => match σ[i]? with
  | some (some x) => match asO hs x with
    | some (c, _, _) => match tbl c with
      | some fn => (a σ hs).bind fun ds h => fn (x :: ds) h
      | none => .bad
    | none => .bad
  | _ => .bad
section
variable {X : Cx} {B : List Stmt} {k : Nat} {f cc cda D C : Addr} {sf : Str}
theorem sup_ne {h : Heap} {K : PySem.W.Frag} {x dx c : Addr} {m : Str → Option Value} (X : K.In h) (I : L2.ObjM h x dx c m) (cl : L2.Cls K c) : x ≠ c := by
  obtain ⟨od, J, _⟩ := I.look
  obtain ⟨cd, hc, _⟩ := PySem.W.any_some cl.hd
  exact PySem.W.ks_ne X J hc
theorem CallAt_meth {M : Model} {s : Shared} {Q : Value → Shared → Prop} {E : Value → Shared → Prop} {c : Code} {o : Expr} {name : Str} {apos pos : Pos} {args : List Expr} {kws : List Keyword} {env : Env} {A : Around}
    (hform : methodCallForm (args.length + kws.length) (backTo pos (starEach args env)) (backToKw pos (keywordEach kws env)) = true)
    (hline : (apos.endLine == pos.line) = true)
    (h : wpAt M A c (attributeBase o name env (eval o env)) (fun ov s1 => ∀ pl, wpAny M A (getMethod ov name pl) (fun fx s2 => wpAny M A (callWith pos fx.1 fx.2 (backTo pos (starEach args env)) (backToKw pos (keywordEach kws env))) Q E s2) E s1) E s) :
    wpAt M A c (eval (.Call (.Attribute o name apos) args kws pos) env) Q E s := by
  rw [arm_eval_Call]
  refine wpAt_bind (ks_wpAt_mono h (fun ov s₁ h₁ => ?_) fun _ _ e => e)
  refine wpAt_bind (wpAt_of_wpAny (wpAny_standAt (wpAt_of_wpAny ?_)))
  have hpos : methodCallPos true o env apos pos = pure pos := by unfold methodCallPos; simp [hline]
  unfold methodCall
  rw [hform]
  refine wpAny_bind (wpAny_holding (wpAny_mono (h₁ _) (fun fx s2 q => ?_) fun _ _ x => x))
  exact wpAny_bind (wpAny_of_eq hpos q)
/-- super().m(e, ..) in the def's own frame -/
theorem pea_sup {i : Nat} {nm : Str} {tbl : Addr → Option SF} {e : Expr} {es : List Expr} {ma : SA} {p0 p1 p2 p3 : Pos} (SK : SupK X.S f cc cda D sf) (T : SupT X.S k D nm tbl) (hr : Rm k X.A)
    (hi : X.vars.lookup sf = some i) (hl : X.env.scope.names.lookup sf = some .local) (hks : X.env.scope.names.lookup ("super" : Str) = some .globalImplicit) (hkc : X.env.scope.names.lookup ("__class__" : Str) = some .free)
    (hfu : X.env.func = some f) (hco : X.env.code = .ref cda) (hcl : X.env.cells.lookup ("__class__" : Str) = some cc) (hat : (nm == ("__class__" : Str)) = false) (ha : PA X (e :: es) ma)
    (he : starEach (e :: es) X.env = (false, eval e X.env) :: starEach es X.env) (hpl : (backTo p3 (starEach es X.env)).any (·.1) = false)
    (hform : methodCallForm ((e :: es).length + ([] : List Keyword).length) (backTo p3 (starEach (e :: es) X.env)) (backToKw p3 (keywordEach [] X.env)) = true) (hline : (p2.endLine == p3.line) = true) :
    PEa X B (.Call (.Attribute (.Call (.Name "super" p0) [] [] p1) nm p2) (e :: es) [] p3) (eSup i tbl ma) := by
  refine ⟨fun G σ hs s Q E I O => CallAt_meth hform hline ?_⟩
  unfold eSup at O
  split at O
  · rename_i x ex
    split at O
    · rename_i c ns vs ea
      split at O
      · rename_i fn et
        obtain ⟨cl, hmro, f2, fd2, ps2, hsi, hty, hfn, F, hb⟩ := T c fn et
        obtain ⟨oc, od, fd, osl, ar, hf, hp, har⟩ := SK.fd
        obtain ⟨ccl, cdd, vsc, ccs, file, tf, hcode, hvs, hfile⟩ := SK.code
        obtain ⟨cell, cld, csl, hcell⟩ := SK.cell
        obtain ⟨cdD, hD⟩ := SK.cls
        obtain ⟨m, hn, hlk⟩ := id I.fr.loc
        obtain ⟨u, ru, lu⟩ := hlk sf i x hi ex (.inl hl)
        have X₀ := I.kIn
        obtain ⟨oD, hD1, hD2⟩ : ∃ oD, s.heap.get? D = some oD ∧ oD.data = .cls cdD := by
          unfold PySem.W.clsIn at hD
          split at hD
          · rename_i ho
            cases hD
            exact ⟨_, X₀ _ _ ho, rfl⟩
          · cases hD
        obtain ⟨a, dx, mA, us, rfl, ob, l, t, q⟩ := asO_at (X := X) I.hinv ru ea
        obtain ⟨od', J, _⟩ := ob.look
        have hm : m sf = some (.ref a) := by
          rcases lu with ⟨_, h⟩ | ⟨h, _⟩
          · exact h
          · have h1 : X.env.kindOf sf = some .local := hl
            rcases h with h | h <;> rw [h1] at h <;> cases h
        obtain ⟨mb, hb1, hb2⟩ := I.ok.mod.blt
        refine lfa (PySem.ks_wpAt_super_base hks hkc hat hfu (X₀ _ _ hf) rfl hp hco (X₀ _ _ hcode) rfl hvs hfile SK.top ?_)
        refine PySem.W.ks_loadName_global I.ok.kind hks (Calls.loadGlobal_builtin (by rw [I.ok.glob]; exact I.ok.mod.glob.keeps I.bk) SK.mg (by rw [I.ok.blt]; exact hb1.keeps I.bk) ((hb2 "super" (by decide)).trans (by decide +kernel : bootBuiltins "super" = some (.type "super"))) ⟨rfl, ?_⟩)
        refine wpAny_loadName_free I.ok.kind hkc hcl ⟨_, X₀ _ _ hcell, rfl⟩ ?_
        rw [har]
        refine wpAny_loadName_local I.ok.kind hl hn hm ?_
        have inv0 := I
        obtain ⟨hh, g, d, tk, os⟩ := s
        refine PySem.ks_wpAny_isType_cls hD1 hD2 ⟨rfl, ?_⟩
        refine PySem.ks_wpAny_call_super hD1 hD2 J.at_ J.cls (fun c e => ?_) (PySem.W.looks_mroIn X₀ hmro) (fun h' e1 k1 => ?_)
        · have := J.no
          unfold PySem.W.notCls at this
          rw [e] at this
          exact Bool.noConfusion this
        intro pl
        have ev1 : Ev X.S noZ G hs ⟨hh, g, d, tk, os⟩ G hs ⟨h', g, d, tk, os⟩ := Ev.kept (X := X) (t := tk) I.hinv k1
        have I1 := I.step ev1
        have X1 := I1.kIn
        cases hc : PySem.W.clsIn X.S.K c with
        | none => unfold PySem.W.ks_superIn at hsi; rw [hc] at hsi; cases hsi
        | some cd =>
          unfold PySem.W.ks_superIn at hsi
          rw [hc] at hsi
          obtain ⟨of, hof, hofc⟩ : ∃ of, h'.get? f2 = some of ∧ of.cls = .type "function" := by
            have ht' : (X.S.K.lookup f2).map (·.cls) = some (.type "function") := hty
            cases z : X.S.K.lookup f2 with
            | none => rw [z] at ht'; cases ht'
            | some of => rw [z] at ht'; exact ⟨of, X1 _ _ z, Option.some.inj ht'⟩
          refine lf (PySem.ks_wpAny_getMethod_super e1 (PySem.W.looks_opaque X1 SK.any) (l₀ := cd.mro) ?_ rfl X1 hsi hof hofc (sup_ne X₀ ob cl) hat ?_)
          · exact fun A Q E s k q => PySem.wpAny_bind ((PySem.W.looks_clsIn X1 hc) A _ E s k (PySem.wpAny_pure q))
          have hq : (h'.push { cls := .type "method", data := .fields #[.ref f2, .ref a] }).get? h'.objs.size = some (PySem.W.methodObj (.ref f2) (.ref a)) := Heap.get?_push_size _ rfl
          have ev2 : Ev X.S noZ G hs ⟨h', g, d, tk, os⟩ G hs ⟨h'.push { cls := .type "method", data := .fields #[.ref f2, .ref a] }, g, d, tk + 1, os⟩ := Ev.kept (X := X) (t := tk + 1) I1.hinv fun b o x => Heap.get?_push_of_some _ x
          have I2 := I1.step ev2
          have aq : Apt (· = h'.objs.size) noG G ⟨h'.push { cls := .type "method", data := .fields #[.ref f2, .ref a] }, g, d, tk + 1, os⟩ := ⟨fun b x => by subst x; exact ⟨_, hq⟩, fun b x => by subst x; exact Inv.muNone (X := X) I1.hinv (push_new _), fun b x => by subst x; exact Inv.imNone (X := X) I1.hinv (push_new _), fun g z => z.elim⟩
          have O2 := (O.mv ev1).mv ev2
          show wpAny _ _ (callWith p3 (.ref h'.objs.size) [] (backTo p3 (starEach (e :: es) X.env)) []) _ _ _
          have sp : wpAny (model X.S.P X.S.w) X.A (spliced (backTo p3 (starEach (e :: es) X.env))) (fun vs s₁ => PySem.W.MethP X.S.K h'.objs.size f2 (.ref a) s₁.heap ∧ wpAny (model X.S.P X.S.w) X.A (call (.ref h'.objs.size) ([] ++ vs) []) Q E s₁) E ⟨h'.push { cls := .type "method", data := .fields #[.ref f2, .ref a] }, g, d, tk + 1, os⟩ := by
            refine (ha.run p3 G σ hs _ I2).thn O2 fun ds h3 us s3 G3 _ e3 r3 O3 => ?_
            have I3 := I2.step e3
            have hq3 := aq.keep (fun _ _ z => z) e3 _ _ rfl hq
            refine ⟨⟨hq3, I3.kIn⟩, wpAny_call (method_call hq3 ?_)⟩
            have rx : VR X.S G3 s3.heap x (.ref a) := VR.mono (I2.grow e3) _ _ (VR.mono (I1.grow ev2) _ _ (VR.mono (I.grow ev1) _ _ ru))
            have r4 : VRs X.S G3 s3.heap (x :: ds) ((.ref a :: us) ++ []) := by rw [List.append_nil]; exact .cons rx r3
            refine codeAny_mono (run_fn F hr I3 (hb s3 (.ref a :: us) I3.kIn (by rw [r4.len]; exact F.len _ _ O3.nb)) r4 O3) fun r s' q => by cases r with | error e => exact q | ok fl => cases fl <;> exact q
          rw [he] at sp ⊢
          exact callWith_of (by show ((false || (backTo p3 (starEach es X.env)).any (·.1)) || false) = false; rw [hpl]; rfl) (PySem.W.keeps_M hfn) (Calls.evalArgs_plain sp)
      · exact absurd rfl O.nb
    · exact absurd rfl O.nb
  · exact absurd rfl O.nb
end
end Qo
-- QW
set_option maxRecDepth 100000
set_option maxHeartbeats 4000000
/-! QW: a def of a class that says super(). -/
namespace Qo
open PySem PySem.Spec PyProof.Rows

def cxSup (S : Stat) (N : List Str) (qual : Str) (scope : Scope) (L : Addr) (f : Addr) (cd : Value) (cc : Addr) (A : Around) : Cx where
  S := S
  A := A.deeper (PySem.W.ksEnv qual scope L f cd cc)
  env := PySem.W.ksEnv qual scope L f cd cc
  vars := varsOf N
  own := fun a => a = L
  fn := fun _ => false
structure SupScope (N P : List Str) (sc : Scope) : Prop where
  kind : sc.kind = .function
  co : sc.isCoroutine = false
  gen : sc.isGenerator = false
  nd : N.Nodup
  pre : N.take P.length = P
  par : ∀ x ∈ P, sc.names.lookup x = some .local
  nocell : ∀ y ∈ sc.names, y.2 ≠ .cell
def fnSup (m : Bool) (np n : Nat) (b : SS) : SF := fun ds hs => grd (hs.all (fun c => !c.1) = true) (fnS m np n b ds hs)
theorem lookup_mem {α : Type} : ∀ {l : List (Str × α)} {y : Str} {u : α}, (l.map (·.1)).Nodup → (y, u) ∈ l → l.lookup y = some u
  | (n, v) :: r, y, u, nd, h => by
    rw [List.map_cons, List.nodup_cons] at nd
    rw [List.lookup_cons]
    rcases List.mem_cons.mp h with e | h'
    · cases e; simp
    · have : (y == n) = false := by
        simp only [beq_eq_false_iff_ne]
        intro e
        subst e
        exact nd.1 (List.mem_map.mpr ⟨(y, u), h', rfl⟩)
      rw [this]
      exact lookup_mem nd.2 h'
section
variable {S : Stat} {N ps : List Str} {qual : Str} {scope : Scope} {f cc : Addr}
theorem call_sup {k : Nat} {name : Str} {params : Arguments} {body : List Stmt} {dV kV doc pm cdv ct oc : Value} {an od : Option Addr} {osl : Array (Option Value)} {m : Bool} {b : SS} {cl : Value} {cld : Option Addr} {cv : Option Value} {csl : Array (Option Value)}
    (lk : S.K.lookup f = some ⟨oc, od, .func (PySem.W.ksFn name qual params body scope dV kV doc pm an cdv ct cc), osl⟩) (hcd : PySem.W.codeIn S.K cdv qual = true) (F : SupScope N ps scope) (hcell : S.K.lookup cc = some ⟨cl, cld, .cell cv, csl⟩)
    (hbody : ∀ (A : Around) (L : Addr), Rm k A → PSsa (cxSup S N qual scope L f cdv cc A) body body b) : CallOk S (k + 1) f (PySem.W.ksFn name qual params body scope dV kV doc pm an cdv ct cc) ps (fnSup m ps.length N.length b) := by
  refine ⟨fun ds hs h => ?_, fun A G hs s args us ds Q E hr mod H bare hb r O => ?_⟩
  · unfold fnSup at h
    have h1 := grd_nb h
    rw [grd_pos h1] at h
    unfold fnS at h
    exact grd_nb h
  obtain ⟨hfz, O⟩ := O.grd
  obtain ⟨hl, O⟩ := O.grd
  have hlu : us.length = ps.length := by rw [r.len]; exact hl
  have KX : S.K.In s.heap := mod.kin.keeps fun b o e => (H.base b o e).1
  have lim : s.heap.NoLimit := mod.nolimit.keeps fun b o e => (H.base b o e).1
  have ndP : ps.Nodup := by rw [← F.pre]; exact F.nd.sublist (List.take_sublist _ _)
  refine ks_codeAny_call_defAt (fd := PySem.W.ksFn name qual params body scope dV kV doc pm an cdv ct cc) (body := body) (binds := ps.zip us) hr.rm.depth (KX _ _ lk) rfl lim (PySem.W.codeRec_of KX hcd) rfl hb F.nocell (fun ⟨n, v⟩ hy => F.par n (List.of_mem_zip hy).1) (fun h₀ hns hk => ?_) F.co F.gen F.kind
  have e : Ev S noZ G hs s G hs { s with heap := h₀, toks := s.toks + (ps.zip us).length } := Ev.kept (X := Cx0 S) H hk
  have freshL : s.heap.get? s.heap.objs.size = none := Heap.get?_none_of_le (Nat.le_refl _)
  have hccB : ∃ o, S.base.get? cc = some o := ⟨_, mod.kin _ _ hcell⟩
  have I : Inv (cxSup S N qual scope s.heap.objs.size f cdv cc A) G (startS N.length ds) hs { s with heap := h₀, toks := s.toks + (ps.zip us).length } := by
    refine ⟨⟨mod, F.kind, rfl, rfl, hr.rm.hd, fun y z c h1 h2 => ?_, fun a y => .inl y, fun y z i h1 h2 => ?_, rfl, fun y c h _ => Bool.noConfusion h, fun y h => ?_⟩, e.inv, ⟨⟨_, hns, fun y i d h1 h2 hv => ?_⟩, fun y c h => ?_, fun a y i p q => ?_, fun a y z => ?_⟩, e.stp.bare bare⟩
    · have one : ∀ {y c}, (cxSup S N qual scope s.heap.objs.size f cdv cc A).env.cells.lookup y = some c → y = ("__class__" : Str) := fun {y c} h => by
        have h : List.lookup y [(("__class__" : Str), cc)] = some c := h
        rw [List.lookup_cons] at h
        cases hb : y == ("__class__" : Str) with
        | true => simpa using hb
        | false => rw [hb] at h; cases h
      exact (one h1).trans (one h2).symm
    · have a := varsOf_get h1
      have b := varsOf_get h2
      rw [a] at b
      exact Option.some.inj b
    · exact absurd rfl (F.nocell _ (PySem.mem_of_lookup (show scope.names.lookup y = some .cell from h)))
    · have hN := varsOf_get h1
      have hi : i < ds.length := by
        unfold startS at h2
        by_cases hi : i < ds.length
        · exact hi
        · rw [List.getElem?_append_right (by simpa using hi)] at h2
          rw [List.getElem?_replicate] at h2
          split at h2 <;> cases h2
      have ha : ds[i]? = some d := by
        unfold startS at h2
        rw [List.getElem?_append_left (by simpa using hi), List.getElem?_map] at h2
        cases e : ds[i]? with
        | none => rw [e] at h2; cases h2
        | some a => rw [e] at h2; cases h2; rfl
      obtain ⟨u, hu, rv⟩ := r.get ha
      have hp : ps[i]? = some y := by
        rw [← F.pre, List.getElem?_take_of_lt (by omega)]; exact hN
      refine ⟨u, VR.mono (e.grow H fun _ z => z.elim) _ _ rv, .inl ⟨F.par y (List.mem_of_getElem? hp), ?_⟩⟩
      show (ps.zip us).reverse.lookup y = some u
      refine lookup_mem ?_ ?_
      · rw [List.map_reverse, List.map_fst_zip (by omega)]
        unfold List.Nodup
        rw [List.pairwise_reverse]
        exact List.Pairwise.imp (fun h => Ne.symm h) ndP
      · rw [List.mem_reverse]
        exact List.mem_of_getElem? (i := i) (by rw [List.getElem?_zip_eq_some]; exact ⟨hp, hu⟩)
    · have h : List.lookup y [(("__class__" : Str), cc)] = some c := h
      rw [List.lookup_cons] at h
      cases hb : y == ("__class__" : Str) with
      | true =>
        rw [hb] at h; cases h
        exact ⟨cv, _, hk _ _ (KX _ _ hcell), rfl⟩
      | false => rw [hb] at h; cases h
    · rcases y with rfl | ⟨z, h⟩
      · exact Inv.muNone (X := Cx0 S) H freshL i p q
      · have h : List.lookup z [(("__class__" : Str), cc)] = some a := h
        rw [List.lookup_cons] at h
        cases hb : z == ("__class__" : Str) with
        | false => rw [hb] at h; cases h
        | true =>
          rw [hb] at h; cases h
          obtain ⟨o, ho⟩ := hccB
          have im := (H.base _ _ ho).2
          have hlt : i < hs.length := by rw [← H.len]; exact (List.getElem?_eq_some_iff.mp q).1
          have hfi := (List.all_eq_true.mp hfz) hs[i] (List.getElem_mem hlt)
          have hg : hs[i]? = some (false, hs[i].2) := by
            rw [List.getElem?_eq_getElem hlt]
            congr 1
            exact Prod.ext (by simpa using hfi) rfl
          have := H.free i p _ q hg
          exact ⟨fun z => this.1 (z ▸ im), fun z => this.2 (z ▸ im)⟩
    · have y : a = s.heap.objs.size := y
      subst y
      exact Inv.imNone (X := Cx0 S) H freshL z
  refine ks_wpAt_mono ((hbody A s.heap.objs.size (hr.mono (Nat.le_succ k))).run G (startS N.length ds) hs _ (fun fl s' => RetR Q E (.ok (.ret (match fl with | .ret v => v | _ => .none))) s') (fun _ _ => False) I ⟨fun fr hs' e1 fl s' G' ev sr => ?_, fun y hs' e1 => ?_, fun e1 => ?_⟩) (fun _ _ q => q) fun _ _ z => z.elim
  · obtain ⟨fm, σ'⟩ := fr
    have ev' : Ev S noZ G hs s G' hs' s' := e.trans ev (fun _ _ _ z => z) fun c o y z => by
      have z : c = s.heap.objs.size := z
      rw [z, freshL] at y; cases y
    rw [e1] at O
    obtain ⟨_, q⟩ := sr
    cases fm with
    | rt d =>
      cases fl with
      | ret u => exact Out.fin (X := Cx0 S) O ev' q
      | _ => exact False.elim q
    | nx =>
      cases fl with
      | next => exact Out.fin (X := Cx0 S) (d := .non) (u := .none) O ev' (by rw [VR])
      | _ => exact False.elim q
    | bk => exact absurd rfl O.nb
    | ct => exact absurd rfl O.nb
  · rw [e1] at O; exact absurd rfl (O.exc _ _)
  · rw [e1] at O; exact absurd rfl O.nb
end
end Qo
-- QX
set_option maxRecDepth 100000
set_option maxHeartbeats 4000000
/-! QX: enumerate. -/
namespace Qo
open PySem PySem.Spec PyProof.Rows

theorem meets_enum1 {v : Value} {o : Obj} {H : Heap → Prop} (B : Begins v o H) :
    Meets (Builtin.«enumerate.__new__» ⟨[.type "enumerate", v], []⟩) (fun _ R s => H s.heap ∧
      R (.ok (.ret (.ref (s.heap.push o).objs.size))) { s with heap := (s.heap.push o).push { cls := .type "enumerate", data := .fields #[.none, .bool false, .ref s.heap.objs.size, rawInt 0, .none, .none] } }) :=
  .of_wp fun prog w A R s h => by
    obtain ⟨hp, g, d, tk, os⟩ := s; obtain ⟨h1, h⟩ := h
    have hsub := sub_enumerate
    have q1 : ∀ {A' : Around} {E : Value → Shared → Prop} {Q : Value → Shared → Prop}, Q (.ref hp.objs.size) ⟨hp.push o, g, d, tk, os⟩ → PySem.wpAny (model prog w) A' (pyIter v) Q E ⟨hp, g, d, tk, os⟩ :=
      fun q => B.iter prog w _ _ ⟨hp, g, d, tk, os⟩ _ h1 q
    wp_walk using q1
    refine PySem.wpAny_stack_any fun st => PySem.wpAny_pure ?_
    split
    · rename_i c _ _ _ _ _
      cases (c == Value.type "enumerate")
      · wp_walk using q1
        exact ⟨_, rfl, h⟩
      · wp_walk using q1
        exact ⟨_, rfl, h⟩
    · wp_walk using q1
      exact ⟨_, rfl, h⟩
theorem enum_begins1 {prog : Program} {w : World} {A : Around} {E : Value → Shared → Prop} {s : Shared} {v : Value} {o : Obj} {H : Heap → Prop} {Q : Value → Shared → Prop} (B : Begins v o H) (h1 : H s.heap)
    (h : ∀ h', IsEnum h' (s.heap.objs.size + 1) s.heap.objs.size 0 .none → h'.get? s.heap.objs.size = some o → (∀ b o, s.heap.get? b = some o → h'.get? b = some o) → Q (.ref (s.heap.objs.size + 1)) { s with heap := h' }) :
    wpAny (model prog w) A (call (.type "enumerate") [v]) Q E s := by
  refine lf (callType_new F.called_enumerate (by decide) (F.typeCall_enumerate_1 _) (F.newCall_enumerate_1 _) (fun obj => F.args_object_init_2 obj _) F.entry_enumerate_new (meets_enum1 B) ⟨h1, ?_⟩)
  have hz : (s.heap.push o).objs.size = s.heap.objs.size + 1 := Heap.size_push ..
  show _ ∧ _
  rw [hz]
  have he : IsEnum ((s.heap.push o).push { cls := .type "enumerate", data := .fields #[.none, .bool false, .ref s.heap.objs.size, rawInt 0, .none, .none] }) (s.heap.objs.size + 1) s.heap.objs.size 0 .none := by
    have := Heap.get?_push_size (s.heap.push o) (o := { cls := .type "enumerate", data := .fields #[.none, .bool false, .ref s.heap.objs.size, rawInt 0, .none, .none] }) rfl
    rw [hz] at this; exact this
  exact ⟨⟨_, he, rfl⟩, h _ he (Heap.get?_push_of_some _ (Heap.get?_push_size _ B.free)) fun b o x => Heap.get?_push_of_some _ (Heap.get?_push_of_some _ x)⟩
section
variable {S : Stat} {A : Around} {G : Gh} {hs : Hs} {s s' : Shared} {fp : Addr → Prop}
/-- a new object that a step made is known from now on -/
theorem ItS.add (t : ItS S fp noG G hs s G s') {T : Addr} (hn : s.heap.get? T = none) (hT : ∃ o, s'.heap.get? T = some o) (I : HInv S G hs s.heap) : ItS S fp noG G hs s (G.add T) s' := by
  have g : Grow G (G.add T) s'.heap s'.heap := ⟨fun _ x => .inl x, fun _ _ _ x => x, fun _ _ x => x⟩
  have J := t.inv
  have mu := Inv.muNone (X := Cx0 S) I hn
  refine ⟨t.keep, t.os, t.gens, t.bare, rfl, fun _ x => .inl x, fun a x => x.elim .inl fun x => .inr (.inr (by subst x; exact hn)), ⟨J.len, J.inj, fun i q f c x y => (J.cell i q f c x y).mono g (fun _ z => z) (fun _ z => z), fun i q c x y => ?_, fun i q c x y => ?_, fun b x => ?_, fun b o x => ⟨(J.base b o x).1, .inl (J.base b o x).2⟩⟩⟩
  · obtain ⟨h1, h2⟩ := J.free i q c x y
    have := mu i q x
    exact ⟨fun z => z.elim h1 fun z => this.1 z.symm, fun z => z.elim h2 fun z => this.2 z.symm⟩
  · obtain ⟨h1, h2⟩ := J.froz i q c x y
    exact ⟨.inl h1, .inl h2⟩
  · rcases x with x | rfl
    · exact J.live b x
    · exact hT
def enumD (xs : List D) : List D := xs.zipIdx.map fun p => .tup [.int (p.2 : Nat), p.1]
theorem enumD_get {xs : List D} {i : Nat} {d : D} (h : (enumD xs)[i]? = some d) : ∃ x, xs[i]? = some x ∧ d = .tup [.int (i : Nat), x] := by
  unfold enumD at h
  rw [List.getElem?_map, List.getElem?_zipIdx] at h
  cases e : xs[i]? with
  | none => rw [e] at h; cases h
  | some x => rw [e] at h; simp at h; exact ⟨x, rfl, h.symm⟩
theorem enum_ng {h : Heap} {e it : Addr} {n : Int} {i : Nat} {St0 : Nat → Heap → Prop} (p : (∃ old, IsEnum h e it n old) ∧ St0 i h) (hng : ∀ i h, St0 i h → ¬ GenObj h it) : ∀ a, a = e ∨ a = it → ¬ GenObj h a := fun a x => x.elim (fun x => by subst x; obtain ⟨⟨_, q⟩, _⟩ := p; exact notGenC q rfl rfl) fun x => by subst x; exact hng _ _ p.2
theorem wk_enum {l it e : Addr} {xs : List D} {us : Array Value} {St0 : Nat → Heap → Prop} {elts : List Expr} {kk : Nat} {pos : Pos} (h1 : l ≠ it) (h2 : e ≠ it) (h3 : e ≠ l) (Dr : Draws S.P S.w A.in1 it [it, l] us.size (fun i v => us[i]? = some v) St0) (hng : ∀ i h, St0 i h → ¬ GenObj h it) :
    Wk0 VR S A (.Tuple elts kk pos) (fun a => a = e ∨ a = it) noG (.ref e) (enumD xs) (fun _ => True) (fun i G s => ((∃ old, IsEnum s.heap e it (0 + (i : Int)) old) ∧ St0 i s.heap) ∧ G.im l ∧ (∃ o, s.heap.get? l = some o) ∧ VRs S G s.heap xs us.toList) where
  fr := fun i G s G' s' p g k _ => by
    obtain ⟨⟨⟨old, q1⟩, q2⟩, q3, ⟨o, q4⟩, q5⟩ := p
    refine ⟨⟨⟨old, k e _ (.inl rfl) q1⟩, Dr.frame _ _ _ q2 fun b hb o x => ?_⟩, g.im _ q3, ⟨o, g.keep _ _ q3 q4⟩, VRs.mono g _ _ q5⟩
    rcases List.mem_cons.mp hb with rfl | hb
    · exact k _ _ (.inr rfl) x
    · rw [List.mem_singleton.mp hb] at x ⊢
      exact g.keep _ _ q3 x
  self := fun i G s Q E p h => lf (wpAny_pyIter_enum p.1.1.choose_spec h)
  item := by
    rintro i d G hs s Q E hd ⟨st, iml, ll, r⟩ a b hk hQ
    obtain ⟨x, hx, rfl⟩ := enumD_get hd
    obtain ⟨u, hu, ru⟩ := r.get hx
    have hi : i < us.size := by
      have := (List.getElem?_eq_some_iff.mp hu).1
      simpa using this
    have W := GoesN.enumFrom (elts := elts) (x1 := kk) (pos := pos) 0 Dr e h2 (by simp [h2, h3]) (by simp)
    refine lf2 (W.goes i s Q E hi st fun v h' tk hy st' kp _ => ?_)
    obtain ⟨T, t, y, rfl, hTn, hy1, hT⟩ := hy
    have ey : y = u := by
      have : us[i]? = some u := by simpa using hu
      rw [this] at hy1
      exact (Option.some.inj hy1).symm
    subst ey
    have k : ∀ b o, ¬ (b = e ∨ b = it) → s.heap.get? b = some o → h'.get? b = some o := fun b o n x => kp b o (by simpa using n) x
    have its := ItS.heap (X := Cx0 S) (t := tk) b.hinv a (h' := h') k (enum_ng st hng)
    have hnT : s.heap.get? T = none := Heap.get?_none_of_le hTn
    obtain ⟨oT, hoT, hrT⟩ := id hT
    have its2 := its.add hnT ⟨oT, hoT⟩ b.hinv
    have g2 := its2.grow (X := Cx0 S) a.im
    have eT : T ≠ e ∧ T ≠ it := ⟨fun z => (by obtain ⟨o, q⟩ := a.live e (.inl rfl); rw [← z, hnT] at q; cases q), fun z => (by obtain ⟨o, q⟩ := a.live it (.inr rfl); rw [← z, hnT] at q; cases q)⟩
    refine hQ _ (G.add T) _ its2 ⟨fun c hc => ?_, fun c hc => a.mu c hc, fun c hc z => ?_, fun g z => z.elim⟩ ?_ ⟨st', .inl iml, ?_, VRs.mono g2 _ _ r⟩
    · rcases hc with rfl | rfl
      · obtain ⟨⟨old, q⟩, _⟩ := st'; exact ⟨_, q⟩
      · exact Dr.live _ _ st'.2
    · rcases z with z | z
      · exact a.im c hc z
      · subst z
        rcases hc with z | z
        · exact eT.1 z
        · exact eT.2 z
    · rw [VR]
      refine ⟨T, _, rfl, .inr rfl, by rw [sizeLine_eq]; simp, hT, ?_⟩
      have e0 : (0 : Int) + (i : Int) = (i : Int) := by omega
      exact .cons (by rw [VR]; exact ⟨t, by rw [e0]⟩) (.one (VR.mono g2 _ _ ru))
    · obtain ⟨o, q⟩ := ll
      exact ⟨o, g2.keep _ _ iml q⟩
  stop := by
    rintro G hs s Q E ⟨st, iml, ll, r⟩ a b hk hQ
    have W := GoesN.enumFrom (elts := elts) (x1 := kk) (pos := pos) 0 Dr e h2 (by simp [h2, h3]) (by simp)
    have hl := r.len
    rw [Array.length_toList] at hl
    refine lf (W.stops s Q E (by rw [hl]; simpa [enumD] using st) fun h' tk kp _ => hQ G _ (ItS.heap (X := Cx0 S) (t := tk) b.hinv a (fun b o n x => kp b o (by simpa using n) x) (enum_ng st hng)))
end
section
variable {X : Cx} {elts : List Expr} {kk : Nat} {tpos : Pos}
def iEnum (m : SA) : SI := fun σ hs => (m σ hs).bind fun ds h => match ds with
  | [.tup xs] => .ok (enumD xs, fun _ => True) h
  | [.lst xs] => .ok (enumD xs, fun _ => True) h
  | _ => .bad
theorem pi_enum {a : Expr} {ma : SA} {p pos : Pos} (hg : Gl X "enumerate") (hm : X.S.mg "enumerate" = none) (ha : PA X [a] ma) (hs' : starEach [a] X.env = [(false, eval a X.env)]) : PI VR X (.Tuple elts kk tpos) (.Call (.Name "enumerate" p) [a] [] pos) (iEnum ma) := by
  refine ⟨fun G σ hs s Q E I hx hb hQ => ?_⟩
  refine Call_ (ld_blt I hg hm boot_enumerate (by decide) (by decide) (callWith_type1 ((ha.run pos G σ hs s I).go (bind_nx hx) (bind_nb hb) fun ds hs1 us s1 G1 em e1 r1 => ?_) hs' rfl))
  unfold iEnum at hx hb hQ
  rw [em] at hx hb hQ
  simp only [Res.bind_ok] at hx hb hQ
  have I1 := I.step e1
  have fin : ∀ (xs : List D) (l : Addr) (its : Array Value) (St0 : Nat → Heap → Prop) (o : Obj) (H : Heap → Prop), G1.im l → VRs X.S G1 s1.heap xs its.toList → (∃ o, s1.heap.get? l = some o) → Begins (.ref l) o H → H s1.heap →
      (∀ h', h'.get? s1.heap.objs.size = some o → (∀ b o, s1.heap.get? b = some o → h'.get? b = some o) → St0 0 h') → (l ≠ s1.heap.objs.size → Draws X.S.P X.S.w X.A.in1 s1.heap.objs.size [s1.heap.objs.size, l] its.size (fun i v => its[i]? = some v) St0) → (∀ i h, St0 i h → ¬ GenObj h s1.heap.objs.size) →
      (∀ u s2, Ev X.S noZ G hs s G1 hs1 s2 → Iter VR X.S X.A (.Tuple elts kk tpos) s (enumD xs) (fun _ => True) u G1 s2 → Q u s2) → wpAny (model X.S.P X.S.w) X.A (call (.type "enumerate") [.ref l]) (fun xv s₁ => wpAny (model X.S.P X.S.w) X.A (pyIter xv) Q E s₁) E s1 := fun xs l its St0 o H iml r ll B hH hSt hD hng hQ => by
    obtain ⟨ol, hol⟩ := ll
    have hlt : l < s1.heap.objs.size := Heap.lt_size hol
    have hne : l ≠ s1.heap.objs.size := Nat.ne_of_lt hlt
    refine enum_begins1 B hH fun h' he ho k => ?_
    refine lf (wpAny_pyIter_enum he ?_)
    obtain ⟨e2, a2, nf⟩ := iter_new (fp := fun a => a = s1.heap.objs.size + 1 ∨ a = s1.heap.objs.size) (t := s1.toks) e1 k (fun a x => x.elim (fun x => by subst x; exact Heap.get?_none_of_le (Nat.le_succ _)) fun x => by subst x; exact push_new _) (fun a x => x.elim (fun x => by subst x; exact ⟨_, he⟩) fun x => by subst x; exact ⟨_, ho⟩)
    exact hQ _ _ e2 (Iter.mk (wk_enum hne (Nat.succ_ne_self _) (Nat.ne_of_gt (Nat.lt_succ_of_lt hlt)) (hD hne) hng) ⟨⟨⟨.none, by simpa using he⟩, hSt h' ho k⟩, iml, ⟨ol, k _ _ hol⟩, VRs.mono ⟨fun _ x => x, fun a o _ x => k a o x, fun _ _ x => x⟩ _ _ r⟩ a2 nf)
  split at hb
  · rename_i xs
    obtain ⟨u, rfl, r⟩ := vrs1 r1
    rw [VR] at r
    obtain ⟨l, its, rfl, iml, hz, t, q⟩ := r
    obtain ⟨ol, hol, _⟩ := id t
    exact fin xs l its (fun i h => h.IsTupleIter s1.heap.objs.size l i ∧ h.IsTuple l its) _ _ iml q ⟨ol, hol⟩ (begins_tuple l its) t (fun h' ho k => ⟨⟨_, ho, rfl, rfl⟩, tup_keep t fun o x => k _ _ x⟩) (fun hne => Draws.tuple (A := X.A.in1) I.ok.hd _ l hne its) (fun i h q => notGenC q.1.choose_spec.1 q.1.choose_spec.2.1 rfl) fun u s2 e2 it => hQ _ _ _ _ _ _ rfl e2 trivial it
  · rename_i xs
    obtain ⟨u, rfl, r⟩ := vrs1 r1
    rw [VR] at r
    obtain ⟨l, its, rfl, iml, hz, t, q⟩ := r
    obtain ⟨n, hol⟩ := id t
    exact fin xs l its (fun i h => h.IsListIter s1.heap.objs.size l i ∧ h.IsList l its) _ _ iml q ⟨_, hol⟩ (begins_list l its) t.isList (fun h' ho k => ⟨⟨_, ho, rfl, rfl⟩, (t.at fun o x => k _ _ x).isList⟩) (fun hne => Draws.list (A := X.A.in1) I.ok.hd _ l hne its) (fun i h q => notGenC q.1.choose_spec.1 q.1.choose_spec.2.1 rfl) fun u s2 e2 it => hQ _ _ _ _ _ _ rfl e2 trivial it
  · exact absurd rfl hb
end
end Qo
-- QY
set_option maxRecDepth 100000
set_option maxHeartbeats 4000000
/-! QY: a generator's code from one wake to the next. -/
namespace Qo
open PySem PySem.Spec PyProof.Rows

/-- the code runs to an end (it stops, or it is suspended) as wanted -/
def Sg (M : Model) (A : Around) (Φ : End → Shared → Prop) (c : Code) (t : Sem PySem.Fin) (fs : List Frame) (s : Shared) : Prop :=
  ∀ Γ p, Γ.code = c → Ctx.Woken Γ A → ∃ e s', SegL M Γ p t fs s e s' ∧ Φ e s'
section
variable {M : Model} {A : Around} {Φ : End → Shared → Prop} {c : Code} {fs : List Frame} {s : Shared}
theorem sg_wrap {α : Type} {m : Sem α} {K : α → Sem PySem.Fin} {H : Value → Sem PySem.Fin} {gd lv}
    (h : wpAny M (A.over c fs) m (fun a s' => Sg M A Φ c (K a) fs s') (fun x s' => Sg M A Φ c (H x) fs s') s) : Sg M A Φ c (m.wrap K H gd lv) fs s := by
  rintro Γ p rfl hΓ
  exact segL_wrap K H gd lv (fun a p' s' h' => h' Γ p' rfl hΓ) (fun x p' s' h' => h' Γ p' rfl hΓ) m (h (Γ.over fs) p (hΓ.over fs))
theorem sg_bind {α : Type} {m : Sem α} {K : α → Sem PySem.Fin}
    (h : wpAny M (A.over c fs) m (fun a s' => Sg M A Φ c (K a) fs s') (fun x s' => Sg M A Φ c (.raise x) fs s') s) : Sg M A Φ c (m >>= K) fs s := by
  rw [Sem.bind_eq_wrap']; exact sg_wrap h
theorem sg_bind_wrap {α β : Type} {m : Sem α} {K : α → Sem β} {K' : β → Sem PySem.Fin} {H' : Value → Sem PySem.Fin} {gd lv}
    (h : wpAny M (A.over c fs) m (fun a s' => Sg M A Φ c ((K a).wrap K' H' gd lv) fs s') (fun x s' => Sg M A Φ c (H' x) fs s') s) : Sg M A Φ c ((m >>= K).wrap K' H' gd lv) fs s := by
  rw [Sem.bind_eq_wrap', Sem.wrap_wrap]; exact sg_wrap h
theorem sg_at {p' : Pos} {k : Unit → Sem PySem.Fin} (h : Sg M A Φ c (k ()) fs s) : Sg M A Φ c (.at p' k) fs s :=
  sg_wrap (m := standAt p') (K := k) (H := .raise) (gd := id) (lv := id) (wpAny_standAt h)
theorem sg_point {l : List Value} {k : Unit → Sem PySem.Fin} (h : Sg M A Φ c (k ()) fs s) : Sg M A Φ c (.point l k) fs s :=
  sg_wrap (m := point) (K := k) (H := .raise) (gd := id) (lv := fun _ => l) (wpAny_point h)
theorem sg_rule {tag : String} {k : Unit → Sem PySem.Fin} (h : Sg M A Φ c (k ()) fs s) : Sg M A Φ c (.rule tag k) fs s :=
  sg_wrap (m := rule tag) (K := k) (H := .raise) (gd := id) (lv := id) (wpAny_rule h)
theorem sg_call {c' : Code} {h g l} {k : Result → Sem PySem.Fin} (hc : ∀ p, Sg M A Φ c' (M.den c') (.ret k h g l c p [] :: fs) s) : Sg M A Φ c (.call c' h g l k) fs s := by
  rintro Γ p rfl hΓ
  obtain ⟨e, s', hr, he⟩ := hc p (Γ.goto c') p rfl (hΓ.goto c')
  exact ⟨e, s', fun b f => .go (pre1 := .ret k h g l Γ.code p [] :: fs) (step_call ..) (hr b (f.goto c')), he⟩
theorem sg_leaf {k h g l c₁ p₁ kp} (r : Result) (hk : Sg M A Φ c₁ (k r) fs s) : Sg M A Φ c (leafOf r) (.ret k h g l c₁ p₁ kp :: fs) s := by
  rintro Γ p rfl hΓ
  obtain ⟨e, s', hr, he⟩ := hk (Γ.goto c₁) p₁ rfl (hΓ.goto c₁)
  exact ⟨e, s', fun b f => .go (pre1 := fs) (step_leaf_ret ..) (hr b (f.goto c₁)), he⟩
theorem sg_again {c' : Code} (hq : c'.quiet = true) (hc : Sg M A Φ c' (M.den c') fs s) : Sg M A Φ c (.pure (.again c')) fs s := by
  rintro Γ p rfl hΓ
  obtain ⟨e, s', hr, he⟩ := hc (Γ.goto c') p rfl (hΓ.goto c')
  exact ⟨e, s', fun b f => .go (pre1 := fs) (step_again _ _ _ _ _ _ hq) (hr b (f.goto c')), he⟩
theorem sg_end (r : Result) (h : Φ (.ret r) s) : Sg M A Φ c (leafOf r) [] s := by
  rintro Γ p rfl _
  exact ⟨.ret r, s, fun b f => .out ⟨rfl, rfl⟩, h⟩
theorem sg_yield {v g l} {k : Resume → Sem PySem.Fin} (hfs : splitAtGen fs = none) (h : ∀ p, Φ (.susp v g l k c p fs) s) : Sg M A Φ c (.yield v g l k) fs s := by
  rintro Γ p rfl _
  exact ⟨.susp v g l k Γ.code p fs, s, fun b f => .out ⟨rfl, rfl, rfl, rfl, hfs⟩, h p⟩
theorem Sg.imp {Φ' : End → Shared → Prop} {t : Sem PySem.Fin} (h : Sg M A Φ c t fs s) (i : ∀ e s, Φ e s → Φ' e s) : Sg M A Φ' c t fs s := fun Γ p hc hΓ => by
  obtain ⟨e, s', hr, he⟩ := h Γ p hc hΓ
  exact ⟨e, s', hr, i e s' he⟩
end
def SgGoes (M : Model) (A : Around) (Φ : End → Shared → Prop) (gs : GenState) (r : Resume) (s : Shared) : Prop :=
  match gs with
  | .fresh c => r = .send .none ∧ Sg M A Φ c (M.den c) [] s
  | .suspended k _ c _ fs _ => Sg M A Φ c (k r) fs s
  | _ => False
theorem sg_resume {M : Model} {A : Around} {Φ : End → Shared → Prop} {E : Value → Shared → Prop} {s : Shared} {g : Nat} {gs : GenState}
    {r : Resume} {l : List Value} {α : Type} {k : GenResult → Sem α} {Q : α → Shared → Prop} (hg : s.gens[g]? = some gs) (hgo : SgGoes M A Φ gs r (s.setGen g .running)) (hq : ∀ e s₁, Φ e s₁ → Mild s₁ e)
    (hR : ∀ x s₁, Φ (.ret x) s₁ → wpAny M A (k (End.ret x).result) Q E (s₁.setGen g .finished))
    (hY : ∀ v g₀ l₀ k₀ c₀ p₀ fs₀ s₁, Φ (.susp v g₀ l₀ k₀ c₀ p₀ fs₀) s₁ → wpAny M A (k (.yielded v)) Q E (s₁.setGen g (End.susp v g₀ l₀ k₀ c₀ p₀ fs₀).genState)) :
    wpAny M A (.resume g r l k) Q E s := by
  intro Γ p hΓ
  have hB : ∀ c, (Γ.wake c p).Woken A := fun c => hΓ.wake c p
  have fin : ∀ e₁ s₁, Φ e₁ s₁ → wpT M Γ (fun a _ s' => Q a s') (fun e _ s' => E e s') (k e₁.result) p (s₁.setGen g e₁.genState) := by
    intro e₁ s₁ he
    cases e₁ with
    | ret x => exact hR x s₁ he Γ p hΓ
    | susp v g₀ l₀ k₀ c₀ p₀ fs₀ => exact hY v g₀ l₀ k₀ c₀ p₀ fs₀ s₁ he Γ p hΓ
  cases gs with
  | fresh c =>
    obtain ⟨rfl, hs⟩ := hgo
    obtain ⟨e₁, s₁, hr, he⟩ := hs (Γ.wake c p) p rfl (hB c)
    exact ⟨_, _, by unfold WakL; rw [hg]; exact ⟨e₁, s₁, hr, hq e₁ s₁ he, rfl, rfl⟩, fin e₁ s₁ he⟩
  | suspended k₀ l₀ c₀ p₀ fs₀ cl =>
    obtain ⟨e₁, s₁, hr, he⟩ := (show Sg M A Φ c₀ (k₀ r) fs₀ _ from hgo) (Γ.wake c₀ p) p₀ rfl (hB c₀)
    exact ⟨_, _, by unfold WakL; rw [hg]; exact ⟨e₁, s₁, hr, hq e₁ s₁ he, rfl, rfl⟩, fin e₁ s₁ he⟩
  | running => exact hgo.elim
  | finished => exact hgo.elim
/-- the sleep of a generator keeps it so -/
theorem Soft.setGen {s : Shared} {g : Nat} {x : GenState} (h : Soft s) (n : ∀ k l c p fs, x = .suspended k l c p fs true → fs.any Frame.guarded = false ∧ YfOver s.heap c) : Soft (s.setGen g x) := fun i k l c p fs e => by
  by_cases z : i = g
  · subst z
    have hs : i < s.gens.size := by
      have := (Array.getElem?_eq_some_iff.mp e).1
      have q : (s.setGen i x).gens.size = s.gens.size := by simp [Shared.setGen]
      omega
    rw [L2.setGen_at hs] at e
    exact n k l c p fs (Option.some.inj e)
  · have : (s.setGen g x).gens[i]? = s.gens[i]? := by
      show (s.gens.setIfInBounds g x)[i]? = _
      rw [Array.getElem?_setIfInBounds_ne (Ne.symm z)]
    rw [this] at e
    exact h i k l c p fs e
theorem Soft.running {s : Shared} {g : Nat} (h : Soft s) : Soft (s.setGen g .running) := h.setGen fun _ _ _ _ _ e => by cases e
theorem Soft.finished {s : Shared} {g : Nat} (h : Soft s) : Soft (s.setGen g .finished) := h.setGen fun _ _ _ _ _ e => by cases e
theorem Soft.mild {s : Shared} {g : Nat} {e : End} (h : Soft s) (m : Mild s e) : Soft (s.setGen g e.genState) := h.setGen fun k l c p fs x => by
  cases e with
  | ret r => cases x
  | susp v g0 l0 k0 c0 p0 fs0 =>
    obtain ⟨m1, m2⟩ := m
    simp only [End.genState, GenState.suspended.injEq] at x
    obtain ⟨_, _, rfl, _, rfl, hb⟩ := x
    refine ⟨m1, m2 ?_⟩
    rw [m1] at hb
    simpa using hb
/-- nothing sleeps over it, or nothing does any more -/
def Awake (o : Obj) : Prop := ∀ n t, o.slots[0]? = some (some (Value.int n t)) → ¬ (0 < n)
def GenO (h : Heap) (a : Addr) (g : Nat) : Prop := ∃ o nm qn, h.get? a = some o ∧ o.cls = .type "generator" ∧ o.data = .fields #[.int g 0, nm, qn] ∧ Awake o
theorem GenO.of {h : Heap} {a : Addr} {g : Nat} (x : h.IsGen a g) : GenO h a g := let ⟨o, nm, qn, h1, h2, h3, h4⟩ := x; ⟨o, nm, qn, h1, h2, h3, fun n t e => by rw [h4] at e; cases e⟩
theorem GenO.typeIs {s : Shared} {a : Addr} {g : Nat} (x : GenO s.heap a g) : s.TypeIs (.ref a) "generator" := let ⟨o, _, _, ho, hc, _⟩ := x; ⟨o, ho, hc⟩
theorem GenO.obj {h : Heap} {a : Addr} {g : Nat} (x : GenO h a g) : GenObj h a := let ⟨o, _, _, ho, hc, hd, _⟩ := x; ⟨o, ho, by unfold Obj.genNumber?; rw [hc, hd]; rfl⟩
theorem wpAny_genNumberO {M : Model} {A : Around} {E : Value → Shared → Prop} {s : Shared} {a : Addr} {g : Nat} {Q : Nat → Shared → Prop} (hg : GenO s.heap a g) (h : Q g s) :
    wpAny M A (Builtin.Generator.genNumber (.ref a)) Q E s := by
  obtain ⟨o, nm, qn, ho, _, hd, hsl⟩ := hg
  unfold Builtin.Generator.genNumber
  refine lf (PySem.wpAny_bind (wpAny_load ho ?_))
  have fin : PySem.wpAny M A (pure ((g : Int).toNat)) Q E s := by rw [Int.toNat_natCast]; exact PySem.wpAny_pure h
  rw [hd]
  show PySem.wpAny M A (match (o.slots[0]? : Option (Option Value)) with | some (some (Value.int n _)) => _ | _ => _) Q E s
  split
  · rename_i n t e
    have := hsl n t e
    rw [if_neg this]
    exact fin
  · exact fin
theorem pyIter_genO {P : Program} {w : World} {A : Around} {E : Value → Shared → Prop} {s : Shared} {a : Addr} {g : Nat} {Q : Value → Shared → Prop} (hg : GenO s.heap a g) (h : Q (.ref a) s) :
    wpAny (model P w) A (pyIter (.ref a)) Q E s := by
  refine lf (wpAny_pyIter_slot hg.typeIs slot_gen_iter (PySem.wpAny_call_entry slot_gen_iter hg.typeIs entry_gen_iter ?_ (args_gen_iter _)))
  show PySem.wpAny _ _ (ret (.ref a)) _ _ s
  exact PySem.wpAny_pure ⟨_, rfl, "generator", _, hg.typeIs, slot_gen_next.lookup, h⟩
theorem wpAny_genStateL {M : Model} {A : Around} {E : Value → Shared → Prop} {s : Shared} {g : Nat} {st : GenState} {Q : GenStatus → Shared → Prop} (hg : s.gens[g]? = some st) (h : Q st.status s) :
    wpAny M A (genState g) Q E s := lf (wpAny_genState hg h)
section
open GenW L2
variable {P : Program} {w : World} {A : Around} {E : Value → Shared → Prop} {s : Shared}
theorem next_sg {a : Addr} {g : Nat} {gs : GenState} {Φ : End → Shared → Prop} {Q : Option Value → Shared → Prop} (hh : A.handled = none)
    (hl : s.heap.NoLimit) (hroom : A.depth < recursionLimit) (hg : GenO s.heap a g) (hgs : s.gens[g]? = some gs)
    (hgo : SgGoes (model P w) A.in1 Φ gs (.send .none) (s.setGen g .running)) (hq : ∀ e s₁, Φ e s₁ → Mild s₁ e)
    (hY : ∀ v g₀ l₀ k₀ c₀ p₀ fs₀ s₁, Φ (.susp v g₀ l₀ k₀ c₀ p₀ fs₀) s₁ → Q (some v) (s₁.setGen g (End.susp v g₀ l₀ k₀ c₀ p₀ fs₀).genState))
    (hP : ∀ r s₁, Φ (.ret r) s₁ → (r = .ok (.ret .none) ∨ r = .ok .next) ∧ ∀ h', (∀ b o, s₁.heap.get? b = some o → h'.get? b = some o) → Q none { s₁.setGen g .finished with heap := h' }) :
    wpAny (model P w) A (pyNext (.ref a)) Q E s := by
  unfold pyNext
  refine wpAny_bind (wpAny_attempt (wpAny_callSpecial?_slot (name := Str.ofString "__next__") hg.typeIs slot_gen_next
    (wpAny_call_entry slot_gen_next hg.typeIs entry_gen_next ?_ (args_gen_next _))))
  show wpAny _ A.in1 (Builtin.Generator.genWake (.ref a) (.send .none)) _ _ s
  unfold Builtin.Generator.genWake
  refine wpAny_bind (wpAny_holding (wpAny_genNumberO hg (wpAny_bind (wpAny_genStateL hgs ?_))))
  cases gs with
  | running => exact hgo.elim
  | finished => exact hgo.elim
  | _ =>
    refine wpAny_bind (lf (wpAny_roomToWake hl hroom ?_))
    show wpAny _ A.in1 (.resume g (.send .none) [] _) _ _ s
    refine sg_resume hgs hgo hq (fun x s₁ hx => ?_) (fun v g₀ l₀ k₀ c₀ p₀ fs₀ s₁ hv => ?_)
    · obtain ⟨hr, hp⟩ := hP x s₁ hx
      have hres : End.result (.ret x) = .returned .none := by
        rcases hr with hr | hr <;> rw [hr] <;> rfl
      first | rw [hres] | simp only [hres]
      show wpAny _ A.in1 (newExc (.type "StopIteration") [] >>= _) _ _ _
      refine wpAny_bind ?_
      simp only [newExc, newTuple]
      refine wpAny_bind (lf (wpAny_newObj_type ?_ (by size_fits)))
      refine wpAny_bind (m := firstArgMember _ _) (wpAny_of_eq (a := Value.none) (by first | rfl | (simp only [firstArgMember]; rfl)) ?_)
      refine lf (wpAny_newObj_type ?_ (by size_fits))
      simp only [raiseNew]
      refine wpAny_bind (wpAny_bind (lf (wpAny_handled ?_)))
      first | rw [show A.in1.handled = none from hh] | rw [hh]
      refine wpAny_throw ?_
      refine wpAny_bind (lf (wpAny_isInstance (T := "StopIteration") (b := true) ⟨_, Heap.get?_push_size _ rfl, rfl⟩ isSubtype_stop ?_))
      exact wpAny_pure (hp _ fun b o hb => Heap.get?_push_of_some _ (Heap.get?_push_of_some _ hb))
    · exact wpAny_pure ⟨v, rfl, wpAny_pure (hY v g₀ l₀ k₀ c₀ p₀ fs₀ s₁ hv)⟩
end
end Qo
-- QZ
set_option maxRecDepth 100000
set_option maxHeartbeats 4000000
/-! QZ: a generator as an iterator. -/
namespace Qo
open PySem PySem.Spec PyProof.Rows

/-- what a generator knows, what is its own -/
structure Kn where
  im : Addr → Prop
  fp : Addr → Prop
  gp : Nat → Prop
def gh0 (im : Addr → Prop) : Gh := ⟨[], im⟩
structure StepK (S : Stat) (K K1 : Kn) (s s1 : Shared) : Prop where
  keep : ∀ a o, ¬ K.fp a → s.heap.get? a = some o → s1.heap.get? a = some o
  os : s1.os = s.os
  gens : ∀ (g : Nat) (x : GenState), ¬ K.gp g → s.gens[g]? = some x → s1.gens[g]? = some x
  bare : Soft s1
  fpn : ∀ a, K1.fp a → K.fp a ∨ s.heap.get? a = none
  gpn : ∀ g, K1.gp g → K.gp g ∨ s.gens[g]? = none
  im : ∀ a, K.im a → K1.im a
  imn : ∀ a, K1.im a → K.im a ∨ K.fp a ∨ s.heap.get? a = none
  hinv : HInv S (gh0 K1.im) [] s1.heap
  live : ∀ a, K1.fp a → ∃ o, s1.heap.get? a = some o
  apart : ∀ a, K1.fp a → ¬ K1.im a
  gl : ∀ g, K1.gp g → ∃ x, s1.gens[g]? = some x
/-- it is woken: all that is known or its own stands -/
structure Wok (K : Kn) (s s' : Shared) : Prop where
  keep : ∀ a o, (K.im a ∨ K.fp a) → s.heap.get? a = some o → s'.heap.get? a = some o
  gens : ∀ (g : Nat) (x : GenState), K.gp g → s.gens[g]? = some x → s'.gens[g]? = some x
theorem Wok.trans {K : Kn} {s s1 s2 : Shared} (a : Wok K s s1) (b : Wok K s1 s2) : Wok K s s2 := ⟨fun c o x y => b.keep c o x (a.keep c o x y), fun g x y z => b.gens g x y (a.gens g x y z)⟩
def PhiG (S : Stat) (A : Around) : List D → Kn → Shared → End → Shared → Prop
  | [], K, s, e, s1 => match e with
    | .ret r => (r = .ok (.ret .none) ∨ r = .ok .next) ∧ ∃ K1, StepK S K K1 s s1
    | .susp _ _ _ _ _ _ _ => False
  | y :: ys, K, s, e, s1 => match e with
    | .ret _ => False
    | .susp v g l k c p fs => Mild s1 (End.susp v g l k c p fs) ∧ ∃ K1, StepK S K K1 s s1 ∧ VR S (gh0 K1.im) s1.heap y v ∧ ∀ s2, Wok K1 s1 s2 → Soft s2 → Sg (model S.P S.w) A (fun e s3 => PhiG S A ys K1 s2 e s3) c (k (.send .none)) fs s2
theorem PhiG.mild {S : Stat} {A : Around} {ys : List D} {K : Kn} {s : Shared} {e : End} {s1 : Shared} (h : PhiG S A ys K s e s1) : Mild s1 e := by
  cases ys with
  | nil =>
    cases e with
    | ret r => trivial
    | susp v g l k c p fs => exact False.elim h
  | cons y ys =>
    cases e with
    | ret r => exact False.elim h
    | susp v g l k c p fs => exact h.1
/-- a generator object that stands -/
structure GAt (S : Stat) (A : Around) (a : Addr) (g : Nat) (ys : List D) (K : Kn) (s : Shared) : Prop where
  gen : GenO s.heap a g
  ng : ¬ K.gp g
  na : ¬ K.fp a ∧ ¬ K.im a
  st : ∃ gs, s.gens[g]? = some gs ∧ ∀ s2, Wok K s s2 → Soft s2 → SgGoes (model S.P S.w) A (PhiG S A ys K s2) gs (.send .none) s2
section
variable {S : Stat} {A : Around} {G : Gh} {hs : Hs} {s s0 s1 s2 : Shared} {K K1 : Kn} {fp : Addr → Prop} {gp : Nat → Prop}
def Gh.plus (G : Gh) (im : Addr → Prop) : Gh := ⟨G.mu, fun c => G.im c ∨ im c⟩
/-- a generator's step, seen by its consumer -/
theorem hinv_gen (I : HInv S G hs s.heap) (a : Apt fp gp G s) (kim : ∀ c, K.im c → G.im c) (kfp : ∀ c, K.fp c → fp c) (e0 : s0.heap = s.heap) (e : StepK S K K1 s0 s1) {h' : Heap} (k : ∀ b o, s1.heap.get? b = some o → h'.get? b = some o) :
    HInv S (G.plus K1.im) hs h' ∧ Grow G (G.plus K1.im) s.heap h' := by
  have keep : ∀ c o, ¬ fp c → s.heap.get? c = some o → h'.get? c = some o := fun c o n x => k c o (e.keep c o (fun z => n (kfp c z)) (by rw [e0]; exact x))
  have g : Grow G (G.plus K1.im) s.heap h' := ⟨fun _ x => .inl x, fun c o x y => keep c o (fun z => a.im c z x) y, fun _ _ x => x⟩
  have notK : ∀ c, ¬ fp c → ¬ G.im c → (∃ o, s.heap.get? c = some o) → ¬ K1.im c := fun c nf n ⟨o, x⟩ z => by
    rcases e.imn c z with y | y | y
    · exact n (kim c y)
    · exact nf (kfp c y)
    · rw [e0, x] at y; cases y
  have ex : ∀ (i : Nat) (p : Addr × Addr) (f : Bool) (c : Cell), G.mu[i]? = some p → hs[i]? = some (f, c) → (∃ o, s.heap.get? p.1 = some o) ∧ ∃ o, s.heap.get? p.2 = some o := fun i p f c x y => (I.cell i p f c x y).ex
  refine ⟨⟨I.len, I.inj, fun i p f c x y => (I.cell i p f c x y).mono g (fun o q => keep _ o (fun z => (a.mu _ z i p x).1 rfl) q) (fun o q => keep _ o (fun z => (a.mu _ z i p x).2 rfl) q), fun i p c x y => ?_, fun i p c x y => ?_, fun b x => ?_, fun b o x => ?_⟩, g⟩
  · obtain ⟨h1, h2⟩ := I.free i p c x y
    obtain ⟨l1, l2⟩ := ex i p _ c x y
    exact ⟨fun z => z.elim h1 (notK _ (fun z => (a.mu _ z i p x).1 rfl) h1 l1), fun z => z.elim h2 (notK _ (fun z => (a.mu _ z i p x).2 rfl) h2 l2)⟩
  · obtain ⟨h1, h2⟩ := I.froz i p c x y
    exact ⟨.inl h1, .inl h2⟩
  · rcases x with x | x
    · obtain ⟨o, y⟩ := I.live b x
      exact ⟨o, g.keep b o x y⟩
    · obtain ⟨o, y⟩ := e.hinv.live b x
      exact ⟨o, k b o y⟩
  · obtain ⟨h1, h2⟩ := I.base b o x
    exact ⟨g.keep b o h2 h1, .inl h2⟩
theorem setGen_ne {s : Shared} {g x : Nat} {y : GenState} (h : x ≠ g) : (s.setGen g y).gens[x]? = s.gens[x]? := by
  show (s.gens.setIfInBounds g y)[x]? = _
  rw [Array.getElem?_setIfInBounds_ne (Ne.symm h)]
theorem wok_run {a : Addr} {g : Nat} {ys : List D} (w : GAt S A a g ys K s) : Wok K s (s.setGen g .running) := ⟨fun _ _ _ x => x, fun x y z q => by
  have h : x ≠ g := fun e => w.ng (e ▸ z)
  rw [setGen_ne h]; exact q⟩
/-- a generator is an iterator -/
theorem wk_gen {tgt : Expr} {a : Addr} {g : Nat} {ds : List D} (hroom : A.depth < recursionLimit) :
    Wk VR S A tgt (.ref a) ds (fun _ => True) (fun i fp gp G s => ∃ K, fp = (fun c => K.fp c ∨ c = a) ∧ gp = (fun x => K.gp x ∨ x = g) ∧ (∀ c, K.im c → G.im c) ∧ GAt S A.in1 a g (ds.drop i) K s) where
  fr := by
    rintro i fp gp G s G' s' ⟨K, rfl, rfl, kim, w⟩ gr k kg
    obtain ⟨gs, h1, h2⟩ := w.st
    have wk : Wok K s s' := ⟨fun c o x y => x.elim (fun x => gr.keep c o (kim c x) y) fun x => k c o (.inl x) y, fun x y z q => kg x y (.inl z) q⟩
    refine ⟨K, rfl, rfl, fun c x => gr.im c (kim c x), ⟨?_, w.ng, w.na, gs, kg g gs (.inr rfl) h1, fun s2 q b => h2 s2 (wk.trans q) b⟩⟩
    obtain ⟨o, nm, qn, ho, r⟩ := w.gen
    exact ⟨o, nm, qn, k a o (.inr rfl) ho, r⟩
  self := by
    rintro i fp gp G s Q E ⟨K, rfl, rfl, kim, w⟩ h
    exact pyIter_genO w.gen h
  item := by
    rintro i fp gp d G hs s Q E hd ⟨K, rfl, rfl, kim, w⟩ ap b hk hQ
    obtain ⟨gs, h1, h2⟩ := w.st
    rw [drop_cons hd] at h2
    have hgsz : g < s.gens.size := (Array.getElem?_eq_some_iff.mp h1).1
    have br : Soft (s.setGen g .running) := Soft.running b.bare
    refine next_sg b.hd b.nolimit hroom w.gen h1 (h2 _ (wok_run w) br) (fun e s1 h => PhiG.mild h) (fun v g₀ l₀ k₀ c₀ p₀ fs₀ s1 hv => ?_) (fun r s1 h => False.elim h)
    obtain ⟨hq, K1, e, rv, cont⟩ := hv
    refine ⟨v, rfl, ?_⟩
    have run1 : s1.gens[g]? = some .running := e.gens g _ w.ng (L2.setGen_at hgsz)
    have gsz1 : g < s1.gens.size := (Array.getElem?_eq_some_iff.mp run1).1
    obtain ⟨o, nm, qn, ho, hc, hdt, hsl⟩ := id w.gen
    have ha1 : s1.heap.get? a = some o := e.keep a o w.na.1 ho
    obtain ⟨H', gr⟩ := hinv_gen (s0 := s.setGen g .running) b.hinv ap kim (fun c x => .inl x) rfl e (fun _ _ x => x)
    have na1 : ¬ K1.fp a ∧ ¬ K1.im a := ⟨fun z => (e.fpn a z).elim w.na.1 fun z => (by rw [show (s.setGen g .running).heap.get? a = some o from ho] at z; cases z), fun z => (e.imn a z).elim w.na.2 fun z => z.elim w.na.1 fun z => (by rw [show (s.setGen g .running).heap.get? a = some o from ho] at z; cases z)⟩
    have ng1 : ¬ K1.gp g := fun z => (e.gpn g z).elim w.ng fun z => by rw [L2.setGen_at hgsz] at z; cases z
    have its : ItS S (fun c => K.fp c ∨ c = a) (fun x => K.gp x ∨ x = g) G hs s (G.plus K1.im) (s1.setGen g (End.susp v g₀ l₀ k₀ c₀ p₀ fs₀).genState) := by
      refine ⟨fun c o n x => e.keep c o (fun z => n (.inl z)) x, e.os, fun x y n q => ?_, fun _ => Soft.mild e.bare hq, rfl, fun _ x => .inl x, fun c x => x.elim .inl fun x => (e.imn c x).elim (fun y => .inl (kim c y)) fun y => .inr (y.elim (fun q => .inl (.inl q)) .inr), H'⟩
      have hne : x ≠ g := fun z => n (.inr z)
      rw [setGen_ne hne]
      exact e.gens x y (fun z => n (.inl z)) (by rw [setGen_ne hne]; exact q)
    refine lf (L2.go_of (s := s1.setGen g (End.susp v g₀ l₀ k₀ c₀ p₀ fs₀).genState) ha1 hc hdt (by decide) (hQ v (fun c => K1.fp c ∨ c = a) (fun x => K1.gp x ∨ x = g) (G.plus K1.im) _ its ⟨fun c x => ?_, fun c x i p q => ?_, fun c x z => ?_, fun x z => ?_⟩ (fun c x => x.elim (fun x => (e.fpn c x).elim (fun y => .inl (.inl y)) .inr) fun x => .inl (.inr x)) (fun x z => z.elim (fun z => (e.gpn x z).elim (fun y => .inl (.inl y)) fun y => ?_) fun z => .inl (.inr z)) (VR.mono (G := gh0 K1.im) (G' := G.plus K1.im) (h := s1.heap) (h' := s1.heap) ⟨fun _ x => Or.inr x, fun _ _ _ x => x, fun i p x => by simp [gh0] at x⟩ _ _ rv) ⟨K1, rfl, rfl, fun c x => .inr x, ⟨⟨o, nm, qn, ha1, hc, hdt, hsl⟩, ng1, na1, _, L2.setGen_at gsz1, fun s2 wk bb => ?_⟩⟩))
    · rcases x with x | rfl
      · exact e.live c x
      · exact ⟨o, ha1⟩
    · rcases x with x | rfl
      · rcases e.fpn c x with y | y
        · exact ap.mu c (.inl y) i p q
        · exact Inv.muNone (X := Cx0 S) b.hinv y i p q
      · exact ap.mu c (.inr rfl) i p q
    · rcases x with x | rfl
      · rcases z with z | z
        · rcases e.fpn c x with y | y
          · exact ap.im c (.inl y) z
          · exact Inv.imNone (X := Cx0 S) b.hinv y z
        · exact e.apart c x z
      · rcases z with z | z
        · exact ap.im c (.inr rfl) z
        · exact na1.2 z
    · rcases z with z | rfl
      · obtain ⟨y, q⟩ := e.gl x z
        have hne : x ≠ g := fun w' => ng1 (w' ▸ z)
        exact ⟨y, by rw [setGen_ne hne]; exact q⟩
      · exact ⟨_, L2.setGen_at gsz1⟩
    · by_cases hne : x = g
      · exact .inl (.inr hne)
      · rw [setGen_ne hne] at y; exact .inr y
    · refine cont s2 ⟨fun c o x y => wk.keep c o x y, fun x y z q => wk.gens x y z ?_⟩ bb
      have hne : x ≠ g := fun w' => ng1 (w' ▸ z)
      rw [setGen_ne hne]; exact q
  stop := by
    rintro fp gp G hs s Q E ⟨K, rfl, rfl, kim, w⟩ ap b hk hQ
    obtain ⟨gs, h1, h2⟩ := w.st
    rw [List.drop_length] at h2
    have hgsz : g < s.gens.size := (Array.getElem?_eq_some_iff.mp h1).1
    have br : Soft (s.setGen g .running) := Soft.running b.bare
    refine next_sg b.hd b.nolimit hroom w.gen h1 (h2 _ (wok_run w) br) (fun e s1 h => PhiG.mild h) (fun v g₀ l₀ k₀ c₀ p₀ fs₀ s1 hv => False.elim hv) (fun r s1 h => ?_)
    obtain ⟨hr, K1, e⟩ := h
    refine ⟨hr, fun h' k => ⟨rfl, ?_⟩⟩
    obtain ⟨H', gr⟩ := hinv_gen (s0 := s.setGen g .running) b.hinv ap kim (fun c x => .inl x) rfl e k
    refine hQ (G.plus K1.im) _ ⟨fun c o n x => k c o (e.keep c o (fun z => n (.inl z)) x), e.os, fun x y n q => ?_, fun _ => (Soft.finished e.bare).keeps (s' := { s1.setGen g .finished with heap := h' }) rfl fun a x => x.keeps (k a), rfl, fun _ x => .inl x, fun c x => x.elim .inl fun x => (e.imn c x).elim (fun y => .inl (kim c y)) fun y => .inr (y.elim (fun q => .inl (.inl q)) .inr), H'⟩
    have hne : x ≠ g := fun z => n (.inr z)
    show (s1.setGen g .finished).gens[x]? = _
    rw [setGen_ne hne]
    exact e.gens x y (fun z => n (.inl z)) (by rw [setGen_ne hne]; exact q)
end
end Qo
-- RA
set_option maxRecDepth 100000
set_option maxHeartbeats 4000000
/-! RA: a generator's statements. -/
namespace Qo
open PySem PySem.Spec PyProof.Rows

/-- what must stand while a statement runs (the iterators of the loops around) -/
structure Prot where
  at_ : Addr → Obj → Prop
  ia : Addr → Obj → Prop
  gen : Nat → GenState → Prop
  im : Addr → Prop
/-- where a generator's code stands: woken at s0 with K0, now at s with K -/
structure GPos (X : Cx) (pf : Prot) (K0 : Kn) (s0 : Shared) (K : Kn) (σ : St) (s : Shared) : Prop where
  step : StepK X.S K0 K s0 s
  inv : Inv X (gh0 K.im) σ [] s
  own : ∀ a, X.own a → K.fp a
  fr : ∀ a, X.fr a → K.fp a ∨ K.im a
  prot : ∀ a o, pf.at_ a o → s.heap.get? a = some o ∧ K.fp a ∧ ¬ X.own a
  protia : ∀ a o, pf.ia a o → s.heap.get? a = some o ∧ K.im a
  protg : ∀ g x, pf.gen g x → s.gens[g]? = some x ∧ K.gp g
  proti : ∀ a, pf.im a → K.im a
section
variable {X : Cx} {pf : Prot} {K0 K : Kn} {s0 s s' : Shared} {σ σ' : St} {G' : Gh} {Z : Addr → Prop}
theorem noWr0 {im : Addr → Prop} {a : Addr} : ¬ Wr (gh0 im) [] a := fun ⟨i, p, c, h, _, _⟩ => by simp [gh0] at h
theorem GPos.ev (p : GPos X pf K0 s0 K σ s) (e : Ev X.S Z (gh0 K.im) [] s G' [] s') (hzo : ∀ a, Z a → X.own a) (I : Inv X G' σ' [] s') : G' = gh0 G'.im ∧ GPos X pf K0 s0 ⟨G'.im, K.fp, K.gp⟩ σ' s' := by
  have hz : ∀ a, Z a → K.fp a := fun a x => p.own a (hzo a x)
  have hmu : G'.mu = [] := List.length_eq_zero_iff.mp e.inv.len
  have eG : G' = gh0 G'.im := by
    obtain ⟨mu, im⟩ := G'
    simp only at hmu
    subst hmu
    rfl
  have dead : ∀ a, s.heap.get? a = none → K0.fp a ∨ s0.heap.get? a = none := fun a x => by
    by_cases h : K0.fp a
    · exact .inl h
    refine .inr ?_
    cases q : s0.heap.get? a with
    | none => rfl
    | some o =>
      have := p.step.keep a o h q
      rw [x] at this; cases this
  refine ⟨eG, ⟨⟨fun a o n x => ?_, e.stp.os.trans p.step.os, fun g x n y => e.stp.gens g x (p.step.gens g x n y), e.stp.bare p.step.bare, p.step.fpn, p.step.gpn, fun a x => e.im a (p.step.im a x), fun a x => ?_, ?_, fun a x => ?_, fun a x z => ?_, fun g x => ?_⟩, ?_, p.own, fun a x => (p.fr a x).elim .inl fun y => .inr (e.im a y), fun a o x => ?_, fun a o x => ?_, fun g x y => ?_, fun a x => e.im a (p.proti a x)⟩⟩
  · refine e.stp.keep a o (fun z => z.elim noWr0 fun z => ?_) (p.step.keep a o n x)
    rcases p.step.fpn a (hz a z) with y | y
    · exact n y
    · rw [y] at x; cases x
  · rcases e.imn a x with y | y | y
    · exact p.step.imn a y
    · exact .inr (dead a y)
    · exact absurd y noWr0
  · show HInv X.S (gh0 G'.im) [] s'.heap
    rw [← eG]; exact e.inv
  · obtain ⟨o, y⟩ := p.step.live a x
    exact e.stp.live a o y
  · rcases e.imn a z with y | y | y
    · exact p.step.apart a x y
    · obtain ⟨o, q⟩ := p.step.live a x
      rw [y] at q; cases q
    · exact noWr0 y
  · obtain ⟨y, z⟩ := p.step.gl g x
    exact ⟨y, e.stp.gens g y z⟩
  · show Inv X (gh0 G'.im) σ' [] s'
    rw [← eG]; exact I
  · obtain ⟨h1, h2, h3⟩ := p.prot a o x
    exact ⟨e.stp.keep a o (fun z => z.elim noWr0 fun z => h3 (hzo a z)) h1, h2, h3⟩
  · obtain ⟨h1, h2⟩ := p.protia a o x
    exact ⟨e.stp.keep a o (fun z => z.elim noWr0 fun z => p.step.apart a (hz a z) h2) h1, e.im a h2⟩
  · obtain ⟨h1, h2⟩ := p.protg g x y
    exact ⟨e.stp.gens g x h1, h2⟩
/-- woken again -/
theorem GPos.woken (p : GPos X pf K0 s0 K σ s) {s2 : Shared} (w : Wok K s s2) (b : Soft s2) : GPos X pf K s2 K σ s2 := by
  have I := p.inv
  have kf : ∀ a, X.fr a → ∀ o, s.heap.get? a = some o → s2.heap.get? a = some o := fun a x o y => w.keep a o ((p.fr a x).elim .inr .inl) y
  have g : Grow (gh0 K.im) (gh0 K.im) s.heap s2.heap := ⟨fun _ x => x, fun a o x y => w.keep a o (.inl x) y, fun _ _ x => x⟩
  have H : HInv X.S (gh0 K.im) [] s2.heap := by
    refine ⟨rfl, fun i j p q x => ?_, fun i p f c x => ?_, fun i p c x => ?_, fun i p c x => ?_, fun a x => ?_, fun a o x => ?_⟩
    · simp [gh0] at x
    · simp [gh0] at x
    · simp [gh0] at x
    · simp [gh0] at x
    · obtain ⟨o, y⟩ := I.hinv.live a x
      exact ⟨o, w.keep a o (.inl x) y⟩
    · obtain ⟨h1, h2⟩ := I.hinv.base a o x
      exact ⟨w.keep a o (.inl h2) h1, h2⟩
  refine ⟨⟨fun _ _ _ x => x, rfl, fun _ _ _ x => x, b, fun _ x => .inl x, fun _ x => .inl x, fun _ x => x, fun _ x => .inl x, H, fun a x => ?_, p.step.apart, fun g x => ?_⟩, ⟨I.ok, H, ⟨?_, fun x c y => ?_, fun a x i p h1 => ?_, I.fr.nim⟩, b⟩, p.own, p.fr, fun a o x => let ⟨h1, h2, h3⟩ := p.prot a o x; ⟨w.keep a o (.inr h2) h1, h2, h3⟩, fun a o x => let ⟨h1, h2⟩ := p.protia a o x; ⟨w.keep a o (.inl h2) h1, h2⟩, fun g x y => let ⟨h1, h2⟩ := p.protg g x y; ⟨w.gens g x h2 h1, h2⟩, p.proti⟩
  · obtain ⟨o, y⟩ := p.step.live a x
    exact ⟨o, w.keep a o (.inr x) y⟩
  · obtain ⟨y, z⟩ := p.step.gl g x
    exact ⟨y, w.gens g y x z⟩
  · obtain ⟨m, ⟨o, es, ep, e1, r⟩, q⟩ := I.fr.loc
    refine ⟨m, ⟨o, es, ep, kf _ (.inl rfl) o e1, r⟩, fun x i d h1 h2 hv => ?_⟩
    obtain ⟨u, r1, l⟩ := q x i d h1 h2 hv
    refine ⟨u, VR.mono g d u r1, ?_⟩
    rcases l with l | ⟨kk, c, h3, o', h4, h5⟩
    · exact .inl l
    · exact .inr ⟨kk, c, h3, o', kf c (.inr ⟨x, h3⟩) o' h4, h5⟩
  · obtain ⟨v, o, h1, h2⟩ := I.fr.cell x c y
    exact ⟨v, o, kf c (.inr ⟨x, y⟩) o h1, h2⟩
  · simp [gh0] at h1
end
/-- what a generator's statement hands out, and how it ends -/
abbrev SY := St → Option (List D × Fl × St)
structure GCode (X : Cx) (A : Around) (c : Code) (fs : List Frame) (gd : Bool → Bool) : Prop where
  over : A.over c fs = X.A
  split : splitAtGen fs = none
  guard : fs.any Frame.guarded = false
  gd : gd false = false
def GCont (X : Cx) (pf : Prot) (A : Around) (c : Code) (fs : List Frame) (Kf : Flow → Sem PySem.Fin) (rest : List D) (fl : Fl) (σ' : St) : Prop :=
  ∀ (K0 : Kn) (s0 : Shared) (K : Kn) (s : Shared) (f : Flow), GPos X pf K0 s0 K σ' s → FlR X.S (gh0 K.im) s.heap fl f → Sg (model X.S.P X.S.w) A (PhiG X.S A rest K0 s0) c (Kf f) fs s
structure GS (X : Cx) (st : Stmt) (m : SY) : Prop where
  run : ∀ (pf : Prot) (A : Around) (rest : List D) (K0 : Kn) (s0 : Shared) (K : Kn) (s : Shared) (σ : St) (ys : List D) (fl : Fl) (σ' : St) (c : Code) (fs : List Frame) (Kf : Flow → Sem PySem.Fin) (J : Value → Sem PySem.Fin) (gd : Bool → Bool) (lv : List Value → List Value),
    GCode X A c fs gd → GPos X pf K0 s0 K σ s → m σ = some (ys, fl, σ') → GCont X pf A c fs Kf rest fl σ' → Sg (model X.S.P X.S.w) A (PhiG X.S A (ys ++ rest) K0 s0) c ((exec st X.env).wrap Kf J gd lv) fs s
structure GSs (X : Cx) (st : List Stmt) (m : SY) : Prop where
  run : ∀ (pf : Prot) (A : Around) (rest : List D) (K0 : Kn) (s0 : Shared) (K : Kn) (s : Shared) (σ : St) (ys : List D) (fl : Fl) (σ' : St) (c : Code) (fs : List Frame) (Kf : Flow → Sem PySem.Fin) (J : Value → Sem PySem.Fin) (gd : Bool → Bool) (lv : List Value → List Value),
    GCode X A c fs gd → GPos X pf K0 s0 K σ s → m σ = some (ys, fl, σ') → GCont X pf A c fs Kf rest fl σ' → Sg (model X.S.P X.S.w) A (PhiG X.S A (ys ++ rest) K0 s0) c ((execs st X.env).wrap Kf J gd lv) fs s
section
variable {X : Cx}
/-- yield e -/
def yYield (m : SE) : SY := fun σ => match m σ [] with
  | .ok d [] => some ([d], .nx, σ)
  | _ => none
theorem gs_yield {e : Expr} {m : SE} {yp pos : Pos} (he : PE X e m) (hco : X.env.scope.isCoroutine = false) (hi : interactive X.env = false) : GS X (.Expr (.Yield (some e) yp) pos) (yYield m) := by
  refine ⟨fun pf A rest K0 s0 K s σ ys fl σ' c fs Kf J gd lv g p hm k => ?_⟩
  unfold yYield at hm
  split at hm
  · rename_i d em
    cases hm
    rw [exec_Expr X.env _ pos hi rfl]
    show Sg _ A _ c (.at pos fun _ => ((eval e X.env >>= fun v => (standAt yp >>= fun _ => yieldOut X.env v)) >>= fun x => dropValue (.Yield (some e) yp) pos x).wrap Kf J gd lv) fs s
    have hy : ∀ v, yieldOut X.env v = yieldValue v := fun v => by simp only [yieldOut, hco, Bool.false_eq_true, if_false]
    simp only [hy]
    refine sg_at ?_
    rw [Sem.bind_eq_wrap', Sem.bind_eq_wrap', Sem.wrap_wrap, Sem.wrap_wrap]
    refine sg_wrap ?_
    rw [g.over]
    refine (he.run (gh0 K.im) σ [] s p.inv).go (by rw [em]; intro _ _ z; cases z) (by rw [em]; intro z; cases z) fun d' h1 v s1 G1 ed e1 r1 => ?_
    rw [em] at ed
    cases ed
    obtain ⟨eG, p1⟩ := p.ev e1 (fun _ z => z.elim) (p.inv.step e1)
    refine sg_at (sg_yield g.split fun pp => ⟨?_, _, p1.step, ?_, fun s2 w b => ?_⟩)
    · exact ⟨g.guard, fun z => absurd (g.gd.symm.trans z) (by decide)⟩
    · have : VR X.S G1 s1.heap d v := r1
      rw [eG] at this
      exact this
    · exact k _ _ _ _ .next (p1.woken w b) trivial
  · cases hm
/-- a statement that hands out nothing -/
def yPlain (m : SS) : SY := fun σ => match m σ [] with
  | .ok (fl, σ') [] => some ([], fl, σ')
  | _ => none
theorem gs_ps {st : Stmt} {m : SS} (h : PS X st m) : GS X st (yPlain m) := by
  refine ⟨fun pf A rest K0 s0 K s σ ys fl σ' c fs Kf J gd lv g p hm k => ?_⟩
  unfold yPlain at hm
  split at hm
  · rename_i fl' σ2 em
    cases hm
    refine sg_wrap ?_
    rw [g.over]
    refine (h.run (gh0 K.im) σ [] s p.inv).go (by rw [em]; intro _ _ z; cases z) (by rw [em]; intro z; cases z) fun r h1 f s1 G1 er e1 r1 => ?_
    rw [em] at er
    cases er
    obtain ⟨f1, q1⟩ := r1
    obtain ⟨eG, p1⟩ := p.ev e1 (fun _ z => z) (p.inv.stepS e1 f1)
    refine k _ _ _ _ f p1 ?_
    rw [eG] at q1
    exact q1
  · cases hm
def yNil : SY := fun σ => some ([], .nx, σ)
theorem gss_nil : GSs X [] yNil := by
  refine ⟨fun pf A rest K0 s0 K s σ ys fl σ' c fs Kf J gd lv g p hm k => ?_⟩
  cases hm
  exact sg_wrap (wpAny_execs_nil (k _ _ _ _ .next p trivial))
def yCons (a b : SY) : SY := fun σ => match a σ with
  | some (ys, .nx, σ1) => match b σ1 with
    | some (zs, fl, σ2) => some (ys ++ zs, fl, σ2)
    | none => none
  | r => r
theorem gss_cons {st : Stmt} {rs : List Stmt} {a b : SY} (h1 : GS X st a) (h2 : GSs X rs b) : GSs X (st :: rs) (yCons a b) := by
  refine ⟨fun pf A rest K0 s0 K s σ ys fl σ' c fs Kf J gd lv g p hm k => ?_⟩
  rw [execs_cons]
  rw [Sem.bind_eq_wrap', Sem.wrap_wrap]
  unfold yCons at hm
  split at hm
  · rename_i ys1 σ1 ea
    split at hm
    · rename_i zs fl2 σ2 eb
      cases hm
      rw [List.append_assoc]
      refine h1.run pf A (zs ++ rest) K0 s0 K s σ ys1 .nx σ1 c fs _ _ gd lv g p ea fun K0' s0' K' s' f p' q => ?_
      cases f with
      | next => exact h2.run pf A rest K0' s0' K' s' σ1 zs _ _ c fs Kf J gd lv g p' eb k
      | _ => exact False.elim q
    · cases hm
  · rename_i hne
    refine h1.run pf A rest K0 s0 K s σ ys fl σ' c fs _ _ gd lv g p hm fun K0' s0' K' s' f p' q => ?_
    cases f with
    | next =>
      cases fl with
      | nx => exact absurd hm (hne _ _)
      | _ => exact False.elim q
    | _ => exact sg_wrap (wpAny_pure (k _ _ _ _ _ p' q))
def yIf (t : ST) (a b : SY) : SY := fun σ => match t σ [] with
  | .ok true [] => a σ
  | .ok false [] => b σ
  | _ => none
theorem gs_if {e : Expr} {body orelse : List Stmt} {t : ST} {a b : SY} {pos : Pos} (ht : PT X e t) (h1 : GSs X body a) (h2 : GSs X orelse b) : GS X (.If e body orelse pos) (yIf t a b) := by
  refine ⟨fun pf A rest K0 s0 K s σ ys fl σ' c fs Kf J gd lv g p hm k => ?_⟩
  rw [exec_If]
  show Sg _ A _ c (.at pos fun _ => ((isTrue e X.env (eval e X.env)) >>= fun b => if b = true then execs body X.env else execs orelse X.env).wrap Kf J gd lv) fs s
  refine sg_at (sg_bind_wrap ?_)
  rw [g.over]
  unfold yIf at hm
  refine (ht.run (gh0 K.im) σ [] s p.inv).go (by intro x h z; rw [z] at hm; cases hm) (by intro z; rw [z] at hm; cases hm) fun d h1' d' s1 G1 ed e1 r1 => ?_
  subst r1
  rw [ed] at hm
  cases h1' with
  | cons _ _ => cases d' <;> cases hm
  | nil =>
    obtain ⟨eG, p1⟩ := p.ev e1 (fun _ z => z.elim) (p.inv.step e1)
    cases d' with
    | true => exact h1.run pf A rest K0 s0 _ s1 σ ys fl σ' c fs Kf J gd lv g p1 hm k
    | false => exact h2.run pf A rest K0 s0 _ s1 σ ys fl σ' c fs Kf J gd lv g p1 hm k
end
end Qo
-- RB
set_option maxRecDepth 100000
set_option maxHeartbeats 4000000
/-! RB: loops in a generator. -/
namespace Qo
open PySem PySem.Spec PyProof.Rows
section
variable {X : Cx} {pf : Prot} {K0 K : Kn} {s0 s s' : Shared} {σ σ' : St} {G' : Gh} {fp fp' : Addr → Prop} {gp gp' : Nat → Prop}
theorem GPos.dead (p : GPos X pf K0 s0 K σ s) {a : Addr} (x : s.heap.get? a = none) : K0.fp a ∨ s0.heap.get? a = none := by
  by_cases h : K0.fp a
  · exact .inl h
  refine .inr ?_
  cases q : s0.heap.get? a with
  | none => rfl
  | some o =>
    have := p.step.keep a o h q
    rw [x] at this; cases this
theorem GPos.deadg (p : GPos X pf K0 s0 K σ s) {g : Nat} (x : s.gens[g]? = none) : K0.gp g ∨ s0.gens[g]? = none := by
  by_cases h : K0.gp g
  · exact .inl h
  refine .inr ?_
  cases q : s0.gens[g]? with
  | none => rfl
  | some o =>
    have := p.step.gens g o h q
    rw [x] at this; cases this
/-- what is new is its own -/
theorem GPos.add (p : GPos X pf K0 s0 K σ s) (a : Apt fp gp (gh0 K.im) s) (nf : ∀ a, fp a → K0.fp a ∨ s0.heap.get? a = none) (ng : ∀ g, gp g → K0.gp g ∨ s0.gens[g]? = none) :
    GPos X pf K0 s0 ⟨K.im, fun c => K.fp c ∨ fp c, fun g => K.gp g ∨ gp g⟩ σ s := by
  refine ⟨⟨p.step.keep, p.step.os, p.step.gens, p.step.bare, fun c x => x.elim (p.step.fpn c) fun y => nf c y, fun g x => x.elim (p.step.gpn g) fun y => ng g y, p.step.im, p.step.imn, p.step.hinv, fun c x => x.elim (p.step.live c) (a.live c), fun c x => x.elim (p.step.apart c) (a.im c), fun g x => x.elim (p.step.gl g) (a.gl g)⟩,
    p.inv, fun c x => .inl (p.own c x), fun c x => (p.fr c x).elim (fun y => .inl (.inl y)) .inr, fun c o x => ?_, p.protia, fun g x y => ?_, p.proti⟩
  · obtain ⟨h1, h2, h3⟩ := p.prot c o x
    exact ⟨h1, .inl h2, h3⟩
  · obtain ⟨h1, h2⟩ := p.protg g x y
    exact ⟨h1, .inl h2⟩
/-- an iterator of its own turns -/
theorem GPos.it (p : GPos X pf K0 s0 K σ s) (t : ItS X.S fp gp (gh0 K.im) [] s G' s') (a' : Apt fp' gp' G' s') (fk : ∀ a, fp a → K.fp a) (gk : ∀ g, gp g → K.gp g) (hf : ∀ a, fp a → ¬ X.fr a)
    (np : ∀ a o, pf.at_ a o → ¬ fp a) (npg : ∀ g x, pf.gen g x → ¬ gp g) (nf : ∀ a, fp' a → fp a ∨ s.heap.get? a = none) (ng : ∀ g, gp' g → gp g ∨ s.gens[g]? = none) :
    G' = gh0 G'.im ∧ GPos X pf K0 s0 ⟨G'.im, fun c => (K.fp c ∧ ¬ fp c) ∨ fp' c, fun g => (K.gp g ∧ ¬ gp g) ∨ gp' g⟩ σ s' := by
  have eG : G' = gh0 G'.im := by
    have := t.mu
    obtain ⟨mu, im⟩ := G'
    simp only [gh0] at this
    subst this
    rfl
  have ni : ∀ a, fp a → ¬ K.im a := fun a x => p.step.apart a (fk a x)
  have fpK : ∀ a, ¬ K0.fp a → ∀ o, s0.heap.get? a = some o → ¬ fp a := fun a n o x z => by
    rcases p.step.fpn a (fk a z) with y | y
    · exact n y
    · rw [y] at x; cases x
  have gpK : ∀ g, ¬ K0.gp g → ∀ x, s0.gens[g]? = some x → ¬ gp g := fun g n o x z => by
    rcases p.step.gpn g (gk g z) with y | y
    · exact n y
    · rw [y] at x; cases x
  refine ⟨eG, ⟨⟨fun a o n x => t.keep a o (fpK a n o x) (p.step.keep a o n x), t.os.trans p.step.os, fun g x n y => t.gens g x (gpK g n x y) (p.step.gens g x n y), t.bare p.step.bare, fun a x => ?_, fun g x => ?_, fun a x => t.im a (p.step.im a x), fun a x => ?_, ?_, fun a x => ?_, fun a x z => ?_, fun g x => ?_⟩, ?_, fun a x => .inl ⟨p.own a x, fun z => hf a z (p.inv.ok.ownf a x)⟩, fun a x => ?_, fun a o x => ?_, fun a o x => ?_, fun g x y => ?_, fun a x => t.im a (p.proti a x)⟩⟩
  · rcases x with ⟨x, _⟩ | x
    · exact p.step.fpn a x
    · exact (nf a x).elim (fun y => p.step.fpn a (fk a y)) fun y => p.dead y
  · rcases x with ⟨x, _⟩ | x
    · exact p.step.gpn g x
    · exact (ng g x).elim (fun y => p.step.gpn g (gk g y)) fun y => p.deadg y
  · rcases t.imn a x with y | y | y
    · exact p.step.imn a y
    · exact .inr (p.step.fpn a (fk a y))
    · exact .inr (p.dead y)
  · show HInv X.S (gh0 G'.im) [] s'.heap
    rw [← eG]; exact t.inv
  · rcases x with ⟨x, n⟩ | x
    · obtain ⟨o, y⟩ := p.step.live a x
      exact ⟨o, t.keep a o n y⟩
    · exact a'.live a x
  · rcases x with ⟨x, n⟩ | x
    · rcases t.imn a z with y | y | y
      · exact p.step.apart a x y
      · exact n y
      · obtain ⟨o, q⟩ := p.step.live a x
        rw [y] at q; cases q
    · exact a'.im a x z
  · rcases x with ⟨x, n⟩ | x
    · obtain ⟨y, z⟩ := p.step.gl g x
      exact ⟨y, t.gens g y n z⟩
    · exact a'.gl g x
  · show Inv X (gh0 G'.im) σ [] s'
    rw [← eG]; exact p.inv.it t hf ni
  · rcases p.fr a x with y | y
    · exact .inl (.inl ⟨y, fun z => hf a z x⟩)
    · exact .inr (t.im a y)
  · obtain ⟨h1, h2, h3⟩ := p.prot a o x
    exact ⟨t.keep a o (np a o x) h1, .inl ⟨h2, np a o x⟩, h3⟩
  · obtain ⟨h1, h2⟩ := p.protia a o x
    exact ⟨t.keep a o (fun z => ni a z h2) h1, t.im a h2⟩
  · obtain ⟨h1, h2⟩ := p.protg g x y
    exact ⟨t.gens g x (npg g x y) h1, .inl ⟨h2, npg g x y⟩⟩
/-- a loop's own code -/
theorem gc_loop {A : Around} {c c' : Code} {fs : List Frame} {gd : Bool → Bool} {k : Result → Sem PySem.Fin} {l kp : List Value} {p : Pos} (g : GCode X A c fs gd) (hw : c'.weight = 0) (hu : c'.cUnits = 0) :
    GCode X A c' (.ret k none (gd false) l c p kp :: fs) id where
  over := (GenW.over_loop hw hu).trans g.over
  split := by
    show (splitAtGen fs).map _ = none
    rw [g.split]; rfl
  guard := by
    show (gd false || fs.any Frame.guarded) = false
    rw [g.gd, g.guard]; rfl
  gd := rfl
end
end Qo
-- RC
set_option maxRecDepth 100000
set_option maxHeartbeats 4000000
/-! RC: a for's own code in a generator. -/
namespace Qo
open PySem PySem.Spec PyProof.Rows
section
variable {prog : Program} {w : World} {A : Around} {Φ : End → Shared → Prop} {fs : List Frame} {s : Shared} {env : Env}
/-- the code after a turn of a for -/
def forEnd (target : Expr) (it : Value) (body orelse : List Stmt) (env : Env) : Flow → Sem PySem.Fin := fun f => match f with
  | .next | .cont => .pure (.again (.forLoop target it body orelse env))
  | .brk => .pure (.done .next)
  | .ret v => .pure (.done (.ret v))
def forExc (env : Env) : Value → Sem PySem.Fin := fun e => (do noteFrame e env; theTreesLotGoes e : Sem Unit).wrap (fun _ => .raise e) .raise id id
theorem sg_forLoop {target : Expr} {it : Value} {body orelse : List Stmt}
    (h : wpAny (model prog w) (A.over (.forLoop target it body orelse env) fs) (pyNext it) (fun r s1 => match r with
      | none => Sg (model prog w) A Φ (.forLoop target it body orelse env) (.pure (.again (.block orelse env))) fs s1
      | some v => wpAny (model prog w) (A.over (.forLoop target it body orelse env) fs) (letOwnedTupleGo target it v) (fun _ s2 => wpAny (model prog w) (A.over (.forLoop target it body orelse env) fs) (assign target env v) (fun _ s3 =>
          Sg (model prog w) A Φ (.forLoop target it body orelse env) ((execs body env).wrap (forEnd target it body orelse env) (forExc env) id id) fs s3) (fun _ _ => False) s2) (fun _ _ => False) s1) (fun _ _ => False) s) :
    Sg (model prog w) A Φ (.forLoop target it body orelse env) ((model prog w).den (.forLoop target it body orelse env)) fs s := by
  show Sg _ A Φ _ ((forTurn target it body orelse env).onRaise (fun x => do noteFrame x env; theTreesLotGoes x)) fs s
  unfold forTurn
  rw [Sem.onRaise_eq_wrap, Sem.bind_eq_wrap', Sem.wrap_wrap]
  refine sg_wrap (wpAny_standAt ?_)
  rw [Sem.bind_eq_wrap', Sem.wrap_wrap]
  refine sg_wrap (wpAny_onRaise (wpAny_mono h (fun r s1 h1 => ?_) fun _ _ z => z.elim))
  cases r with
  | none => exact h1
  | some v =>
    show Sg _ A Φ _ (Sem.wrap _ _ _ _ (letOwnedTupleGo target it v >>= _)) fs s1
    rw [Sem.bind_eq_wrap', Sem.wrap_wrap]
    refine sg_wrap (wpAny_mono h1 (fun _ s2 h2 => ?_) fun _ _ z => z.elim)
    rw [Sem.bind_eq_wrap', Sem.wrap_wrap]
    refine sg_wrap (wpAny_mono h2 (fun _ s3 h3 => ?_) fun _ _ z => z.elim)
    rw [Sem.bind_eq_wrap', Sem.wrap_wrap]
    rw [Sem.wrap_congr (execs body env) _ _ (K' := forEnd target it body orelse env) (H' := forExc env)
        (fun f => by cases f <;> rfl)
        (fun e => by first | exact Sem.bind_eq_wrap _ _ | (show (do noteFrame e env; theTreesLotGoes e : Sem Unit).bind (fun _ => .raise e) = _; rw [Sem.bind_eq_wrap]; rfl))]
    exact h3
theorem sg_For {M : Model} {c : Code} {target iter : Expr} {body orelse : List Stmt} {pos : Pos} {K : Flow → Sem PySem.Fin} {H : Value → Sem PySem.Fin} {gd : Bool → Bool} {lv : List Value → List Value}
    (h : wpAny M (A.over c fs) (eval iter env) (fun x s1 => wpAny M (A.over c fs) (pyIter x) (fun it s2 => ∀ p, Sg M A Φ (.forLoop target it body orelse env) (M.den (.forLoop target it body orelse env))
      (.ret (fun r => ((match r with | .ok f => (.pure f : Sem Flow) | .error e => .raise e).onRaise fun (x : Value) => do
        if (← field x 1) == Value.none then unsupported "frame.own-activation:exception-without-traceback"
        setFlight x env.frame).wrap K H gd lv) none (gd false) (lv []) c p [] :: fs) s2) (fun _ _ => False) s1) (fun _ _ => False) s)
    (hs : ∀ x, foldedSetIterable iter env x = pure x) : Sg M A Φ c ((exec (.For target iter body orelse pos) env).wrap K H gd lv) fs s := by
  rw [exec_For]
  rw [Sem.bind_eq_wrap', Sem.wrap_wrap]
  refine sg_wrap (wpAny_standAt ?_)
  rw [Sem.bind_eq_wrap', Sem.wrap_wrap]
  refine sg_wrap (wpAny_mono h (fun x s1 h1 => ?_) fun _ _ z => z.elim)
  rw [Sem.bind_eq_wrap', Sem.wrap_wrap]
  refine sg_wrap (wpAny_of_eq (hs x) ?_)
  rw [Sem.bind_eq_wrap', Sem.wrap_wrap]
  refine sg_wrap (wpAny_standAt ?_)
  rw [Sem.bind_eq_wrap', Sem.wrap_wrap]
  refine sg_wrap (wpAny_holding (wpAny_mono h1 (fun it s2 h2 => ?_) fun _ _ z => z.elim))
  exact sg_call h2
end
end Qo
-- RD
set_option maxRecDepth 100000
set_option maxHeartbeats 4000000
/-! RD: for in a generator. -/
namespace Qo
open PySem PySem.Spec PyProof.Rows
/-- what is fp's, as it stands now, is protected too -/
def Prot.with (pf : Prot) (fp : Addr → Prop) (gp : Nat → Prop) (im : Addr → Prop) (s : Shared) : Prot :=
  ⟨fun a o => pf.at_ a o ∨ (fp a ∧ s.heap.get? a = some o), fun a o => pf.ia a o ∨ (im a ∧ s.heap.get? a = some o), fun g x => pf.gen g x ∨ (gp g ∧ s.gens[g]? = some x), fun a => pf.im a ∨ im a⟩
section
variable {X : Cx} {pf : Prot} {K0 K K' : Kn} {s0 s s' : Shared} {σ σ' : St} {fp : Addr → Prop} {gp : Nat → Prop}
theorem GPos.guard (p : GPos X pf K0 s0 K σ s) (fk : ∀ a, fp a → K.fp a) (gk : ∀ g, gp g → K.gp g) (hf : ∀ a, fp a → ¬ X.fr a) : GPos X (pf.with fp gp K.im s) K0 s0 K σ s :=
  ⟨p.step, p.inv, p.own, p.fr, fun a o x => x.elim (p.prot a o) fun ⟨x, y⟩ => ⟨y, fk a x, fun z => hf a x (p.inv.ok.ownf a z)⟩, fun a o x => x.elim (p.protia a o) fun ⟨x, y⟩ => ⟨y, x⟩,
    fun g x y => y.elim (p.protg g x) fun ⟨y, z⟩ => ⟨z, gk g y⟩, fun a x => x.elim (p.proti a) id⟩
theorem GPos.weak (p : GPos X (pf.with fp gp K.im s) K0 s0 K' σ' s') : GPos X pf K0 s0 K' σ' s' :=
  ⟨p.step, p.inv, p.own, p.fr, fun a o x => p.prot a o (.inl x), fun a o x => p.protia a o (.inl x), fun g x y => p.protg g x (.inl y), fun a x => p.proti a (.inl x)⟩
theorem GPos.grown (p : GPos X (pf.with fp gp K.im s) K0 s0 K' σ' s') : Grow (gh0 K.im) (gh0 K'.im) s.heap s'.heap :=
  ⟨fun a x => p.proti a (.inr x), fun a o x y => (p.protia a o (.inr ⟨x, y⟩)).1, fun _ _ x => x⟩
end
/-- for .. in e, in a generator -/
def yForGo (g : SG) (b : SY) : List D → SY
  | [], σ => some ([], .nx, σ)
  | d :: ds, σ => match g d σ [] with
    | .ok σ1 [] => match b σ1 with
      | some (ys, .nx, σ2) => (yForGo g b ds σ2).map fun r => (ys ++ r.1, r.2)
      | some (ys, .ct, σ2) => (yForGo g b ds σ2).map fun r => (ys ++ r.1, r.2)
      | some (ys, .bk, σ2) => some (ys, .nx, σ2)
      | some (ys, .rt d, σ2) => some (ys, .rt d, σ2)
      | none => none
    | _ => none
def yFor (m : SI) (g : SG) (b : SY) : SY := fun σ => match m σ [] with
  | .ok (ds, ok) [] => yForGo g b ds σ
  | _ => none
end Qo
-- RE
set_option maxRecDepth 100000
set_option maxHeartbeats 4000000
/-! RE: for in a generator: the loop. -/
namespace Qo
open PySem PySem.Spec PyProof.Rows
section
variable {X : Cx} {R : RI} {tgt : Expr}
theorem gs_forLoop {g : SG} {b : SY} {body : List Stmt} {u : Value} {ds : List D} {ok : Hs → Prop} {P : Nat → (Addr → Prop) → (Nat → Prop) → Gh → Shared → Prop} (hg : PGr R X tgt g) (hb : GSs X body b) (W : Wk R X.S X.A tgt u ds ok P) (hk : ok [])
    {pf : Prot} {A : Around} {rest : List D} {c : Code} {fs : List Frame} {Kf : Flow → Sem PySem.Fin} {kr : Result → Sem PySem.Fin} {gd : Bool → Bool} {l kp : List Value} {pp : Pos} (gc : GCode X A c fs gd) (hkr : ∀ f, kr (.ok f) = Kf f) {fl : Fl} {σ' : St} (k : GCont X pf A c fs Kf rest fl σ') :
    ∀ (ls : List D) (i : Nat), ls = ds.drop i → i ≤ ds.length → ∀ (K0 : Kn) (s0 : Shared) (K : Kn) (s : Shared) (σ : St) (ys : List D) (fp : Addr → Prop) (gp : Nat → Prop),
      P i fp gp (gh0 K.im) s → Apt fp gp (gh0 K.im) s → (∀ a, fp a → K.fp a) → (∀ g, gp g → K.gp g) → (∀ a, fp a → ¬ X.fr a) → (∀ a o, pf.at_ a o → ¬ fp a) → (∀ g x, pf.gen g x → ¬ gp g) → GPos X pf K0 s0 K σ s → yForGo g b ls σ = some (ys, fl, σ') →
      Sg (model X.S.P X.S.w) A (PhiG X.S A (ys ++ rest) K0 s0) (.forLoop tgt u body [] X.env) ((model X.S.P X.S.w).den (.forLoop tgt u body [] X.env)) (.ret kr none (gd false) l c pp kp :: fs) s := by
  have gl := gc_loop (k := kr) (c' := .forLoop tgt u body [] X.env) (l := l) (kp := kp) (p := pp) gc rfl rfl
  have gbl := gc_loop (k := kr) (c' := .block [] X.env) (l := l) (kp := kp) (p := pp) gc rfl rfl
  intro ls
  induction ls with
  | nil =>
    intro i hi hl K0 s0 K s σ ys fp gp p a fk gk hf np npg q e
    cases e
    have : i = ds.length := by
      have := congrArg List.length hi
      simp at this; omega
    subst this
    refine sg_forLoop ?_
    rw [gl.over]
    refine wpAny_mono (W.stop fp gp (gh0 K.im) [] s (fun s2 => Sg (model X.S.P X.S.w) A (PhiG X.S A ([] ++ rest) K0 s0) (.forLoop tgt u body [] X.env) (.pure (.again (.block [] X.env))) (.ret kr none (gd false) l c pp kp :: fs) s2) _ p a q.inv.bas hk fun G2 s2 t => ?_) (fun r s₁ h₁ => ?_) fun _ _ e => e
    · obtain ⟨eG, q2⟩ := q.it (fp' := fun _ => False) (gp' := fun _ => False) t ⟨fun _ z => z.elim, fun _ z => z.elim, fun _ z => z.elim, fun _ z => z.elim⟩ fk gk hf np npg (fun _ z => z.elim) (fun _ z => z.elim)
      refine sg_again rfl ?_
      show Sg _ A _ _ ((execs [] X.env).wrap (fun f => .pure (.done f)) (forExc X.env) id id) _ _
      exact sg_wrap (wpAny_execs_nil (sg_leaf (.ok .next) (by rw [hkr]; exact k _ _ _ _ .next q2 trivial)))
    · obtain ⟨rfl, q⟩ := h₁
      exact q
  | cons d ls ih =>
    intro i hi hl K0 s0 K s σ ys fp gp p a fk gk hf np npg q e
    have hd : ds[i]? = some d := by
      have := congrArg (fun l => l[0]?) hi
      simpa using this.symm
    have hlt : i < ds.length := (List.getElem?_eq_some_iff.mp hd).1
    have hi' : ls = ds.drop (i + 1) := by
      rw [drop_cons hd] at hi
      exact (List.cons.inj hi).2
    unfold yForGo at e
    refine sg_forLoop ?_
    rw [gl.over]
    refine wpAny_mono (W.item i fp gp d (gh0 K.im) [] s (fun v s2 => wpAny (model X.S.P X.S.w) X.A (assign tgt X.env v) (fun _ s3 => Sg (model X.S.P X.S.w) A (PhiG X.S A (ys ++ rest) K0 s0) (.forLoop tgt u body [] X.env) ((execs body X.env).wrap (forEnd tgt u body [] X.env) (forExc X.env) id id) (.ret kr none (gd false) l c pp kp :: fs) s3) (fun _ _ => False) s2) _ hd p a q.inv.bas hk fun v fp2 gp2 G2 s2 t a2 n1 n2 rv p2 => ?_) (fun r s₁ h₁ => ?_) fun _ _ e => e
    · obtain ⟨eG, q2⟩ := q.it t a2 fk gk hf np npg n1 n2
      have hf2 : ∀ a, fp2 a → ¬ X.fr a := fun a x y => (n1 a x).elim (fun z => hf a z y) fun z => by
        obtain ⟨o, w⟩ := q.inv.fr.lt y
        rw [z] at w; cases w
      have np2 : ∀ a o, pf.at_ a o → ¬ fp2 a := fun a o x y => (n1 a y).elim (np a o x) fun z => by
        rw [(q.prot a o x).1] at z; cases z
      have npg2 : ∀ g x, pf.gen g x → ¬ gp2 g := fun g x y z => (n2 g z).elim (npg g x y) fun z => by
        rw [(q.protg g x y).1] at z; cases z
      generalize hm2 : G2.im = im2 at eG q2
      subst eG
      split at e
      · rename_i σ1 em
        refine (hg.run (gh0 im2) σ [] s2 d v q2.inv rv).go (by rw [em]; intro _ _ z; cases z) (by rw [em]; intro z; cases z) fun σ1' h1 _ s3 G3 ed e3 f3 => ?_
        rw [em] at ed
        cases ed
        obtain ⟨eG3, q3⟩ := q2.ev e3 (fun _ z => z) (q2.inv.stepS e3 f3)
        have nown : ∀ a, fp2 a → ¬ X.own a := fun a x y => hf2 a x (q2.inv.ok.ownf a y)
        have a3 := a2.ev (X := X) nown e3
        have g3 := q2.inv.growS e3
        have p3 := W.fr _ _ _ _ _ _ _ p2 g3 (a2.keep (X := X) nown e3) (fun g x _ z => e3.stp.gens g x z)
        generalize hm3 : G3.im = im3 at eG3 q3
        subst eG3
        have gu := q3.guard (fp := fp2) (gp := gp2) (fun a x => .inr x) (fun g x => .inr x) hf2
        have again : ∀ (K0' : Kn) (s0' : Shared) (K' : Kn) (s' : Shared) (σ2 : St) (zs : List D), GPos X (pf.with fp2 gp2 im3 s3) K0' s0' K' σ2 s' → yForGo g b ls σ2 = some (zs, fl, σ') →
            Sg (model X.S.P X.S.w) A (PhiG X.S A (zs ++ rest) K0' s0') (.forLoop tgt u body [] X.env) (.pure (.again (.forLoop tgt u body [] X.env))) (.ret kr none (gd false) l c pp kp :: fs) s' := by
          intro K0' s0' K' s' σ2 zs p' e'
          refine sg_again rfl (ih (i + 1) hi' (by omega) K0' s0' K' s' σ2 zs fp2 gp2 (W.fr _ _ _ _ _ _ _ p3 (GPos.grown (K := ⟨im3, K.fp, K.gp⟩) (s := s3) (fp := fp2) (gp := gp2) p') (fun a o x y => (p'.prot a o (.inr ⟨x, y⟩)).1) (fun g x y z => (p'.protg g x (.inr ⟨y, z⟩)).1)) ⟨fun a x => ?_, fun a x i p y => ?_, fun a x => ?_, fun g x => ?_⟩ (fun a x => ?_) (fun g x => ?_) hf2 np2 npg2 (GPos.weak (K := ⟨im3, K.fp, K.gp⟩) (s := s3) (fp := fp2) (gp := gp2) p') e')
          · obtain ⟨o, y⟩ := a3.live a x
            exact ⟨o, (p'.prot a o (.inr ⟨x, y⟩)).1⟩
          · simp [gh0] at y
          · obtain ⟨o, y⟩ := a3.live a x
            exact p'.step.apart a (p'.prot a o (.inr ⟨x, y⟩)).2.1
          · obtain ⟨o, y⟩ := a3.gl g x
            exact ⟨o, (p'.protg g o (.inr ⟨x, y⟩)).1⟩
          · obtain ⟨o, y⟩ := a3.live a x
            exact (p'.prot a o (.inr ⟨x, y⟩)).2.1
          · obtain ⟨o, y⟩ := a3.gl g x
            exact (p'.protg g o (.inr ⟨x, y⟩)).2
        split at e
        · rename_i ys1 σ2 eb
          cases er : yForGo g b ls σ2 with
          | none => rw [er] at e; cases e
          | some r =>
            obtain ⟨zs, fl2, σ3⟩ := r
            rw [er] at e
            cases e
            rw [List.append_assoc]
            refine hb.run _ A (zs ++ rest) K0 s0 _ s3 σ1 ys1 .nx σ2 _ _ (forEnd tgt u body [] X.env) (forExc X.env) id id gl gu eb fun K0' s0' K' s' f p' q' => ?_
            cases f with
            | next => exact again _ _ _ _ _ _ p' er
            | _ => exact False.elim q'
        · rename_i ys1 σ2 eb
          cases er : yForGo g b ls σ2 with
          | none => rw [er] at e; cases e
          | some r =>
            obtain ⟨zs, fl2, σ3⟩ := r
            rw [er] at e
            cases e
            rw [List.append_assoc]
            refine hb.run _ A (zs ++ rest) K0 s0 _ s3 σ1 ys1 .ct σ2 _ _ (forEnd tgt u body [] X.env) (forExc X.env) id id gl gu eb fun K0' s0' K' s' f p' q' => ?_
            cases f with
            | cont => exact again _ _ _ _ _ _ p' er
            | _ => exact False.elim q'
        · rename_i ys1 σ2 eb
          obtain ⟨rfl, rfl, rfl⟩ : ys1 = ys ∧ Fl.nx = fl ∧ σ2 = σ' := by simpa using e
          refine hb.run _ A rest K0 s0 _ s3 σ1 _ .bk _ _ _ (forEnd tgt u body [] X.env) (forExc X.env) id id gl gu eb fun K0' s0' K' s' f p' q' => ?_
          cases f with
          | brk => exact sg_leaf (.ok .next) (by rw [hkr]; exact k _ _ _ _ .next p'.weak trivial)
          | _ => exact False.elim q'
        · rename_i ys1 d' σ2 eb
          obtain ⟨rfl, rfl, rfl⟩ : ys1 = ys ∧ Fl.rt d' = fl ∧ σ2 = σ' := by simpa using e
          refine hb.run _ A rest K0 s0 _ s3 σ1 _ (.rt d') _ _ _ (forEnd tgt u body [] X.env) (forExc X.env) id id gl gu eb fun K0' s0' K' s' f p' q' => ?_
          cases f with
          | ret v' => exact sg_leaf (.ok (.ret v')) (by rw [hkr]; exact k _ _ _ _ (.ret v') p'.weak q')
          | _ => exact False.elim q'
        · cases e
      · cases e
    · obtain ⟨v, rfl, q⟩ := h₁
      exact q
theorem gs_for {R : RI} {tgt e : Expr} {body : List Stmt} {pos : Pos} {m : SI} {g : SG} {b : SY} (he : PI R X tgt e m) (hg : PGr R X tgt g) (hb : GSs X body b) (hs' : ∀ x, foldedSetIterable e X.env x = pure x) : GS X (.For tgt e body [] pos) (yFor m g b) := by
  refine ⟨fun pf A rest K0 s0 K s σ ys fl σ' c fs Kf J gd lv gc p hm k => ?_⟩
  unfold yFor at hm
  refine sg_For ?_ hs'
  rw [gc.over]
  split at hm
  · rename_i ds ok em
    refine he.run (gh0 K.im) σ [] s _ _ p.inv (by rw [em]; intro _ _ z; cases z) (by rw [em]; intro z; cases z) fun ds' ok' hs1 u s1 G1 em' e1 hok it => ?_
    rw [em] at em'
    cases em'
    obtain ⟨fp, gp, P, W, p0, a0, nf, ng⟩ := it
    obtain ⟨eG, p1⟩ := p.ev e1 (fun _ z => z.elim) (p.inv.step e1)
    generalize hm1 : G1.im = im1 at eG p1
    subst eG
    have nfr : ∀ a, fp a → ¬ X.fr a := fun a x y => by
      obtain ⟨o, z⟩ := p.inv.fr.lt y
      rw [nf a x] at z; cases z
    have p2 := p1.add a0 (fun a x => p.dead (nf a x)) (fun g x => p.deadg (ng g x))
    intro pp
    refine gs_forLoop hg hb W hok gc (fun f => ?_) k ds 0 rfl (Nat.zero_le _) K0 s0 ⟨im1, fun c => K.fp c ∨ fp c, fun g => K.gp g ∨ gp g⟩ s1 σ ys fp gp p0 a0 (fun a x => Or.inr x) (fun g x => Or.inr x) nfr (fun a o x y => ?_) (fun g x y z => ?_) p2 hm
    · rfl
    · have := (p.prot a o x).1
      rw [nf a y] at this; cases this
    · have := (p.protg g x y).1
      rw [ng g z] at this; cases this
  · cases hm
end
end Qo
-- RF
set_option maxRecDepth 100000
set_option maxHeartbeats 4000000
/-! RF: a generator under «yield from». -/
namespace Qo
open PySem PySem.Spec PyProof.Rows
section
variable {S : Stat} {A : Around} {G : Gh} {hs : Hs} {s s0 s1 s2 : Shared} {K K1 : Kn}
/-- it hands out one more -/
theorem GAt.item {a : Addr} {g : Nat} {d : D} {ds : List D} (w : GAt S A a g (d :: ds) K s) (kim : ∀ c, K.im c → G.im c) (ap : Apt (fun c => K.fp c ∨ c = a) (fun x => K.gp x ∨ x = g) G s) (H : HInv S G hs s.heap) {v : Value} {g₀ : Bool} {l₀ : List Value} {k₀ : Resume → Sem PySem.Fin} {c₀ : Code} {p₀ : Pos} {fs₀ : List Frame}
    (hv : PhiG S A (d :: ds) K (s.setGen g .running) (.susp v g₀ l₀ k₀ c₀ p₀ fs₀) s1) : ∃ K1, ItS S (fun c => K.fp c ∨ c = a) (fun x => K.gp x ∨ x = g) G hs s (G.plus K1.im) (s1.setGen g (End.susp v g₀ l₀ k₀ c₀ p₀ fs₀).genState) ∧
      Apt (fun c => K1.fp c ∨ c = a) (fun x => K1.gp x ∨ x = g) (G.plus K1.im) (s1.setGen g (End.susp v g₀ l₀ k₀ c₀ p₀ fs₀).genState) ∧ (∀ c, K1.fp c ∨ c = a → (K.fp c ∨ c = a) ∨ s.heap.get? c = none) ∧ (∀ x, K1.gp x ∨ x = g → (K.gp x ∨ x = g) ∨ s.gens[x]? = none) ∧
      VR S (G.plus K1.im) s1.heap d v ∧ GAt S A a g ds K1 (s1.setGen g (End.susp v g₀ l₀ k₀ c₀ p₀ fs₀).genState) := by
  obtain ⟨gs, h1, h2⟩ := w.st
  have hgsz : g < s.gens.size := (Array.getElem?_eq_some_iff.mp h1).1
  obtain ⟨hq, K1, e, rv, cont⟩ := hv
  have run1 : s1.gens[g]? = some .running := e.gens g _ w.ng (L2.setGen_at hgsz)
  have gsz1 : g < s1.gens.size := (Array.getElem?_eq_some_iff.mp run1).1
  obtain ⟨o, nm, qn, ho, hc, hdt, hsl⟩ := id w.gen
  have ha1 : s1.heap.get? a = some o := e.keep a o w.na.1 ho
  obtain ⟨H', gr⟩ := hinv_gen (s0 := s.setGen g .running) H ap kim (fun c x => .inl x) rfl e (fun _ _ x => x)
  have na1 : ¬ K1.fp a ∧ ¬ K1.im a := ⟨fun z => (e.fpn a z).elim w.na.1 fun z => (by rw [show (s.setGen g .running).heap.get? a = some o from ho] at z; cases z), fun z => (e.imn a z).elim w.na.2 fun z => z.elim w.na.1 fun z => (by rw [show (s.setGen g .running).heap.get? a = some o from ho] at z; cases z)⟩
  have ng1 : ¬ K1.gp g := fun z => (e.gpn g z).elim w.ng fun z => by rw [L2.setGen_at hgsz] at z; cases z
  refine ⟨K1, ⟨fun c o n x => e.keep c o (fun z => n (.inl z)) x, e.os, fun x y n q => ?_, fun _ => Soft.mild e.bare hq, rfl, fun _ x => .inl x, fun c x => x.elim .inl fun x => (e.imn c x).elim (fun y => .inl (kim c y)) fun y => .inr (y.elim (fun q => .inl (.inl q)) .inr), H'⟩, ⟨fun c x => ?_, fun c x i p q => ?_, fun c x z => ?_, fun x z => ?_⟩, fun c x => x.elim (fun x => (e.fpn c x).elim (fun y => .inl (.inl y)) .inr) fun x => .inl (.inr x), fun x z => z.elim (fun z => (e.gpn x z).elim (fun y => .inl (.inl y)) fun y => ?_) fun z => .inl (.inr z),
    VR.mono (G := gh0 K1.im) (G' := G.plus K1.im) (h := s1.heap) (h' := s1.heap) ⟨fun _ x => Or.inr x, fun _ _ _ x => x, fun i p x => by simp [gh0] at x⟩ _ _ rv, ⟨⟨o, nm, qn, ha1, hc, hdt, hsl⟩, ng1, na1, _, L2.setGen_at gsz1, fun s2 wk bb => ?_⟩⟩
  · have hne : x ≠ g := fun z => n (.inr z)
    rw [setGen_ne hne]
    exact e.gens x y (fun z => n (.inl z)) (by rw [setGen_ne hne]; exact q)
  · rcases x with x | rfl
    · exact e.live c x
    · exact ⟨o, ha1⟩
  · rcases x with x | rfl
    · rcases e.fpn c x with y | y
      · exact ap.mu c (.inl y) i p q
      · exact Inv.muNone (X := Cx0 S) H y i p q
    · exact ap.mu c (.inr rfl) i p q
  · rcases x with x | rfl
    · rcases z with z | z
      · rcases e.fpn c x with y | y
        · exact ap.im c (.inl y) z
        · exact Inv.imNone (X := Cx0 S) H y z
      · exact e.apart c x z
    · rcases z with z | z
      · exact ap.im c (.inr rfl) z
      · exact na1.2 z
  · rcases z with z | rfl
    · obtain ⟨y, q⟩ := e.gl x z
      have hne : x ≠ g := fun w' => ng1 (w' ▸ z)
      exact ⟨y, by rw [setGen_ne hne]; exact q⟩
    · exact ⟨_, L2.setGen_at gsz1⟩
  · by_cases hne : x = g
    · exact .inl (.inr hne)
    · rw [setGen_ne hne] at y; exact .inr y
  · refine cont s2 ⟨fun c o x y => wk.keep c o x y, fun x y z q => wk.gens x y z ?_⟩ bb
    have hne : x ≠ g := fun w' => ng1 (w' ▸ z)
    rw [setGen_ne hne]; exact q
/-- it stops -/
theorem GAt.stop {a : Addr} {g : Nat} (w : GAt S A a g [] K s) (kim : ∀ c, K.im c → G.im c) (ap : Apt (fun c => K.fp c ∨ c = a) (fun x => K.gp x ∨ x = g) G s) (H : HInv S G hs s.heap) {r : Result}
    (h : PhiG S A [] K (s.setGen g .running) (.ret r) s1) : (r = .ok (.ret .none) ∨ r = .ok .next) ∧ ∃ K1 : Kn, ∀ h', (∀ b o, s1.heap.get? b = some o → h'.get? b = some o) → ItS S (fun c => K.fp c ∨ c = a) (fun x => K.gp x ∨ x = g) G hs s (G.plus K1.im) { s1.setGen g .finished with heap := h' } := by
  obtain ⟨gs, h1, h2⟩ := w.st
  obtain ⟨hr, K1, e⟩ := h
  refine ⟨hr, K1, fun h' k => ?_⟩
  obtain ⟨H', gr⟩ := hinv_gen (s0 := s.setGen g .running) H ap kim (fun c x => .inl x) rfl e k
  refine ⟨fun c o n x => k c o (e.keep c o (fun z => n (.inl z)) x), e.os, fun x y n q => ?_, fun _ => (Soft.finished e.bare).keeps (s' := { s1.setGen g .finished with heap := h' }) rfl fun a x => x.keeps (k a), rfl, fun _ x => .inl x, fun c x => x.elim .inl fun x => (e.imn c x).elim (fun y => .inl (kim c y)) fun y => .inr (y.elim (fun q => .inl (.inl q)) .inr), H'⟩
  have hne : x ≠ g := fun z => n (.inr z)
  show (s1.setGen g .finished).gens[x]? = _
  rw [setGen_ne hne]
  exact e.gens x y (fun z => n (.inl z)) (by rw [setGen_ne hne]; exact q)
/-- it stays as it is where its own stays -/
theorem GAt.moved {a : Addr} {g : Nat} {ds : List D} (w : GAt S A a g ds K s) (gen : GenO s1.heap a g) (wk : Wok K s s1) (hg : ∀ x, s.gens[g]? = some x → s1.gens[g]? = some x) : GAt S A a g ds K s1 :=
  ⟨gen, w.ng, w.na, let ⟨gs, h1, h2⟩ := w.st; ⟨gs, hg _ h1, fun s2 q b => h2 s2 (wk.trans q) b⟩⟩
end
section
variable {P : Program} {w : World} {A : Around} {E : Value → Shared → Prop} {s : Shared}
theorem special_sg {a : Addr} {g : Nat} {gs : GenState} {Φ : End → Shared → Prop} {Q : Option Value → Shared → Prop} (hh : A.handled = none)
    (hl : s.heap.NoLimit) (hroom : A.depth < recursionLimit) (hg : GenO s.heap a g) (hgs : s.gens[g]? = some gs)
    (hgo : SgGoes (model P w) A.in1 Φ gs (.send .none) (s.setGen g .running)) (hq : ∀ e s₁, Φ e s₁ → Mild s₁ e)
    (hY : ∀ v g₀ l₀ k₀ c₀ p₀ fs₀ s₁, Φ (.susp v g₀ l₀ k₀ c₀ p₀ fs₀) s₁ → Q (some v) (s₁.setGen g (End.susp v g₀ l₀ k₀ c₀ p₀ fs₀).genState))
    (hP : ∀ r s₁, Φ (.ret r) s₁ → (r = .ok (.ret .none) ∨ r = .ok .next) ∧ ∀ e h', L2.StopX e h' → (∀ b o, s₁.heap.get? b = some o → h'.get? b = some o) → E e { s₁.setGen g .finished with heap := h' }) :
    wpAny (model P w) A (callSpecial? (.ref a) "__next__") Q E s := by
  refine wpAny_callSpecial?_slot (name := Str.ofString "__next__") hg.typeIs slot_gen_next
    (wpAny_call_entry slot_gen_next hg.typeIs entry_gen_next ?_ (args_gen_next _))
  show wpAny _ A.in1 (Builtin.Generator.genWake (.ref a) (.send .none)) _ _ s
  unfold Builtin.Generator.genWake
  refine wpAny_bind (wpAny_holding (wpAny_genNumberO hg (wpAny_bind (wpAny_genStateL hgs ?_))))
  cases gs with
  | running => exact hgo.elim
  | finished => exact hgo.elim
  | _ =>
    refine wpAny_bind (lf (wpAny_roomToWake hl hroom ?_))
    show wpAny _ A.in1 (.resume g (.send .none) [] _) _ _ s
    refine sg_resume hgs hgo hq (fun x s₁ hx => ?_) (fun v g₀ l₀ k₀ c₀ p₀ fs₀ s₁ hv => ?_)
    · obtain ⟨hr, hp⟩ := hP x s₁ hx
      have hres : End.result (.ret x) = .returned .none := by
        rcases hr with hr | hr <;> rw [hr] <;> rfl
      first | rw [hres] | simp only [hres]
      show wpAny _ A.in1 (newExc (.type "StopIteration") [] >>= _) _ _ _
      refine wpAny_bind ?_
      simp only [newExc, newTuple]
      refine wpAny_bind (lf (wpAny_newObj_type ?_ (by size_fits)))
      refine wpAny_bind (m := firstArgMember _ _) (wpAny_of_eq (a := Value.none) (by first | rfl | (simp only [firstArgMember]; rfl)) ?_)
      refine lf (wpAny_newObj_type ?_ (by size_fits))
      simp only [raiseNew]
      refine wpAny_bind (wpAny_bind (lf (wpAny_handled ?_)))
      first | rw [show A.in1.handled = none from hh] | rw [hh]
      refine wpAny_throw ?_
      refine hp _ _ ⟨_, _, _, rfl, Heap.get?_push_size _ rfl, rfl, rfl, ?_⟩ fun b o hb => Heap.get?_push_of_some _ (Heap.get?_push_of_some _ hb)
      first
        | rfl
        | (rw [Array.getElem?_append_left (by decide)]; rfl)
        | kernel_rfl
    · exact wpAny_pure ⟨v, rfl, hY v g₀ l₀ k₀ c₀ p₀ fs₀ s₁ hv⟩
/-- it sleeps, once more or once less -/
theorem slept_on {a : Addr} {o : Obj} {Q : Unit → Shared → Prop} (ho : s.heap.get? a = some o) (hc : o.cls = .type "generator") (aw : Awake o)
    (h : ∀ f : Obj → Obj, (f o).cls = o.cls → (f o).data = o.data → (∃ m t, (f o).slots[0]? = some (some (Value.int m t)) ∧ m ≤ 1) → Q () { s with heap := s.heap.update a f }) : wpAny (model P w) A (Builtin.Generator.sleptOver (.ref a) true) Q E s := by
  unfold Builtin.Generator.sleptOver
  refine lf (PySem.wpAny_bind (wpAny_load ho ?_))
  have hn : ¬ ((o.cls != Value.type "generator") = true) := by rw [hc]; decide
  dsimp only
  rw [if_neg hn]
  unfold setSlotAt
  rw [if_neg (by decide)]
  refine wpAny_updatePart ho (h _ rfl rfl ?_)
  refine ⟨_, _, by
    show ((o.slots ++ Array.replicate (0 + 1 - o.slots.size) none).setIfInBounds 0 _)[0]? = _
    rw [Array.getElem?_setIfInBounds_self_of_lt (by simp; omega)]; rfl, ?_⟩
  rw [if_pos rfl]
  split
  · rename_i n t e
    have := aw n t e
    omega
  · omega
theorem slept_off {a : Addr} {o : Obj} {Q : Unit → Shared → Prop} (ho : s.heap.get? a = some o) (hc : o.cls = .type "generator") (aw : ∃ m t, o.slots[0]? = some (some (Value.int m t)) ∧ m ≤ 1)
    (h : ∀ f : Obj → Obj, (f o).cls = o.cls → (f o).data = o.data → Awake (f o) → Q () { s with heap := s.heap.update a f }) : wpAny (model P w) A (Builtin.Generator.sleptOver (.ref a) false) Q E s := by
  unfold Builtin.Generator.sleptOver
  refine lf (PySem.wpAny_bind (wpAny_load ho ?_))
  have hn : ¬ ((o.cls != Value.type "generator") = true) := by rw [hc]; decide
  dsimp only
  rw [if_neg hn]
  unfold setSlotAt
  rw [if_neg (by decide)]
  refine wpAny_updatePart ho (h _ rfl rfl ?_)
  obtain ⟨m, t, e, hm⟩ := aw
  intro n' t' e'
  have e'' : ((o.slots ++ Array.replicate (0 + 1 - o.slots.size) none).setIfInBounds 0 (some (rawInt (m - 1))))[0]? = some (some (Value.int n' t')) := by
    rw [← e']
    simp [e]
  rw [Array.getElem?_setIfInBounds_self_of_lt (by simp; omega)] at e''
  have : rawInt (m - 1) = Value.int n' t' := Option.some.inj (Option.some.inj e'')
  unfold rawInt at this
  cases this
  omega
end
end Qo
-- RG
set_option maxRecDepth 100000
set_option maxHeartbeats 4000000
/-! RG: «yield from» over a generator. -/
namespace Qo
open PySem PySem.Spec PyProof.Rows
/-- a builtin's own code over the frame that it came from -/
theorem over_plain {A : Around} {c c' : Code} {fs : List Frame} {k : Result → Sem PySem.Fin} {g : Bool} {l kp : List Value} {p : Pos} (hw : c'.weight = 0) (hu : c'.cUnits = 1) :
    A.over c' (.ret k none g l c p kp :: fs) = (A.over c fs).in1 := by
  have e2 : A.depth + frameCount ((Frame.ret k none g l c p kp :: fs).map Frame.where_) + c'.weight = A.depth + frameCount (fs.map Frame.where_) + c.weight := by
    show A.depth + frameCount ((c, p) :: fs.map Frame.where_) + c'.weight = _
    rw [frameCount_cons, hw]; omega
  have e3 : pushEnvs c'.envs (pushEnvs (envsOf ((Frame.ret k none g l c p kp :: fs).map Frame.where_)) A.frames) = pushEnvs c.envs (pushEnvs (envsOf (fs.map Frame.where_)) A.frames) := by
    show pushEnvs c'.envs (pushEnvs (envsOf ((c, p) :: fs.map Frame.where_)) A.frames) = _
    rw [Code.envs_of_weight hw, envsOf_cons]
    simp only [pushEnvs_eq]
    cases A.frames <;> simp
  have e4 : pushGuards c'.guards (pushGuards (guardsOf ((Frame.ret k none g l c p kp :: fs).map Frame.where_)) A.guards) = pushGuards c.guards (pushGuards (guardsOf (fs.map Frame.where_)) A.guards) := by
    show pushGuards c'.guards (pushGuards (guardsOf ((c, p) :: fs.map Frame.where_)) A.guards) = _
    rw [Code.guards_of_weight hw, guardsOf_cons]
    simp only [pushGuards_eq]
    cases A.guards <;> simp
  have e5 : A.units + unitsOf ((Frame.ret k none g l c p kp :: fs).map Frame.where_) + c'.cUnits = A.units + unitsOf (fs.map Frame.where_) + c.cUnits + 1 := by
    show A.units + unitsOf ((c, p) :: fs.map Frame.where_) + c'.cUnits = _
    rw [unitsOf_cons, hu]; omega
  have e1 : (marksOver (Frame.ret k none g l c p kp :: fs) (A.handled, A.handled)).1 = (marksOver fs (A.handled, A.handled)).1 := rfl
  show (⟨(marksOver (Frame.ret k none g l c p kp :: fs) (A.handled, A.handled)).1, A.depth + frameCount ((Frame.ret k none g l c p kp :: fs).map Frame.where_) + c'.weight,
    pushEnvs c'.envs (pushEnvs (envsOf ((Frame.ret k none g l c p kp :: fs).map Frame.where_)) A.frames), pushGuards c'.guards (pushGuards (guardsOf ((Frame.ret k none g l c p kp :: fs).map Frame.where_)) A.guards),
    A.units + unitsOf ((Frame.ret k none g l c p kp :: fs).map Frame.where_) + c'.cUnits⟩ : Around) = _
  rw [e1, e2, e3, e4, e5]
  rfl
section
variable {X : Cx} {pf : Prot} {K0 K : Kn} {s0 s s' : Shared} {σ σ' : St}
/-- one's own generator object is marked -/
theorem GPos.touch (p : GPos X pf K0 s0 K σ s) {a : Addr} {o : Obj} {f : Obj → Obj} (ho : s.heap.get? a = some o) (fa : K.fp a) (hf : ¬ X.fr a) (np : ∀ o, ¬ pf.at_ a o) (hc : (f o).cls = o.cls) (hd : (f o).data = o.data) (hz : (f o).isFreed = false) : GPos X pf K0 s0 K σ { s with heap := s.heap.update a f } := by
  have sb := Heap.SameBut.update s.heap a f
  have k : ∀ b x, b ≠ a → s.heap.get? b = some x → (s.heap.update a f).get? b = some x := fun b x n e => (sb.2 b n).trans e
  have ka : (s.heap.update a f).get? a = some (f o) := Heap.get?_update_self _ ho hz
  have ap : Apt (· = a) (fun _ => False) (gh0 K.im) s := ⟨fun c x => by subst x; exact ⟨o, ho⟩, fun c x i q y => by simp [gh0] at y, fun c x => by subst x; exact p.step.apart _ fa, fun _ z => z.elim⟩
  have H : HInv X.S (gh0 K.im) [] (s.heap.update a f) := by
    refine ⟨rfl, fun i j p q x => ?_, fun i p f c x => ?_, fun i p c x => ?_, fun i p c x => ?_, fun b x => ?_, fun b x y => ?_⟩
    · simp [gh0] at x
    · simp [gh0] at x
    · simp [gh0] at x
    · simp [gh0] at x
    · obtain ⟨x', y⟩ := p.inv.hinv.live b x
      exact ⟨x', k b x' (fun z => p.step.apart a fa (z ▸ x)) y⟩
    · obtain ⟨h1, h2⟩ := p.inv.hinv.base b x y
      exact ⟨k b x (fun z => p.step.apart a fa (z ▸ h2)) h1, h2⟩
  have t : ItS X.S (· = a) (fun _ => False) (gh0 K.im) [] s (gh0 K.im) { s with heap := s.heap.update a f } := by
    refine ⟨fun b x n e => k b x n e, rfl, fun _ _ _ x => x, fun so => so.keeps rfl fun b x => ?_, rfl, fun _ x => x, fun _ x => .inl x, H⟩
    by_cases z : b = a
    · subst z
      obtain ⟨o', e, q⟩ := x
      rw [ho] at e; cases e
      refine ⟨_, ka, ?_⟩
      unfold Obj.genNumber? at q ⊢
      rw [hc, hd]; exact q
    · exact x.keeps fun x e => k b x z e
  have ap' : Apt (· = a) (fun _ => False) (gh0 K.im) { s with heap := s.heap.update a f } := ⟨fun c x => by subst x; exact ⟨_, ka⟩, ap.mu, ap.im, fun _ z => z.elim⟩
  obtain ⟨_, p'⟩ := p.it t ap' (fun c x => by subst x; exact fa) (fun _ z => z.elim) (fun c x => by subst x; exact hf) (fun c x y z => by subst z; exact np _ y) (fun _ _ _ z => z) (fun _ x => .inl x) (fun _ z => z.elim)
  have eK : (⟨K.im, fun c => (K.fp c ∧ ¬ c = a) ∨ c = a, fun g => (K.gp g ∧ ¬ False) ∨ False⟩ : Kn) = K := by
    obtain ⟨im, fp, gp⟩ := K
    simp only [Kn.mk.injEq, true_and]
    refine ⟨funext fun c => propext ⟨fun x => x.elim (·.1) fun x => by subst x; exact fa, fun x => ?_⟩, funext fun g => propext ⟨fun x => x.elim (·.1) False.elim, fun x => .inl ⟨x, id⟩⟩⟩
    by_cases z : c = a
    · exact .inr z
    · exact .inl ⟨x, z⟩
  have p'' : GPos X pf K0 s0 ⟨K.im, fun c => (K.fp c ∧ ¬ c = a) ∨ c = a, fun g => (K.gp g ∧ ¬ False) ∨ False⟩ σ { s with heap := s.heap.update a f } := p'
  rw [eK] at p''
  exact p''
end
end Qo
-- RH
set_option maxRecDepth 100000
set_option maxHeartbeats 4000000
/-! RH: «yield from» over a generator: its turns. -/
namespace Qo
open PySem PySem.Spec PyProof.Rows
abbrev yfc (a : Addr) : Code := .builtin "proto.yield_from" ⟨[.ref a, .bool false, .none], []⟩
theorem den_yfc {P : Program} {w : World} {a : Addr} : (model P w).den (yfc a) = Builtin.«proto.yield_from» ⟨[.ref a, .bool false, .none], []⟩ := by
  show (match entryFor table "proto.yield_from" with | some b => b ⟨[.ref a, .bool false, .none], []⟩ | none => unsupported ((withoutEnding? "proto.yield_from" "#data").getD "proto.yield_from")) = _
  rw [L2.entry_yf]
theorem close_gen : ∃ v, typeLookup (.type "generator") "close" = pure (some v) := by
  rw [typeLookup_type, builtinLookup_eq_fast]
  exact ⟨.builtin "generator.close", by kernel_rfl⟩
section
variable {X : Cx} {pf : Prot} {A : Around} {c : Code} {fs : List Frame} {gd : Bool → Bool} {kr : Result → Sem PySem.Fin} {l kp : List Value} {pp : Pos} {rest : List D} {σ : St} {a : Addr} {g : Nat}
theorem sg_yf (gc : GCode X A c fs gd) (hroom : X.A.depth < recursionLimit) (hend : ∀ (K0 : Kn) (s0 : Shared) (K : Kn) (s : Shared), GPos X pf K0 s0 K σ s → Sg (model X.S.P X.S.w) A (PhiG X.S A rest K0 s0) c (kr (.ok (.ret .none))) fs s) :
    ∀ (ds : List D) (K0 : Kn) (s0 : Shared) (K : Kn) (s : Shared) (N : Kn), GPos X pf K0 s0 K σ s → GAt X.S X.A.in1.in1 a g ds N s → (∀ c, N.fp c ∨ c = a → K.fp c) → (∀ x, N.gp x ∨ x = g → K.gp x) → (∀ c, N.im c → K.im c) →
      (∀ c, N.fp c ∨ c = a → ¬ X.fr c) → (∀ c o, pf.at_ c o → ¬ (N.fp c ∨ c = a)) → (∀ x y, pf.gen x y → ¬ (N.gp x ∨ x = g)) →
      Sg (model X.S.P X.S.w) A (PhiG X.S A (ds ++ rest) K0 s0) (yfc a) ((model X.S.P X.S.w).den (yfc a)) (.ret kr none (gd false) l c pp kp :: fs) s := by
  have hov : A.over (yfc a) (.ret kr none (gd false) l c pp kp :: fs) = X.A.in1 := (over_plain rfl rfl).trans (by rw [gc.over])
  have apt : ∀ {K0 : Kn} {s0 : Shared} {K : Kn} {s : Shared} {N : Kn}, GPos X pf K0 s0 K σ s → (∀ c, N.fp c ∨ c = a → K.fp c) → (∀ x, N.gp x ∨ x = g → K.gp x) → Apt (fun c => N.fp c ∨ c = a) (fun x => N.gp x ∨ x = g) (gh0 K.im) s := fun p f h =>
    ⟨fun c x => p.step.live c (f c x), fun c x i q y => by simp [gh0] at y, fun c x => p.step.apart c (f c x), fun x y => p.step.gl x (h x y)⟩
  intro ds
  induction ds with
  | nil =>
    intro K0 s0 K s N p w fk gk ik hf np npg
    obtain ⟨gs, h1, h2⟩ := w.st
    rw [den_yfc]
    unfold Builtin.«proto.yield_from»
    try dsimp only
    refine sg_bind (wpAny_pure ?_)
    try dsimp only
    refine sg_bind (wpAny_attempt (wpAny_holding ?_))
    rw [hov]
    rw [if_neg Bool.false_ne_true, if_pos (show (Value.none == Value.none) = true from rfl)]
    refine wpAny_bind (wpAny_rule (wpAny_bind ?_))
    refine special_sg (A := X.A.in1) p.inv.ok.hd p.inv.nolimit hroom w.gen h1 (h2 _ (wok_run w) (Soft.running p.inv.bare)) (fun e s1 h => PhiG.mild h) (fun v g₀ l₀ k₀ c₀ p₀ fs₀ s1 hv => False.elim hv) (fun r s1 h => ?_)
    obtain ⟨hr, N1, its⟩ := w.stop (G := gh0 K.im) (hs := []) ik (apt p fk gk) p.inv.hinv h
    refine ⟨hr, fun e h' hS k => ?_⟩
    obtain ⟨b, o, vs, rfl, hoa, hcls, hdat, h5⟩ := hS
    obtain ⟨_, p2⟩ := p.it (fp' := fun _ => False) (gp' := fun _ => False) (its h' k) ⟨fun _ z => z.elim, fun _ z => z.elim, fun _ z => z.elim, fun _ z => z.elim⟩ fk gk hf np npg (fun _ z => z.elim) (fun _ z => z.elim)
    try dsimp only
    refine sg_bind (lf (L2.wpAny_endsTurn hoa hcls ?_))
    try dsimp only
    rw [if_pos rfl]
    first
      | refine sg_bind (wpAny_rule ?_)
      | (rw [if_neg Bool.false_ne_true]; refine sg_bind (wpAny_rule ?_))
      | (rw [if_neg Bool.false_ne_true]; refine sg_bind (wpAny_pure ?_); refine sg_bind (wpAny_rule ?_))
    refine sg_bind (lf (wpAny_field hoa hdat h5 ?_))
    exact sg_leaf (.ok (.ret .none)) (hend _ _ _ _ p2)
  | cons d ds ih =>
    intro K0 s0 K s N p w fk gk ik hf np npg
    obtain ⟨gs, h1, h2⟩ := w.st
    rw [den_yfc]
    unfold Builtin.«proto.yield_from»
    try dsimp only
    refine sg_bind (wpAny_pure ?_)
    try dsimp only
    refine sg_bind (wpAny_attempt (wpAny_holding ?_))
    rw [hov]
    rw [if_neg Bool.false_ne_true, if_pos (show (Value.none == Value.none) = true from rfl)]
    refine wpAny_bind (wpAny_rule (wpAny_bind ?_))
    refine special_sg (A := X.A.in1) p.inv.ok.hd p.inv.nolimit hroom w.gen h1 (h2 _ (wok_run w) (Soft.running p.inv.bare)) (fun e s1 h => PhiG.mild h) (fun v g₀ l₀ k₀ c₀ p₀ fs₀ s1 hv => ?_) (fun r s1 h => False.elim h)
    obtain ⟨N1, its, ap1, n1, n2, rv, w1⟩ := w.item (G := gh0 K.im) (hs := []) ik (apt p fk gk) p.inv.hinv hv
    obtain ⟨eG, p2⟩ := p.it its ap1 fk gk hf np npg n1 n2
    generalize hm2 : ((gh0 K.im).plus N1.im).im = im2 at eG p2
    have him : ∀ c, N1.im c → im2 c := fun c x => by rw [← hm2]; exact .inr x
    rw [eG] at rv ap1
    generalize hs2 : s1.setGen g (End.susp v g₀ l₀ k₀ c₀ p₀ fs₀).genState = s2 at w1 p2 ap1
    have hh2 : s1.heap = s2.heap := by rw [← hs2]; rfl
    rw [hh2] at rv
    obtain ⟨o, nm, qn, ho, hcl, hdt, hsl⟩ := id w1.gen
    have hf1 : ∀ c, N1.fp c ∨ c = a → ¬ X.fr c := fun c x y => (n1 c x).elim (fun z => hf c z y) fun z => by
      obtain ⟨o, q⟩ := p.inv.fr.lt y
      rw [z] at q; cases q
    have np1 : ∀ c o, pf.at_ c o → ¬ (N1.fp c ∨ c = a) := fun c o x y => (n1 c y).elim (np c o x) fun z => by
      rw [(p.prot c o x).1] at z; cases z
    have npg1 : ∀ x y, pf.gen x y → ¬ (N1.gp x ∨ x = g) := fun x y z q => (n2 x q).elim (npg x y z) fun q => by
      rw [(p.protg x y z).1] at q; cases q
    refine wpAny_pure ?_
    try dsimp only
    refine sg_bind (lf (wpAny_typeOf (T := "generator") ⟨o, ho, hcl⟩ ?_))
    try dsimp only
    obtain ⟨vc, hcl2⟩ := close_gen
    first
      | (refine sg_bind (wpAny_of_eq hcl2 ?_); refine sg_bind (wpAny_pure ?_))
      | refine sg_bind (wpAny_bind (wpAny_of_eq hcl2 (wpAny_pure ?_)))
      | refine sg_bind (wpAny_of_eq hcl2 ?_)
    try dsimp only
    refine sg_bind (slept_on ho hcl hsl fun f hfc hfd hfs => ?_)
    have hfz : (f o).isFreed = false := Obj.isFreed_of_fields (hfd.trans hdt)
    have p3 := p2.touch ho (.inr (.inr rfl)) (hf1 a (.inr rfl)) (fun o x => np1 a o x (.inr rfl)) hfc hfd hfz
    have k3 : ∀ b x, b ≠ a → s2.heap.get? b = some x → (s2.heap.update a f).get? b = some x := fun b x n e => ((Heap.SameBut.update s2.heap a f).2 b n).trans e
    have ka3 : (s2.heap.update a f).get? a = some (f o) := Heap.get?_update_self _ ho hfz
    have nia : ¬ im2 a := p3.step.apart a (.inr (.inr rfl))
    refine sg_yield (by
      show (splitAtGen fs).map _ = none
      rw [gc.split]; rfl) fun py => ⟨⟨?_, fun _ => ⟨a, _, _, rfl, f o, ka3, ?_⟩⟩, _, p3.step, ?_, fun s4 wk so => ?_⟩
    · show (gd false || fs.any Frame.guarded) = false
      rw [gc.gd, gc.guard]; rfl
    · unfold Obj.genNumber?
      rw [hfc, hfd, hcl, hdt]
      rfl
    · exact VR.mono (G := gh0 im2) (G' := gh0 im2) ⟨fun _ x => x, fun b x i e => k3 b x (fun z => nia (z ▸ i)) e, fun _ _ x => x⟩ _ _ rv
    have p4 := p3.woken wk so
    have ka4 : s4.heap.get? a = some (f o) := wk.keep a _ (.inr (.inr (.inr rfl))) ka3
    show Sg _ _ _ _ (Builtin.Generator.sleptOver (.ref a) false >>= fun _ => _) _ s4
    refine sg_bind (slept_off ka4 (hfc.trans hcl) hfs fun f' hfc' hfd' haw => ?_)
    have hfz' : (f' (f o)).isFreed = false := Obj.isFreed_of_fields (hfd'.trans (hfd.trans hdt))
    have p5 := p4.touch ka4 (.inr (.inr rfl)) (hf1 a (.inr rfl)) (fun o x => np1 a o x (.inr rfl)) hfc' hfd' hfz'
    have k5 : ∀ b x, b ≠ a → s4.heap.get? b = some x → (s4.heap.update a f').get? b = some x := fun b x n e => ((Heap.SameBut.update s4.heap a f').2 b n).trans e
    have ka5 : (s4.heap.update a f').get? a = some (f' (f o)) := Heap.get?_update_self _ ka4 hfz'
    have w5 : GAt X.S X.A.in1.in1 a g ds N1 { s4 with heap := s4.heap.update a f' } := w1.moved ⟨_, nm, qn, ka5, hfc'.trans (hfc.trans hcl), hfd'.trans (hfd.trans hdt), haw⟩ ⟨fun b x h e => ?_, fun x y h e => wk.gens x y (.inr (.inl h)) e⟩ fun x e => wk.gens g x (.inr (.inr rfl)) e
    · try dsimp only
      refine sg_bind (wpAny_pure ?_)
      exact sg_again (plainId_quiet L2.plain_yf _) (ih _ _ _ _ N1 p5 w5 (fun c x => .inr x) (fun x y => .inr y) him hf1 np1 npg1)
    · have n : b ≠ a := fun z => by subst z; exact h.elim w1.na.2 w1.na.1
      exact k5 b x n (wk.keep b x (h.elim (fun h => .inl (him b h)) fun h => .inr (.inr (.inl h))) (k3 b x n e))
end
end Qo
-- RI
set_option maxRecDepth 100000
set_option maxHeartbeats 4000000
/-! RI: expressions that make generators; «yield from»; a for over them. -/
namespace Qo
open PySem PySem.Spec PyProof.Rows
/-- a generator was made since s -/
structure GNew (S : Stat) (k : Nat) (a : Addr) (g : Nat) (ds : List D) (N : Kn) (G1 : Gh) (s s1 : Shared) : Prop where
  gat : ∀ B, Rm k B → GAt S B a g ds N s1
  apt : Apt (fun c => N.fp c ∨ c = a) (fun x => N.gp x ∨ x = g) G1 s1
  nf : ∀ c, N.fp c ∨ c = a → s.heap.get? c = none
  ng : ∀ x, N.gp x ∨ x = g → s.gens[x]? = none
  im : ∀ c, N.im c → G1.im c
abbrev SGe := St → Hs → Res (List D)
structure PGn (X : Cx) (k : Nat) (e : Expr) (m : SGe) : Prop where
  run : ∀ (G : Gh) (σ : St) (hs : Hs) (s : Shared) (Q : Value → Shared → Prop) (E : Value → Shared → Prop), Inv X G σ hs s → (∀ x h, m σ hs ≠ .exc x h) → m σ hs ≠ .bad →
    (∀ ds hs1 a g N s1 G1, m σ hs = .ok ds hs1 → Ev X.S noZ G hs s G1 hs1 s1 → GNew X.S k a g ds N G1 s s1 → Q (.ref a) s1) → wpAny (model X.S.P X.S.w) X.A (eval e X.env) Q E s
theorem Rm.in2 {k : Nat} {A : Around} (r : Rm (k + 1) A) : Rm k A.in1.in1 := ⟨⟨r.rm.hd, by have := r.rm.dp; show A.depth + 3 * k + 5 < _; omega, by have := r.rm.un; show A.units + 1 + 1 + 16 * k + 200 < _; omega⟩, r.gd⟩
def yFrom (m : SGe) : SY := fun σ => match m σ [] with
  | .ok ds [] => some (ds, .nx, σ)
  | _ => none
section
variable {X : Cx} {k : Nat} {e : Expr} {m : SGe} {yp pos : Pos} {tgt : Expr}
theorem gs_yieldFrom (he : PGn X k e m) (hr : Rm (k + 1) X.A) (hi : interactive X.env = false) : GS X (.Expr (.YieldFrom e yp) pos) (yFrom m) := by
  refine ⟨fun pf A rest K0 s0 K s σ ys fl σ' c fs Kf J gd lv gc p hm k' => ?_⟩
  unfold yFrom at hm
  split at hm
  · rename_i ds em
    cases hm
    rw [exec_Expr X.env _ pos hi rfl]
    show Sg _ A _ c (.at pos fun _ => ((eval e X.env >>= fun v => (standAt yp >>= fun _ => yieldFrom X.env v)) >>= fun x => dropValue (.YieldFrom e yp) pos x).wrap Kf J gd lv) fs s
    refine sg_at ?_
    rw [Sem.bind_eq_wrap', Sem.bind_eq_wrap', Sem.wrap_wrap, Sem.wrap_wrap]
    refine sg_wrap ?_
    rw [gc.over]
    refine he.run (gh0 K.im) σ [] s _ _ p.inv (by rw [em]; intro _ _ z; cases z) (by rw [em]; intro z; cases z) fun ds' h1 a g N s1 G1 ed e1 new => ?_
    rw [em] at ed
    cases ed
    obtain ⟨eG, p1⟩ := p.ev e1 (fun _ z => z.elim) (p.inv.step e1)
    have nfr : ∀ c, N.fp c ∨ c = a → ¬ X.fr c := fun c x y => by
      obtain ⟨o, z⟩ := p.inv.fr.lt y
      rw [new.nf c x] at z; cases z
    have np : ∀ c o, pf.at_ c o → ¬ (N.fp c ∨ c = a) := fun c o x y => by
      have := (p.prot c o x).1
      rw [new.nf c y] at this; cases this
    have npg : ∀ x y, pf.gen x y → ¬ (N.gp x ∨ x = g) := fun x y z q => by
      have := (p.protg x y z).1
      rw [new.ng x q] at this; cases this
    have ap := new.apt
    have im := new.im
    generalize hm1 : G1.im = im1 at eG p1 im
    rw [eG] at ap
    have p2 := p1.add ap (fun a x => p.dead (new.nf a x)) (fun g x => p.deadg (new.ng g x))
    refine sg_at ?_
    have w := new.gat X.A.in1.in1 hr.in2
    refine sg_bind_wrap (wpAny_pure ?_)
    unfold yieldFrom
    have hne : ¬ ((Value.type "generator" == Value.type "coroutine") = true) := by decide
    refine sg_bind_wrap (lf (wpAny_typeOf w.gen.typeIs ?_))
    rw [if_neg hne]
    refine sg_bind_wrap (wpAny_holding ?_)
    rw [gc.over]
    refine pyIter_genO w.gen ?_
    refine sg_call fun pp => ?_
    exact sg_yf gc hr.rm.depth (fun K0' s0' K' s' p' => k' K0' s0' K' s' .next p' trivial) _ K0 s0 _ s1 N p2 w (fun c x => .inr x) (fun x y => .inr y) im nfr np npg
  · cases hm
/-- a for over a generator -/
def iGen (m : SGe) : SI := fun σ hs => (m σ hs).bind fun ds h => .ok (ds, fun _ => True) h
theorem pi_gen (he : PGn X k e m) (hr : Rm (k + 1) X.A) : PI VR X tgt e (iGen m) := by
  refine ⟨fun G σ hs s Q E I hx hb hQ => ?_⟩
  refine he.run G σ hs s _ _ I (bind_nx hx) (bind_nb hb) fun ds h1 a g N s1 G1 em e1 new => ?_
  have w := new.gat X.A.in1 hr.in1
  unfold iGen at hQ
  rw [em] at hQ
  refine pyIter_genO w.gen (hQ ds _ h1 (.ref a) s1 G1 rfl e1 trivial ⟨_, _, _, wk_gen hr.rm.depth, ⟨N, rfl, rfl, new.im, w⟩, new.apt, new.nf, new.ng⟩)
end
end Qo
-- RJ
set_option maxRecDepth 100000
set_option maxHeartbeats 4000000
/-! RJ: calls of generator defs. -/
namespace Qo
open PySem PySem.Spec PyProof.Rows
structure GenOk (S : Stat) (k : Nat) (f : Addr) (fd : FuncData) (ps : List Str) (fn : List D → Option (List D)) : Prop where
  len : ∀ ds, fn ds ≠ none → ds.length = ps.length
  run : ∀ (A : Around) (G : Gh) (hs : Hs) (s : Shared) (args : Args) (us : List Value) (ds ys : List D) (Q : Value → Shared → Prop) (E : Value → Shared → Prop), A.depth < recursionLimit → L2.Mod S.K S.mg S.base → HInv S G hs s.heap → Soft s →
    BindsTo s fd args (ps.zip us) → VRs S (gh0 G.im) s.heap ds us → fn ds = some ys → (∀ a g N s1, Ev S noZ G hs s G hs s1 → GNew S k a g ys N G s s1 → Q (.ref a) s1) → codeAny (model S.P S.w) A (.call (.ref f) args) (RetR Q E) s
/-- what a generator def hands out -/
def fnG (np n : Nat) (b : SY) (ds : List D) : Option (List D) := if ds.length = np then match b (startS n ds) with
  | some (ys, .nx, _) => some ys
  | some (ys, .rt .non, _) => some ys
  | _ => none
  else none
section
variable {prog : Program} {w : World} {A : Around} {Φ : End → Shared → Prop} {fs : List Frame} {s : Shared} {env : Env}
theorem sg_func {body : List Stmt}
    (h : Sg (model prog w) A Φ (.func body env) ((execs body env).wrap (fun f => .pure (.done (.ret (match f with | .ret v => v | _ => .none))))
      (fun e => (leaving env e).wrap (fun _ => .raise e) .raise id id) id id) fs s) :
    Sg (model prog w) A Φ (.func body env) ((model prog w).den (.func body env)) fs s := by
  show Sg _ A Φ _ (.point [] fun _ => ((execs body env).onRaise (leaving env)) >>= _) fs s
  refine sg_point ?_
  rw [Sem.onRaise_eq_wrap, Sem.bind_eq_wrap', Sem.wrap_wrap]
  rw [Sem.wrap_congr (execs body env) _ _ (K' := fun f => .pure (.done (.ret (match f with | .ret v => v | _ => .none))))
    (H' := fun e => (leaving env e).wrap (fun _ => .raise e) .raise id id) (fun f => by cases f <;> rfl)
    (fun e => by rw [Sem.bind_eq_wrap, Sem.wrap_wrap]; rfl)]
  exact h
end
section
variable {S : Stat} {G : Gh} {hs : Hs} {s s1 : Shared} {N ps : List Str} {qual : Str} {scope : Scope} {f : Addr} {cd : Value} {A : Around} {us : List Value} {ds : List D}
theorem inv_startG (mod : L2.Mod S.K S.mg S.base) (F : L2.GScope N ps scope) (hd : A.handled = none) (H : HInv S G hs s.heap) (bare : Soft s) (hl : ds.length = ps.length) (r : VRs S G s.heap ds us)
    (x : InCallC s s.heap.objs.size (bindL (PyProof.Rows.envOfC qual scope s.heap.objs.size f cd).kindOf (ps.zip us) fun _ => none) (cellsFrom (s.heap.objs.size + 1) scope.names []) (bindC (PyProof.Rows.envOfC qual scope s.heap.objs.size f cd).kindOf (ps.zip us) fun _ => none) s1) :
    Inv (cxFn S N qual scope s.heap.objs.size f cd A) G (startS N.length ds) hs s1 ∧ Ev S noZ G hs s G hs s1 ∧ ∀ a, (cxFn S N qual scope s.heap.objs.size f cd A).own a → s.heap.get? a = none := by
  obtain ⟨h1, tk, rfl, hk⟩ := x.done
  have e : Ev S noZ G hs s G hs { s with heap := h1, toks := tk } := Ev.kept (X := Cx0 S) H hk
  have fresh : ∀ a, (cxFn S N qual scope s.heap.objs.size f cd A).fr a → s.heap.get? a = none := fun a y => by
    rcases y with rfl | ⟨z, y⟩
    · exact Heap.get?_none_of_le (Nat.le_refl _)
    · exact Heap.get?_none_of_le (Nat.le_of_lt (x.above z a (PySem.mem_of_lookup y)))
  refine ⟨⟨⟨mod, F.kind, rfl, rfl, hd, fun y z c h1 h2 => PySem.name_of_addr x.apart (PySem.mem_of_lookup h1) (PySem.mem_of_lookup h2), fun a y => y, fun y z i h1 h2 => ?_, .inl rfl, fun y c _ h => .inr ⟨y, h⟩, fun y h => L2.cell_has h⟩, e.inv, ⟨⟨_, x.toInCall.ns, fun y i d h1 h2 _ => ?_⟩, fun y c h => ⟨_, x.cell y c h⟩, fun a y i p q => ?_, fun a y z => ?_⟩, e.stp.bare bare⟩, e, fresh⟩
  · have a := varsOf_get h1
    have b := varsOf_get h2
    rw [a] at b
    exact Option.some.inj b
  · have hN := varsOf_get h1
    have hi : i < ds.length := by
      unfold startS at h2
      by_cases hi : i < ds.length
      · exact hi
      · rw [List.getElem?_append_right (by simpa using hi)] at h2
        rw [List.getElem?_replicate] at h2
        split at h2 <;> cases h2
    have ha : ds[i]? = some d := by
      unfold startS at h2
      rw [List.getElem?_append_left (by simpa using hi), List.getElem?_map] at h2
      cases e : ds[i]? with
      | none => rw [e] at h2; cases h2
      | some a => rw [e] at h2; cases h2; rfl
    obtain ⟨u, hu, rv⟩ := r.get ha
    have hp : ps[i]? = some y := by
      rw [← F.pre, List.getElem?_take_of_lt (by omega)]; exact hN
    have ndP : ps.Nodup := by rw [← F.pre]; exact F.nd.sublist (List.take_sublist _ _)
    refine ⟨u, VR.mono (e.grow H fun _ z => z.elim) _ _ rv, ?_⟩
    rcases F.par y (List.mem_of_getElem? hp) with k | k
    · exact .inl ⟨k, L2.bindL_get ndP hp hu k⟩
    · obtain ⟨c, e⟩ := L2.cell_has (n := s.heap.objs.size + 1) k
      refine .inr ⟨.inl k, c, e, ?_⟩
      have q := x.cell y c e
      rw [L2.bindC_get ndP hp hu (by show scope.names.lookup y ≠ _; rw [k]; decide)] at q
      exact q
  · have hl : i < hs.length := by rw [← H.len]; exact (List.getElem?_eq_some_iff.mp q).1
    obtain ⟨⟨o1, h1⟩, o2, h2⟩ := (H.cell i p _ _ q (by rw [List.getElem?_eq_getElem hl])).ex
    have := fresh a y
    exact ⟨fun z => (by rw [z, h1] at this; cases this), fun z => (by rw [z, h2] at this; cases this)⟩
  · obtain ⟨o, q⟩ := H.live a z
    rw [fresh a y] at q; cases q

theorem Ev.gen0 {X : Cx} {Z : Addr → Prop} (I : HInv X.S G hs s.heap) {h' : Heap} {t : Nat} {c : Code} (k : ∀ a o, s.heap.get? a = some o → h'.get? a = some o) : Ev X.S Z G hs s G hs { s with heap := h', toks := t, gens := s.gens.push (.fresh c) } := by
  have e := Ev.kept (X := X) (Z := Z) (t := t) I k
  have kg : ∀ (g : Nat) (x : GenState), s.gens[g]? = some x → (s.gens.push (.fresh c))[g]? = some x := fun g x y => by
    have := (Array.getElem?_eq_some_iff.mp y).1
    rw [Array.getElem?_push, if_neg (by omega)]; exact y
  refine ⟨⟨e.stp.keep, e.stp.live, e.stp.os, kg, fun so g kk l c' p fs x => ?_⟩, e.len, e.mu, e.im, e.new, e.fz, e.imn, e.inv, e.gl⟩
  have x : (s.gens.push (.fresh c))[g]? = _ := x
  rw [Array.getElem?_push] at x
  split at x
  · cases x
  · obtain ⟨h1, h2⟩ := so g kk l c' p fs x
    exact ⟨h1, h2.keeps fun a y => y.keeps fun o e => k a o e⟩
def pf0 : Prot := ⟨fun _ _ => False, fun _ _ => False, fun _ _ => False, fun _ => False⟩
/-- a generator def of the text, by its body -/
theorem gcall_of {k : Nat} {name : Str} {params : Arguments} {body : List Stmt} {dV kV doc pm cdv ct oc : Value} {an od : Option Addr} {osl : Array (Option Value)} {b : SY}
    (lk : S.K.lookup f = some ⟨oc, od, .func (PySem.W.fnOf name qual params body scope dV kV doc pm an cdv ct), osl⟩) (hcd : PySem.W.codeIn S.K cdv qual = true) (F : L2.GScope N ps scope)
    (hbody : ∀ (A : Around) (L : Addr), Rm k A → GSs (cxFn S N qual scope L f cdv A) body b) : GenOk S k f (PySem.W.fnOf name qual params body scope dV kV doc pm an cdv ct) ps (fnG ps.length N.length b) := by
  refine ⟨fun ds h => ?_, fun A G hs s args us ds ys Q E hroom mod H bare hb r hf O => ?_⟩
  · unfold fnG at h
    split at h
    · assumption
    · exact absurd rfl h
  have hl : ds.length = ps.length := by
    unfold fnG at hf
    split at hf
    · assumption
    · cases hf
  have KX : S.K.In s.heap := mod.kin.keeps fun b o e => (H.base b o e).1
  have lim : s.heap.NoLimit := mod.nolimit.keeps fun b o e => (H.base b o e).1
  have hkind : ∀ y ∈ ps.zip us, scope.names.lookup y.1 = some .local ∨ (scope.names.lookup y.1 = some .cell ∧ ((cellsFrom (s.heap.objs.size + 1) scope.names []).lookup y.1).isSome = true) := fun ⟨n, v⟩ hy => by
    rcases F.par n (List.of_mem_zip hy).1 with q | q
    · exact .inl q
    · exact .inr ⟨q, PySem.W.cellsFrom_some _ _ _ (.inl q)⟩
  have H0 : HInv S (gh0 G.im) [] s.heap := ⟨rfl, fun i j p q x => by simp [gh0] at x, fun i p f c x => by simp [gh0] at x, fun i p c x => by simp [gh0] at x, fun i p c x => by simp [gh0] at x, H.live, H.base⟩
  refine lfc (PySem.codeAny_call_generator hroom (KX _ _ lk) rfl F.co F.gen rfl (PySem.W.codeRec_of KX hcd) (hb _ _ _ _ ?_))
  refine wpAny_newFunctionEnv_cells F.kind hkind fun env he s1 x => ?_
  subst he
  have IB : ∀ B : Around, B.handled = none → _ := fun B hB => inv_startG (A := B) (f := f) (cd := cdv) (qual := qual) mod F hB H0 bare hl r x
  obtain ⟨I0, e0, fresh⟩ := IB { A with handled := none } rfl
  obtain ⟨h1, tk, rfl, hk⟩ := x.done
  refine ⟨I0.nolimit, ?_⟩
  have kp : ∀ (o : Obj) b x, h1.get? b = some x → (h1.push o).get? b = some x := fun o b x e => Heap.get?_push_of_some _ e
  have nsz : h1.get? h1.objs.size = none := Heap.get?_none_of_le (Nat.le_refl _)
  refine O h1.objs.size s.gens.size ⟨G.im, (cxFn S N qual scope s.heap.objs.size f cdv { A with handled := none }).fr, fun _ => False⟩ _ (Ev.gen0 (X := Cx0 S) H fun b o e => kp _ _ _ (hk b o e)) ⟨fun B hr => ?_, ⟨fun c x => ?_, fun c x i p q => ?_, fun c x z => ?_, fun x z => ?_⟩, fun c x => ?_, fun x z => ?_, fun c x => x⟩
  · obtain ⟨I, eB, _⟩ := IB B hr.rm.hd
    have e2 : Ev S noZ (gh0 G.im) [] { s with heap := h1, toks := tk } (gh0 G.im) [] _ := Ev.gen0 (X := Cx0 S) (t := tk + 1 + 1) (c := .func body (PyProof.Rows.envOfC qual scope s.heap.objs.size f cdv)) I.hinv (kp { cls := .type "generator", data := .fields #[.int s.gens.size 0, .str name tk, .str qual (tk + 1)] })
    have I2 := Inv.step (X := cxFn S N qual scope s.heap.objs.size f cdv B) I e2
    have frl : ∀ c, (cxFn S N qual scope s.heap.objs.size f cdv B).fr c → ∃ o, h1.get? c = some o := fun c y => I.fr.lt y
    refine ⟨GenO.of ⟨_, _, _, Heap.get?_push_size _ rfl, rfl, rfl, rfl⟩, id, ⟨fun z => ?_, fun z => ?_⟩, .fresh (.func body (PyProof.Rows.envOfC qual scope s.heap.objs.size f cdv)), ?_, fun s3 wk so => ⟨rfl, ?_⟩⟩
    · obtain ⟨o, q⟩ := frl _ z
      rw [nsz] at q; cases q
    · obtain ⟨o, q⟩ := I.hinv.live _ z
      have q : h1.get? h1.objs.size = some o := q
      rw [nsz] at q; cases q
    · show (s.gens.push _)[s.gens.size]? = _
      rw [Array.getElem?_push, if_pos rfl]
      rfl
    · have st : StepK S ⟨G.im, (cxFn S N qual scope s.heap.objs.size f cdv B).fr, fun _ => False⟩ ⟨G.im, (cxFn S N qual scope s.heap.objs.size f cdv B).fr, fun _ => False⟩ _ _ := ⟨fun _ _ _ x => x, rfl, fun _ _ _ x => x, I2.bare, fun _ x => .inl x, fun _ x => .inl x, fun _ x => x, fun _ x => .inl x, I2.hinv, fun c x => let ⟨o, q⟩ := frl c x; ⟨o, kp _ _ _ q⟩, fun c x => I2.fr.nim c x, fun _ z => z.elim⟩
      have gp : GPos (cxFn S N qual scope s.heap.objs.size f cdv B) pf0 ⟨G.im, (cxFn S N qual scope s.heap.objs.size f cdv B).fr, fun _ => False⟩ _ ⟨G.im, (cxFn S N qual scope s.heap.objs.size f cdv B).fr, fun _ => False⟩ (startS N.length ds) _ := ⟨st, I2, fun c x => I2.ok.ownf c x, fun c x => .inl x, fun _ _ z => z.elim, fun _ _ z => z.elim, fun _ _ z => z.elim, fun _ z => z.elim⟩
      have gp3 := gp.woken wk so
      refine sg_func ?_
      have gc : GCode (cxFn S N qual scope s.heap.objs.size f cdv B) B (.func body (PyProof.Rows.envOfC qual scope s.heap.objs.size f cdv)) [] id := ⟨GenW.over_func, rfl, rfl, rfl⟩
      unfold fnG at hf
      rw [if_pos hl] at hf
      split at hf
      · rename_i ys' σ' eb
        cases hf
        have := (hbody B s.heap.objs.size hr).run pf0 B [] _ s3 _ s3 _ _ .nx σ' _ [] (fun f => .pure (.done (.ret (match f with | .ret v => v | _ => .none)))) (fun e => (leaving (PyProof.Rows.envOfC qual scope s.heap.objs.size f cdv) e).wrap (fun _ => .raise e) .raise id id) id id gc gp3 eb fun K0 s0 K s' fl p q => ?_
        · rw [List.append_nil] at this
          exact this
        · cases fl with
          | next => exact sg_end (.ok (.ret .none)) ⟨.inl rfl, K, p.step⟩
          | _ => exact False.elim q
      · rename_i ys' σ' eb
        cases hf
        have := (hbody B s.heap.objs.size hr).run pf0 B [] _ s3 _ s3 _ _ (.rt .non) σ' _ [] (fun f => .pure (.done (.ret (match f with | .ret v => v | _ => .none)))) (fun e => (leaving (PyProof.Rows.envOfC qual scope s.heap.objs.size f cdv) e).wrap (fun _ => .raise e) .raise id id) id id gc gp3 eb fun K0 s0 K s' fl p q => ?_
        · rw [List.append_nil] at this
          exact this
        · cases fl with
          | ret u =>
            have q : VR S (gh0 K.im) s'.heap .non u := q
            rw [VR] at q
            subst q
            exact sg_end (.ok (.ret .none)) ⟨.inl rfl, K, p.step⟩
          | _ => exact False.elim q
      · cases hf
  · rcases x with x | rfl
    · obtain ⟨o, q⟩ : ∃ o, h1.get? c = some o := I0.fr.lt x
      exact ⟨o, kp _ _ _ q⟩
    · exact ⟨_, Heap.get?_push_size _ rfl⟩
  · have n : s.heap.get? c = none := by
      rcases x with x | rfl
      · exact fresh c x
      · cases z : s.heap.get? h1.objs.size with
        | none => rfl
        | some o => have := hk _ _ z; rw [nsz] at this; cases this
    exact Inv.muNone (X := Cx0 S) H n i p q
  · rcases x with x | rfl
    · exact I0.fr.nim c x z
    · obtain ⟨o, q⟩ := I0.hinv.live _ z
      have q : h1.get? h1.objs.size = some o := q
      rw [nsz] at q; cases q
  · rcases z with z | rfl
    · exact z.elim
    · exact ⟨_, by show (s.gens.push _)[s.gens.size]? = _; rw [Array.getElem?_push, if_pos rfl]⟩
  · rcases x with x | rfl
    · exact fresh c x
    · cases z : s.heap.get? h1.objs.size with
      | none => rfl
      | some o => have := hk _ _ z; rw [nsz] at this; cases this
  · rcases z with z | rfl
    · exact z.elim
    · exact Array.getElem?_eq_none (Nat.le_refl _)
end
end Qo
-- RK
set_option maxRecDepth 100000
set_option maxHeartbeats 4000000
/-! RK: calls that make generators. -/
namespace Qo
open PySem PySem.Spec PyProof.Rows
/-- the values that a generator is given: what does not change -/
def gargs (fn : List D → Option (List D)) (ds : List D) (hs : Hs) : Res (List D) := match wks (fun _ => none) ds with
  | some ds' => match fn ds' with
    | some ys => .ok ys hs
    | none => .bad
  | none => .bad
def gCall (fn : List D → Option (List D)) (dd : List D) (a : SA) : SGe := fun σ hs => (a σ hs).bind fun ds h => gargs fn (ds ++ dd) h
section
variable {X : Cx} {G : Gh} {σ : St} {hs : Hs} {s : Shared} {Q : Value → Shared → Prop} {E : Value → Shared → Prop} {k : Nat} {f C : Addr} {fd : FuncData} {ps : List Str} {fn : List D → Option (List D)}
theorem low0 {ds ds' : List D} {us : List Value} {h : Heap} {S : Stat} (r : VRs S G h ds us) (e : wks (fun _ => none) ds = some ds') : VRs S (gh0 G.im) h ds' us := VRs.wks (G := G) (G' := gh0 G.im) (f := fun _ => none) (fun _ x => x) (fun _ _ _ _ z => by cases z) ds us ds' r e
theorem run_gen {args : Args} {us : List Value} {ds : List D} (F : GenOk X.S k f fd ps fn) (hr : X.A.depth < recursionLimit) (I : Inv X G σ hs s) (hb : us.length = ps.length → BindsTo s fd args (ps.zip us)) (r : VRs X.S G s.heap ds us) (nb : gargs fn ds hs ≠ .bad)
    (O : ∀ ys a g N s1, gargs fn ds hs = .ok ys hs → Ev X.S noZ G hs s G hs s1 → GNew X.S k a g ys N G s s1 → Q (.ref a) s1) : codeAny (model X.S.P X.S.w) X.A (.call (.ref f) args) (RetR Q E) s := by
  unfold gargs at nb O
  split at nb
  · rename_i ds' e1
    rw [e1] at O
    simp only at O
    split at nb
    · rename_i ys e2
      rw [e2] at O
      have r' := low0 r e1
      exact F.run X.A G hs s args us ds' ys Q E hr I.ok.mod I.hinv I.bare (hb (by rw [r'.len]; exact F.len _ (by rw [e2]; intro z; cases z))) r' e2 fun a g N s1 e n => O ys a g N s1 rfl e n
    · exact absurd rfl nb
  · exact absurd rfl nb
theorem pgn_call {x : Str} {p pos : Pos} {e : Expr} {es : List Expr} {ma : SA} {dd : List D} {dv : List Value} (F : GenOk X.S k f fd ps fn) (hr : Rm 0 X.A) (hg : Gl X x) (hm : X.S.mg x = some (.ref f)) (hk : PySem.W.keepIn X.S.K (.ref f) = true)
    (hb : L2.Binds X.S.K fd ps dv) (hd : Dflt X.S dd dv) (ha : PA X (e :: es) ma) (hdb : (x == ("__debug__" : Str)) = false) (he : starEach (e :: es) X.env = (false, eval e X.env) :: starEach es X.env) (hpl : (backTo pos (starEach es X.env)).any (·.1) = false) :
    PGn X k (.Call (.Name x p) (e :: es) [] pos) (gCall fn dd ma) := by
  refine ⟨fun G σ hs s Q E I hx hn hQ => wpAny_Call_Name_kw (ld_glob I hg hm hdb ?_)⟩
  refine callWith_K (h₀ := X.S.base) I.ok.mod.kin hk ((ha.run pos G σ hs s I).go (bind_nx hx) (bind_nb hn) fun ds h1 us s1 G1 em e1 r1 => ?_) he hpl
  unfold gCall at hn hQ
  rw [em] at hn hQ
  have I1 := I.step e1
  have r2 := r1.append (hd G1 s1.heap I1.hinv.base)
  refine ⟨I1.kIn, call_ret (run_gen F hr.rm.depth I1 (fun hl => hb s1 us I1.kIn ?_) r2 hn fun ys a g N s2 eq e2 n => ?_)⟩
  · exact hl
  · exact hQ ys h1 a g N s2 G1 eq (e1.trans e2 (fun _ _ _ z => z) fun _ _ _ z => z) ⟨n.gat, n.apt, fun c x => e1.stp.dead (n.nf c x), fun x z => e1.stp.deadG (n.ng x z), n.im⟩
/-- o.m(e, ..), by the class of o -/
def gMeth (m : Str) (tbl : Addr → Option ((List D → Option (List D)) × List D)) (o : SE) (a : SA) : SGe := fun σ hs => (o σ hs).bind fun x h => match asO h x with
  | some (c, ns, _) => match tbl c with
    | some (fn, dd) => grd (m ∉ ns) ((a σ h).bind fun ds h => gargs fn (x :: (ds ++ dd)) h)
    | none => .bad
  | none => .bad
def GMethT (X : Cx) (k : Nat) (m : Str) (tbl : Addr → Option ((List D → Option (List D)) × List D)) : Prop :=
  ∀ c fn dd, tbl c = some (fn, dd) → ∃ f fd ps dv, MethI X.S c m f ∧ GenOk X.S k f fd ps fn ∧ L2.Binds X.S.K fd ps dv ∧ Dflt X.S dd dv
theorem pgn_meth0 {o : Expr} {m : Str} {apos pos : Pos} {mo : SE} {tbl : Addr → Option ((List D → Option (List D)) × List D)} (ho : PE X o mo) (T : GMethT X k m tbl) (hr : Rm 0 X.A)
    (hbase : attributeBase o m X.env (eval o X.env) = eval o X.env) (hform : methodCallForm (([] : List Expr).length + ([] : List Keyword).length) (backTo pos (starEach [] X.env)) (backToKw pos (keywordEach [] X.env)) = true) (hline : (apos.endLine == pos.line) = true) :
    PGn X k (.Call (.Attribute o m apos) [] [] pos) (gMeth m tbl mo aNil) := by
  refine ⟨fun G σ hs s Q E I hx hn hQ => Call_meth hbase hform hline ((ho.run G σ hs s I).go (bind_nx hx) (bind_nb hn) fun x h1 u s1 G1 em e1 r1 pl => ?_)⟩
  have I1 := I.step e1
  unfold gMeth at hn hQ
  rw [em] at hn hQ
  simp only [Res.bind_ok] at hn hQ
  split at hn
  · rename_i c ns vs ec
    rw [ec] at hQ
    simp only at hQ
    split at hn
    · rename_i fn dd et
      rw [et] at hQ
      simp only at hQ
      have h1' := grd_nb hn
      rw [grd_pos h1'] at hn hQ
      obtain ⟨f, fd, ps, dv, M, F, hb, hd⟩ := T c fn dd et
      obtain ⟨a, dx, mA, us0, rfl, ob, l, t, q⟩ := asO_at I1.hinv r1 ec
      refine lf (L2.get_meth I1.kIn ob (M.cls.get m) M.mt.at_ M.mt.fn (by rw [t]; exact lookup_none h1') ?_)
      have r3 : VRs X.S G1 s1.heap (x :: ([] ++ dd)) (([.ref a]) ++ dv) := .cons r1 (hd G1 s1.heap I1.hinv.base)
      have hn2 : gargs fn (x :: ([] ++ dd)) h1 ≠ .bad := hn
      refine callWith_K0 (first := [.ref a]) I1.kIn M.mt.kp (call_ret (run_gen F hr.rm.depth I1 (fun hl => hb s1 [.ref a] I1.kIn hl) r3 hn2 fun ys a g N s2 eq e2 n => ?_))
      exact hQ ys h1 a g N s2 G1 eq (e1.trans e2 (fun _ _ _ z => z) fun _ _ _ z => z) ⟨n.gat, n.apt, fun c x => e1.stp.dead (n.nf c x), fun x z => e1.stp.deadG (n.ng x z), n.im⟩
    · exact absurd rfl hn
  · exact absurd rfl hn
end
end Qo
-- SA
set_option maxRecDepth 100000
set_option maxHeartbeats 4000000
/-! SA: what is told by these runs is what the machine does. -/
namespace Qo
open PySem PySem.Spec PyProof.Rows
section
variable {dn : Code → Sem PySem.Fin} {pg : Program} {w : World}
theorem shows_not {s : Shared} {fs : List Frame} {c : Code} {g : Bool} (z : s.asleep) (u : fs.any Frame.guarded = false) (y : g = true → YfOver s.heap c) : closingShows s fs c g = false := by
  unfold closingShows
  rw [u]
  cases g with
  | false => rfl
  | true =>
    obtain ⟨a, r, kw, rfl, o, ho, hn⟩ := y rfl
    obtain ⟨n, en⟩ := Option.isSome_iff_exists.mp hn
    simp [delegateShows, ho, en, z.1]
theorem life_yield {oth : List Value} {s : Shared} {v : Value} {g : Bool} {l : List Value} {k : Resume → Sem PySem.Fin} {c : Code} {p : Pos} {st fs rest : List Frame} {b : Nat × (GenResult → Sem PySem.Fin) × Code × Pos}
    (z : s.asleep) (e : splitAtGen st = some (fs, b, rest)) (u : fs.any Frame.guarded = false) (y : g = true → YfOver s.heap c) : lifeStep dn pg w oth s ⟨.yield v g l k, c, p, st⟩ = step dn pg w s ⟨.yield v g l k, c, p, st⟩ := by
  cases q : Thread.special ⟨.yield v g l k, c, p, st⟩ with
  | false => exact lifeStep_eq_step dn pg w oth s _ q z.2
  | true =>
    have n := shows_not z u y
    unfold lifeStep
    rw [if_pos q]
    simp [collectorTurn?, e, n, Thread.atItsEnd, stepCounting, z.2]
theorem pick_yield {s : Shared} {v : Value} {g : Bool} {l : List Value} {k : Resume → Sem PySem.Fin} {c : Code} {p : Pos} {st : List Frame} (z : s.asleep) : (Config.single s ⟨.yield v g l k, c, p, st⟩).pick w = .ok (.run 0, .single s ⟨.yield v g l k, c, p, st⟩) := by
  have n := fun main oth => nothing_to_collect w.params oth main s ⟨.yield v g l k, c, p, st⟩ z.1
  have a : (Config.single s ⟨.yield v g l k, c, p, st⟩).collect? w.params = none := by simp [Config.single, Config.collect?, (n _ _).1]
  have b : (Config.single s ⟨.yield v g l k, c, p, st⟩).collectable = [] := by simp [Config.single, Config.collectable, (n _ _).2]
  have m : ∀ pr, (Config.single s ⟨.yield v g l k, c, p, st⟩).moves pr = [.run 0] := fun pr => by
    simp [Config.single, Config.moves, movesFrom, Thread.moves, Thread.atomic, Thread.tells, Thread.rests]
  unfold Config.pick
  simp only [a, b, m, Config.pickThread]
  cases w.params.lifetimes <;> simp
theorem sstep_yield {s : Shared} {v : Value} {g : Bool} {l : List Value} {k : Resume → Sem PySem.Fin} {c : Code} {p : Pos} {st fs rest : List Frame} {b : Nat × (GenResult → Sem PySem.Fin) × Code × Pos}
    (z : s.asleep) (e : splitAtGen st = some (fs, b, rest)) (u : fs.any Frame.guarded = false) (y : g = true → YfOver s.heap c) : sstep dn pg w (.single s ⟨.yield v g l k, c, p, st⟩) = (step dn pg w s ⟨.yield v g l k, c, p, st⟩).lift := by
  have r : (Config.single s ⟨.yield v g l k, c, p, st⟩).run dn pg w 0 = (step dn pg w s ⟨.yield v g l k, c, p, st⟩).lift := by
    have hl := fun oth => life_yield (dn := dn) (pg := pg) (w := w) (oth := oth) (v := v) (l := l) (k := k) (p := p) z e u y
    simp only [Config.single, Config.run]
    simp [hl, others_single, frozenBadly, ThreadState.insideWrite]
    split <;> simp_all [Step.lift, Config.single] <;> split <;> simp
  unfold sstep
  rw [pick_yield z]
  simp only [Config.move, r]
/-- what is left asleep at the end asks nothing -/
theorem left_none {b : Bool} {s : Shared} (z : s.asleep) (so : Soft s) : leftWithCleanup (forgetSuspended b s).gens = false := by
  refine leftWithCleanup_false_of_bare fun x hx => ?_
  obtain ⟨i, hi, e⟩ := Array.mem_iff_getElem.mp hx
  have hi' : i < s.gens.size := by simpa [forgetSuspended] using hi
  have e0 : s.gens[i]? = some s.gens[i] := Array.getElem?_eq_getElem hi'
  generalize hy : s.gens[i] = y at e0
  subst e
  simp only [forgetSuspended, Array.getElem_map, hy]
  cases y with
  | suspended k l c p fs cl =>
    cases cl with
    | false => rfl
    | true =>
      obtain ⟨u, o⟩ := so i k l c p fs e0
      have n := shows_not (g := true) z u fun _ => o
      simp [n, GenState.bare]
  | _ => rfl
theorem run_end {s : Shared} {r : Result} {c : Code} {p : Pos} (z : s.asleep) (so : Soft s) : sstep dn pg w (.single s ⟨leafOf r, c, p, []⟩) = .halt (outcomeOf r) (forgetSuspended (w.params.lifetimes == .anyTime) s) := by
  have cm : Thread.calm ⟨leafOf r, c, p, []⟩ = true := by cases r <;> rfl
  have hl : ∀ oth, lifeStep dn pg w oth s ⟨leafOf r, c, p, []⟩ = .halt (outcomeOf r) (forgetSuspended (w.params.lifetimes == .anyTime) s) := fun oth => by
    rw [lifeStep_calm0 dn pg w oth s _ cm z]
    have e : Thread.atItsEnd ⟨leafOf r, c, p, []⟩ = true := by cases r <;> rfl
    rw [if_pos e]
    have q := left_none (b := w.params.lifetimes == .anyTime) z so
    cases r <;> simp [leafOf, step, finish, outcomeOf, q]
  have k : (Config.single s ⟨leafOf r, c, p, []⟩).run dn pg w 0 = .halt (outcomeOf r) (forgetSuspended (w.params.lifetimes == .anyTime) s) := by
    cases r <;> simp only [Config.single, Config.run, leafOf] at hl ⊢ <;> simp [hl, others_single, frozenBadly, ThreadState.insideWrite]
  unfold sstep
  rw [pick_single w s _ cm z.1]
  simp only [Config.move, k]
end
end Qo
-- SB
set_option maxRecDepth 100000
set_option maxHeartbeats 4000000
/-! SB: a whole run, by the machine. -/
namespace Qo
open PySem PySem.Spec PyProof.Rows
section
variable {M : Model}
theorem go_single {s s1 sr : Shared} {T T1 Tr : Thread} (x : StepL M s T s1 T1) (hs : sr.forget = s.forget) (ht : Tr.forget = T.forget) (z : sr.asleep) :
    ∃ s2 T2, sstep M.den M.prog M.w (.single sr Tr) = .go (.single s2 T2) ∧ s2.forget = s1.forget ∧ T2.forget = T1.forget ∧ s2.heap.life = sr.heap.life := by
  obtain ⟨m, e⟩ := x
  have f : (PySem.step M.den M.prog M.w sr Tr).forget = Step.forget (.go s1 T1) := (step_same M.den M.prog M.w hs ht).trans ((stepK_forget M.den M.prog M.w s T).symm.trans (congrArg Step.forget e))
  cases hr : PySem.step M.den M.prog M.w sr Tr with
  | halt o s2 => rw [hr] at f; cases f
  | go s2 T2 =>
    rw [hr] at f
    simp only [Step.forget] at f
    injection f with f1 f2
    refine ⟨s2, T2, ?_, f1, f2, step_life M.den M.prog M.w sr s2 Tr T2 hr⟩
    have fin : ∀ {r : SStep}, r = (PySem.step M.den M.prog M.w sr Tr).lift → r = .go (.single s2 T2) := fun h => by rw [h, hr]; rfl
    rcases m with m | ⟨v, g, l, k, fs, b, rest, hc, hsp, u, y⟩
    · have cm : Tr.calm = true := by
        rw [← Thread.calm_forget Tr, ht, Thread.calm_forget, Thread.calm_eq, m]
        cases q : T.refused with
        | false => rfl
        | true =>
          obtain ⟨what, h⟩ := stepK_refused M.den M.prog M.w (s := s) q
          rw [e] at h; cases h
      rcases sstep_single M.den M.prog M.w sr Tr cm z with h | h
      · exact fin h
      · rw [hr] at h; cases h
    · obtain ⟨cur, code, pos, st⟩ := T
      obtain ⟨curr, coder, posr, str⟩ := Tr
      simp only at hc hsp y
      subst hc
      simp only [Thread.forget, Thread.mk.injEq] at ht
      obtain ⟨rfl, rfl, rfl, h4⟩ := ht
      have a := splitAtGen_forgetAll str
      rw [h4, splitAtGen_forgetAll, hsp] at a
      cases q : splitAtGen str with
      | none => rw [q] at a; cases a
      | some t =>
        obtain ⟨fsr, br, restr⟩ := t
        rw [q] at a
        simp only [Option.map_some, Option.some.injEq, Prod.mk.injEq] at a
        obtain ⟨a1, a2, _⟩ := a
        have u' : fsr.any Frame.guarded = false := by rw [← any_guarded_forgetAll, ← a1, any_guarded_forgetAll]; exact u
        exact fin (sstep_yield z q u' (by rw [(Shared.forget_eq hs).1]; exact fun _ => y))
theorem Soft.forget {s s' : Shared} (so : Soft s') (h : s.forget = s'.forget) : Soft s := fun g k l c p fs e => by
  obtain ⟨h1, _, _, _, h5⟩ := Shared.forget_eq h
  have a := congrArg (·[g]?) h5
  simp only [Array.getElem?_map, e, Option.map_some] at a
  cases q : s'.gens[g]? with
  | none => rw [q] at a; cases a
  | some x =>
    rw [q] at a
    simp only [Option.map_some, Option.some.injEq] at a
    cases x with
    | suspended k' l' c' p' fs' cl' =>
      simp only [GenState.forget_suspended, GenState.suspended.injEq] at a
      obtain ⟨rfl, rfl, rfl, rfl, a5, rfl⟩ := a
      obtain ⟨u, y⟩ := so g k l c p fs' q
      rw [h1]
      exact ⟨by rw [← any_guarded_forgetAll, a5, any_guarded_forgetAll]; exact u, y⟩
    | _ => cases a
theorem sched_of {s s' : Shared} {t : Sem PySem.Fin} {c : Code} {p : Pos} {pre : List Frame} {e : End} (h : ReachL M [] s t c p pre s' e) : ∀ (r : Result) (sr : Shared) (Tr : Thread), e = .ret r → sr.forget = s.forget → Tr.forget = Thread.forget ⟨t, c, p, pre ++ []⟩ → sr.asleep → Soft s' →
    ∃ n s2, schedN M.den M.prog M.w n (.single sr Tr) = .halted (outcomeOf r) (forgetSuspended (M.w.params.lifetimes == .anyTime) s2) ∧ s2.forget = s'.forget ∧ s2.heap.life = sr.heap.life := by
  induction h with
  | out hx =>
    rintro r sr Tr rfl hs ht z so
    obtain ⟨rfl, rfl⟩ := hx
    obtain ⟨curr, coder, posr, str⟩ := Tr
    simp only [Thread.forget, Thread.mk.injEq] at ht
    obtain ⟨rfl, rfl, rfl, h4⟩ := ht
    have : str = [] := by
      cases str with
      | nil => rfl
      | cons a b => cases h4
    subst this
    refine ⟨1, sr, ?_, hs, rfl⟩
    simp only [schedN, run_end z (so.forget hs)]
  | on hst _ ih =>
    rintro r sr Tr rfl hs ht z so
    obtain ⟨s2, T2, h1, h2, h3, h4⟩ := go_single hst hs ht z
    obtain ⟨n, s3, k1, k2, k3⟩ := ih r s2 T2 rfl h2 h3 (Shared.asleep_of_life h4 z) so
    exact ⟨n + 1, s3, by simp only [schedN, h1]; exact k1, k2, k3.trans h4⟩
end
/-- a whole thread -/
theorem thread_ends {prog : Program} {w : World} {t : Sem PySem.Fin} {s : Shared} {R : Result → Shared → Prop} (z : s.asleep)
    (h : wpAny (model prog w) callerA t (fun fin s' => ∃ f, fin = .done f ∧ (R (.ok f) s' ∧ Soft s')) (fun e s' => R (.error e) s' ∧ Soft s') s) :
    ∃ n r s' s'', schedN (denote table) prog w n (.single s ⟨t, .builtin "claim.caller" {}, default, []⟩) = .halted (outcomeOf r) s' ∧ s'.heap = s''.heap ∧ s'.os = s''.os ∧ s'.heap.life = s.heap.life ∧ R r s'' := by
  have a := ret_of (M := model prog w) (Γ := ⟨.builtin "claim.caller" {}, none, none, [], none⟩) (R := fun r s' => R r s' ∧ Soft s') (t := t) (p := default) (s := s) (wpT.mono (fun fin q s' x => by
    obtain ⟨f, rfl, x⟩ := x
    exact x) (fun _ _ _ x => x) t (h _ default caller_in))
  obtain ⟨r, s'', k, k1, k2⟩ := a
  have fits : PySem.Ctx.Fits ⟨.builtin "claim.caller" {}, none, none, [], none⟩ [] := ⟨rfl, rfl, rfl, rfl⟩
  obtain ⟨n, s2, h1, h2, h3⟩ := sched_of (k [] fits) r s ⟨t, .builtin "claim.caller" {}, default, []⟩ rfl rfl rfl z k2
  have e := Shared.forget_eq h2
  exact ⟨n, r, _, s'', h1, e.1, e.2.2.2.1, h3, k1⟩
end Qo
-- SC
set_option maxRecDepth 100000
set_option maxHeartbeats 4000000
/-! SC: a row's promise. -/
namespace Qo
open PySem PySem.Spec PySem.W PySem.Calls PyProof.Rows
def bareS (s : Shared) : Shared := { s with gens := #[] }
theorem callFrom_loud {c : ClaimW} {tree : List Value → Sem PySem.Fin} {w : World} {s : Shared} {free : Addr → Prop} {gens : Prop} {kept : Heap → Prop} (z : s.asleep) (eg : s.gens = #[])
    (sp : ∀ args, c.pre args = true → WData.layableAll args = true → ∀ ord : List DictEntry → List DictEntry, (∀ l, (ord l).Perm l) → ∃ vs s1, layAllW c.records (classAt s.heap) w.params ord args s = some (vs, s1) ∧
      wpAny (model c.prog w) callerA (tree vs) (fun fin y => ∃ f, fin = .done f ∧ ((c.Ends s args vs s1 (.ok f) y ∧ y.os = s.os ∧ kept y.heap) ∧ Soft y)) (fun e y => (c.Ends s args vs s1 (.error e) y ∧ y.os = s.os ∧ kept y.heap) ∧ Soft y) s1) :
    c.CallFrom (fun vs => ⟨tree vs, .builtin "claim.caller" {}, default, []⟩) w free gens kept s := by
  intro args a1 a2 ord a3
  obtain ⟨vs, s1, la, k⟩ := sp args a1 a2 ord a3
  have al := layAllW_rest _ _ _ la
  obtain ⟨n, r, y, y2, h1, eh, eo, el, e, os, kp⟩ := thread_ends (R := fun r y => c.Ends s args vs s1 r y ∧ y.os = s.os ∧ kept y.heap) (Shared.asleep_of_life al.2.2.2 z) k
  have e' := e.congr eh
  have lf' : y.heap.life = s.heap.life := el.trans al.2.2.2
  refine ⟨vs, s1, la, n, _, y, h1, ?_, fun _ i x q => ?_, by rw [eh]; exact kp, by rw [lf'], Shared.rest_eq (eo.trans os)⟩
  · rcases e' with ⟨v, rfl, d1, d2, d3, d4, d5⟩ | ⟨x, ob, cls, rfl, d1, d2, d3, d4, d5⟩
    · exact .inl ⟨v, rfl, d1, d2, d3, fun b o q _ => d4 b o q, d5⟩
    · exact .inr ⟨x, ob, cls, rfl, d1, d2, d3, d4, fun b o q _ => d5 b o q⟩
  · rw [eg] at q
    simp at q
/-- what a call of the law's def must give -/
abbrev WalkL (q : Program) (loose : List Str) (XP : (Str → Option Value) → Heap → Prop) (YP : World → Heap → Prop) (r : RowW) (d : DefRec) (kwd : List (Str × Expr)) : Prop :=
  ∀ (w : World) (s₀ s1 : Shared) (mg mb : Str → Option Value), Ground q loose r.records XP w s₀ mg mb s1.heap → YP w s1.heap → ∀ (a : Addr) (o : Obj) (pm cd doc dV kV : Value), s1.heap.get? a = some o → o.data = .func { docDef d.name d.params d.body d.scope pm cd doc with defaults := dV, kwdefaults := kV } →
    s1.heap.CodeRec cd d.name → Dflts mg s1.heap d.params kwd dV kV → mg d.name = some (.ref a) → s1.gens = #[] → ∀ (args : List WData) (vals : List Value) (as : List Addr), r.claim.pre args = true → WData.layableAll args = true → ReadsAllW r.records (classAt s₀.heap) s1.heap vals args as →
      WellAll w.params s1.heap vals args → (∀ a ∈ as, (a == sysModules) = false) → wpAny (model r.prog w) callerA (PySem.call (.ref a) vals) (fun v y => GoodWG r.claim (classAt s₀.heap) (ExcName.means s₀.heap) args s1 (.ok (.ret v)) (bareS y) ∧ Soft y) (fun e y => GoodWG r.claim (classAt s₀.heap) (ExcName.means s₀.heap) args s1 (.error e) (bareS y) ∧ Soft y) s1
theorem holds_loud {r : OpenRow} {q : Program} {loose : List Str} {Xt : Shared → Bool} {XP : (Str → Option Value) → Heap → Prop} {α : Type} {Yf : Shared → α} {Ya : World → α} {YP : World → Heap → Prop} {d : DefRec} {kwd : List (Str × Expr)} {N : Nat} (left : LeftO r.prog q loose Xt Yf Ya N)
    (y1 : ∀ w s, Yf s = Ya w → YP w s.heap) (y2 : ∀ w h h', YP w h → (∀ b o, h.get? b = some o → h'.get? b = some o) → YP w h') (x1 : ∀ s, Xt s = true → XP (s.heap.nsMap mainGlobals) s.heap) (x2 : ∀ mg h h', XP mg h → (∀ b o, h.get? b = some o → h'.get? b = some o) → XP mg h')
    (ed : defOf q r.name = some (d, kwd)) (ep : r.prog.theDef r.name = some (d.params, d.body, d.scope)) (ek : kwWritten? d.params.kwonlyargs d.params.kw_defaults = some kwd) (rf : ∀ s, Xt s = true → RecFacts r.records s.heap) (wr : (!r.writes || r.records.isEmpty) = true)
    (k1 : r.wellSaid = true) (ok : (chainsOk q && opensWell r.prog && (frees r.toRowW && r.within.isEmpty)) = true) (hb : r.prog.bare) (hw : r.toRowW.promised) (call : WalkL q loose XP YP r.toRowW d kwd) : r.Holds := by
  refine ⟨k1, hw, ?_⟩
  obtain ⟨ok, k5⟩ := Bool.and_eq_true_iff.mp ok
  obtain ⟨ch, ow⟩ := Bool.and_eq_true_iff.mp ok
  obtain ⟨k5, k6⟩ := Bool.and_eq_true_iff.mp k5
  obtain ⟨sm, fu, fa, fp, fm⟩ := frees_parts k5
  have idf := ident_freeW fu fa fp
  have wi : r.toRowW.claim.within = [] := List.isEmpty_iff.mp k6
  refine ⟨⟨hb, ow, by show List.map _ r.toRowW.makers = []; rw [fm]; rfl⟩, hw.witness, fun w => ⟨(left.behind x1 ch w).1, fun t ht => ?_⟩⟩
  obtain ⟨s₀, f1, f2, s, T, z, gn, ns, G0, yy⟩ := (left.behind (XP := fun mg h => XP mg h ∧ RecFacts r.records h) (fun s hs => ⟨x1 s hs, rf s hs⟩) ch w).2 t ht
  have G1 : Ground q loose [] XP w s (s.heap.nsMap mainGlobals) (s.heap.nsMap builtinsNs) s.heap := ⟨G0.T, G0.B, G0.D, G0.TE, G0.TD, G0.W, G0.X.1, G0.cls, G0.has, G0.apart, G0.once, G0.K⟩
  have RF := G0.X.2
  refine ⟨s₀, f1, f2, s, T, fun n hn => ?_, RF.1, RF.2.1, ?_⟩
  · obtain rfl : n = r.name := by split at hn <;> simp_all
    exact pinned_of_view ns G1 ed ep ek
  have gn : s.gens = #[] := Array.eq_empty_of_size_eq_zero (beq_iff_eq.mp gn)
  have G := RF.ground G1
  refine callFrom_loud (c := r.toRowW.claim) z gn fun args a1 a2 ord a3 => ?_
  obtain ⟨⟨vs, s1⟩, la⟩ := Option.isSome_iff_exists.mp (layAllW_isSome (P := w.params) (ord := ord) G.has args r.toRowW.args s (pre_splitW a1).1)
  have kl := layAllW_keeps _ _ _ la
  have al := layAllW_rest _ _ _ la
  obtain ⟨as, rd, inn, old⟩ := reads_layAllW a3 _ _ _ la a2 s1.heap (fun _ _ e => e)
  have L : Laid r.records w s s1 args vs as := ⟨⟨ord, a3, la⟩, rd, inn, old, kl, al.1.trans gn, al.2.2.1⟩
  have G2 := G.keeps x2 kl
  obtain ⟨a, o, pm, cd, doc, dV, kV, h1, h2, h3, h4, h5⟩ := G2.fn ed
  have fin : ∀ {res : Result} {y : Shared}, GoodWG r.toRowW.claim (classAt s.heap) (ExcName.means s.heap) args s1 res (bareS y) → r.toRowW.claim.Ends s args vs s1 res y ∧ y.os = s.os ∧ (r.writes = true → namesKept r.prog (r.keeps) s.heap y.heap ∧ ∀ x ∈ r.records, ∀ a, classAt s.heap x.1 = some a → recordClass y.heap a x.1 (x.2.map (·.1)) = true) := fun g => by
    have e := g.laid (c := r.toRowW.claim) sm wi idf L
    exact ⟨e.1.congr rfl, e.2.1, fun q => ⟨namesKept_of T ns _ kl g.2.1.old, noTable wr q⟩⟩
  refine ⟨vs, s1, la, ?_⟩
  refine wpAny_bind (lf (wpAny_nsGet G2.T.g ?_))
  rw [h1]
  have k := call w s s1 _ _ G2 (y2 _ _ _ (y1 w s yy) kl) a o pm cd doc dV kV h2 h3 h4 h5 (defOf_name ed ▸ h1) L.gens args vs as a1 a2 L.reads L.well (L.low G.low)
  exact wpAny_bind (wpAny_mono k (fun v y g => wpAny_pure ⟨_, rfl, fin g.1, g.2⟩) fun e y g => ⟨fin g.1, g.2⟩)
/-- a law's end: its call tells True -/
theorem walk_loud {l : OpenLaw} {n : Nat} {q : Program} {loose : List Str} {XP : (Str → Option Value) → Heap → Prop} {YP : World → Heap → Prop} {d : DefRec} (hn : l.most = some n) (hdf : d.params.defaults = [])
    (call : ∀ (w : World) (s₀ s1 : Shared) (mg mb : Str → Option Value) (fa : Addr) (o : Obj) (pm cd doc : Value) (a : Addr) (vs : List Value) (ns : List Int), Ground q loose [] XP w s₀ mg mb s1.heap → YP w s1.heap → s1.heap.get? fa = some o →
      o.data = .func (docDef d.name d.params d.body d.scope pm cd doc) → s1.heap.CodeRec cd d.name → mg d.name = some (.ref fa) → s1.heap.get? a = some { cls := .type "list", data := .seq vs.toArray } → IntsAre vs ns → ns.length ≤ n → s1.gens = #[] →
      codeAny (model l.prog w) callerA (.call (.ref fa) ⟨[.ref a], []⟩) (fun r y => r = .ok (.ret (.bool true)) ∧ OldK s1.heap y.heap ∧ y.os = s1.os ∧ Soft y) s1) : WalkL q loose XP YP l.row.toRowW d [] := by
  intro w s₀ s1 mg mb G Y fa o pm cd doc dV kV ho hd hcd hD hmg hg args vals as a1 a2 rd wl lo
  obtain rfl : dV = .none := Dflts.none hD hdf
  obtain rfl : kV = .none := Dflts.noKw hD
  obtain ⟨a, vs, ns, rfl, rfl, ob, hi, hl⟩ := Att.script_of hn a1 wl
  refine wpAny_call (codeAny_mono (call w s₀ s1 mg mb fa o pm cd doc a vs ns G Y ho (PySem.W.fd_plain hd) hcd hmg ob hi hl hg) fun r y h => ?_)
  obtain ⟨rfl, h2, h3, h4⟩ := h
  exact ⟨⟨.inl ⟨.bool true, .bool true, [], rfl, fun _ => rfl, .bool true, Att.post_true l _, fun _ => ⟨List.Pairwise.nil, fun _ hm => (nomatch hm)⟩⟩, h2, h3, .of_eq rfl⟩, h4⟩
end Qo
-- SD
set_option maxRecDepth 100000
set_option maxHeartbeats 4000000
/-! SD: a law by its def's promise. -/
namespace Qo
open PySem PySem.Spec PySem.W PySem.Calls PyProof.Rows
theorem vrs_ints {S : Stat} {G : Gh} {h : Heap} : ∀ {vs : List Value} {ns : List Int}, IntsAre vs ns → VRs S G h (ns.map D.int) vs
  | _, _, .nil => .nil
  | _, _, .cons n t h => .cons (by rw [VR]; exact ⟨t, rfl⟩) (vrs_ints h)
theorem law_loud {S : Stat} {k : Nat} {fa a : Addr} {fd : FuncData} {x : Str} {fn : List D → Hs → Res D} {s1 : Shared} {vs : List Value} {ns : List Int} (mod : L2.Mod S.K S.mg S.base) (eb : S.base = s1.heap) (eg : s1.gens = #[]) (ha : s1.heap.get? a = some { cls := .type "list", data := .seq vs.toArray }) (hi : IntsAre vs ns) (hl : ns.length ≤ sizeLine)
    (hr : Rm k callerA) (F : CallOk S k fa fd [x] fn) (hb : BindsTo s1 fd ⟨[.ref a], []⟩ [(x, .ref a)]) (hf : ∃ hs', fn [.lst (ns.map D.int)] [] = .ok (.bl true) hs') :
    codeAny (model S.P S.w) callerA (.call (.ref fa) ⟨[.ref a], []⟩) (fun r y => r = .ok (.ret (.bool true)) ∧ OldK s1.heap y.heap ∧ y.os = s1.os ∧ Soft y) s1 := by
  obtain ⟨hs', e⟩ := hf
  have im : ∀ b o, s1.heap.get? b = some o → (gh0 (fun a => ∃ o, s1.heap.get? a = some o)).im b := fun b o q => ⟨o, q⟩
  have H : HInv S (gh0 fun a => ∃ o, s1.heap.get? a = some o) [] s1.heap := ⟨rfl, fun i j p q x => by simp [gh0] at x, fun i p f c x => by simp [gh0] at x, fun i p c x => by simp [gh0] at x, fun i p c x => by simp [gh0] at x, fun b x => x, fun b o q => by rw [eb] at q; exact ⟨q, o, q⟩⟩
  have so : Soft s1 := fun g k l c p fs q => by rw [eg] at q; simp at q
  have r : VRs S (gh0 fun a => ∃ o, s1.heap.get? a = some o) s1.heap [.lst (ns.map D.int)] [.ref a] := .cons (by
    rw [VR]
    exact ⟨a, vs.toArray, rfl, ⟨_, ha⟩, by rw [List.length_map]; exact hl, ⟨_, ha⟩, vrs_ints hi⟩) .nil
  refine codeAny_mono (F.run callerA _ [] s1 ⟨[.ref a], []⟩ [.ref a] [.lst (ns.map D.int)] (fun v y => v = .bool true ∧ OldK s1.heap y.heap ∧ y.os = s1.os ∧ Soft y) (fun _ _ => False) hr mod H so hb r ⟨fun b h e' u y G' ev rv => ?_, fun x h e' => ?_, by rw [e]; intro z; cases z⟩) fun r y q => ?_
  · rw [e] at e'
    cases e'
    have rv : VR S G' y.heap (.bl true) u := rv
    rw [VR] at rv
    refine ⟨rv, OldK.of_keep fun b o q => ev.stp.keep b o (fun z => z.elim noWr0 id) q, ev.stp.os, ev.stp.bare so⟩
  · rw [e] at e'
    cases e'
  · cases r with
    | error e => exact q.elim
    | ok fl =>
      cases fl with
      | ret v => exact ⟨by rw [q.1], q.2⟩
      | _ => exact q.elim
/-- a law's row: the head's run, then its def -/
theorem law_row {l : OpenLaw} {n k : Nat} {q : Program} {H : Hook} {ob : SharedT → H.α} {M : Nat} {loose : List Str} {d : DefRec} {x : Str} (ho : ∀ s : SharedT, ob s = H.obs s.abs)
    (e : opening l.row.prog = plainProg l.row.prog.main.scope.names) (f : ∀ s, fenceModules? l.row.prog s = some s) (run : ∀ w, HandSHeadRun.RunEq l.row q H ob M loose w)
    (ed : defOf q l.row.name = some (d, [])) (ep : l.row.prog.theDef l.row.name = some (d.params, d.body, d.scope)) (ek : kwWritten? d.params.kwonlyargs d.params.kw_defaults = some [])
    (wr : (!l.row.writes || l.row.records.isEmpty) = true) (k1 : l.row.wellSaid = true) (ok : (chainsOk q && opensWell l.row.prog && (frees l.row.toRowW && l.row.within.isEmpty)) = true) (hb : l.row.prog.bare) (hw : l.row.toRowW.promised)
    (hn : l.most = some n) (hn2 : n ≤ sizeLine) (hdf : d.params.defaults = []) (hr : Rm k callerA)
    (F : ∀ (w : World) (mg : Str → Option Value) (fa : Addr) (h : Heap), H.says w h → h.Ns mainGlobals mg → mg d.name = some (.ref fa) →
      ∃ (K : PySem.W.Frag) (fd : FuncData) (fn : List D → Hs → Res D), K.In h ∧ (∀ (s : Shared) (u : Value), BindsTo s fd ⟨[u], []⟩ [(x, u)]) ∧ (∀ ns : List Int, ns.length ≤ n → ∃ hs', fn [.lst (ns.map D.int)] [] = .ok (.bl true) hs') ∧
        ∀ base : Heap, L2.Mod K mg base → CallOk ⟨l.prog, w, K, mg, base⟩ k fa fd [x] fn) : l.row.Holds := by
  have left : LeftO l.row.prog q loose (fun s => PySem.W.xlAt q [] s && recOk l.row.toRowW.records s) H.obs H.val (M + 600) true := by
    refine HandSHeadRun.left_one (M := M) e (Nat.ble_eq_true_of_le (by omega)) f (Nat.ble_eq_true_of_le (by omega)) fun w os => ?_
    have z := run w os
    rw [show ob = fun s => H.obs s.abs from funext ho] at z
    simp only [HandSHeadRun.endQ_eq, HandSHeadRun.seenQ_eq]
    exact z
  refine holds_loud (r := l.row) (q := q) (loose := loose) (XP := PySem.W.XL q []) (YP := H.says) (d := d) (kwd := []) left H.of H.keeps (fun s z => PySem.W.xl_of s (Bool.and_eq_true_iff.mp z).1) PySem.W.XL.keeps ed ep ek (fun s z => recFacts_of (Bool.and_eq_true_iff.mp z).2) wr k1 ok hb hw (walk_loud hn hdf ?_)
  intro w s₀ s1 mg mb fa o pm cd doc a vs ns G Y _ _ _ hmg ha hi hl eg
  obtain ⟨K, fd, fn, KX, hbd, hf, hF⟩ := F w mg fa _ Y G.T.g hmg
  have mod : L2.Mod K mg s1.heap := ⟨KX, G.T.g, ⟨mb, G.T.b, G.T.builtins⟩, G.T.nolimit⟩
  exact law_loud (S := ⟨l.prog, w, K, mg, s1.heap⟩) mod rfl eg ha hi (Nat.le_trans hl hn2) hr (hF _ mod) (hbd s1 _) (hf ns hl)
end Qo
-- SE
set_option maxRecDepth 100000
set_option maxHeartbeats 4000000
/-! SE: and, or, - as values. -/
namespace Qo
open PySem PySem.Spec PyProof.Rows
section
variable {M : Model} {A : Around} {E : Value → Shared → Prop} {s : Shared} {env : Env}
theorem BoolOp_one {op : BoolOp} {e : Expr} {pos : Pos} {Q : Value → Shared → Prop} (h : wpAny M A (eval e env) Q E s) : wpAny M A (eval (.BoolOp op [e] pos) env) Q E s := h
theorem and_any {a b : Expr} {rest : List Expr} {pos : Pos} {Q : Value → Shared → Prop} (h : wpAny M A (eval a env) (fun v z => wpAny M A (truthy v) (fun c y => if c then wpAny M A (eval (.BoolOp .And (b :: rest) pos) env) Q E y else Q v y) E z) E s) : wpAny M A (eval (.BoolOp .And (a :: b :: rest) pos) env) Q E s := by
  show wpAny M A (eval a env >>= fun v => standAt pos >>= fun _ => holding [v] (truthy v) >>= fun c => match BoolOp.And, c with
    | .And, false | .Or, true => pure v
    | _, _ => boolOp pos .And (eval b env :: evalEach rest env)) Q E s
  refine wpAny_bind (wpAny_mono h (fun v z h1 => wpAny_bind (wpAny_standAt (wpAny_bind (wpAny_holding (wpAny_mono h1 (fun c y h2 => ?_) fun _ _ x => x))))) fun _ _ x => x)
  cases c with
  | false => exact wpAny_pure h2
  | true => exact h2
theorem or_any {a b : Expr} {rest : List Expr} {pos : Pos} {Q : Value → Shared → Prop} (h : wpAny M A (eval a env) (fun v z => wpAny M A (truthy v) (fun c y => if c then Q v y else wpAny M A (eval (.BoolOp .Or (b :: rest) pos) env) Q E y) E z) E s) : wpAny M A (eval (.BoolOp .Or (a :: b :: rest) pos) env) Q E s := by
  show wpAny M A (eval a env >>= fun v => standAt pos >>= fun _ => holding [v] (truthy v) >>= fun c => match BoolOp.Or, c with
    | .And, false | .Or, true => pure v
    | _, _ => boolOp pos .Or (eval b env :: evalEach rest env)) Q E s
  refine wpAny_bind (wpAny_mono h (fun v z h1 => wpAny_bind (wpAny_standAt (wpAny_bind (wpAny_holding (wpAny_mono h1 (fun c y h2 => ?_) fun _ _ x => x))))) fun _ _ x => x)
  cases c with
  | false => exact h2
  | true => exact wpAny_pure h2
end
section
variable {X : Cx}
theorem pe_one {op : BoolOp} {e : Expr} {m : SE} {pos : Pos} (h : PE X e m) : PE X (.BoolOp op [e] pos) m := ⟨fun G σ hs s I Q E O => BoolOp_one (h.run G σ hs s I Q E O)⟩
theorem pe_and {a b : Expr} {rest : List Expr} {ma mb : SE} {pos : Pos} (ha : PE X a ma) (hb : PE X (.BoolOp .And (b :: rest) pos) mb) : PE X (.BoolOp .And (a :: b :: rest) pos) (eAnd ma mb) := by
  refine ⟨fun G σ hs s I Q E O => and_any ((ha.run G σ hs s I).thn O fun x h1 v s1 G1 _ e1 r1 O1 => ?_)⟩
  have I1 := I.step e1
  refine tru_ok e1.inv r1 (O1.fst fun c h2 c' s2 G2 _ e2 q O2 => ?_)
  subst q
  cases c' with
  | true => exact hb.run G2 σ h2 s2 (I1.step e2) Q E O2
  | false => exact O2.ok x h2 rfl v s2 G2 (Ev.refl (I1.step e2).hinv) (VR.mono (I1.grow e2) _ _ r1)
theorem pe_or {a b : Expr} {rest : List Expr} {ma mb : SE} {pos : Pos} (ha : PE X a ma) (hb : PE X (.BoolOp .Or (b :: rest) pos) mb) : PE X (.BoolOp .Or (a :: b :: rest) pos) (eOr ma mb) := by
  refine ⟨fun G σ hs s I Q E O => or_any ((ha.run G σ hs s I).thn O fun x h1 v s1 G1 _ e1 r1 O1 => ?_)⟩
  have I1 := I.step e1
  refine tru_ok e1.inv r1 (O1.fst fun c h2 c' s2 G2 _ e2 q O2 => ?_)
  subst q
  cases c' with
  | false => exact hb.run G2 σ h2 s2 (I1.step e2) Q E O2
  | true => exact O2.ok x h2 rfl v s2 G2 (Ev.refl (I1.step e2).hinv) (VR.mono (I1.grow e2) _ _ r1)
theorem pe_neg {i : Int} {k : Nat} {p pos : Pos} : PE X (.UnaryOp .USub (.Constant (.int i) k p) pos) (eC (.int (-i))) := ⟨fun G σ hs s I Q E O => lf (PyProof.Rows.UnaryOp_ (wpAny_Constant_int (neg_int (O.ok _ _ rfl _ _ G (Ev.kept (X := X) (t := s.toks + 1 + 1) I.hinv fun _ _ x => x) (by show VR _ _ _ _ _; rw [VR]; exact ⟨_, rfl⟩)))))⟩
end
end Qo
-- SF
set_option maxRecDepth 100000
set_option maxHeartbeats 4000000
/-! SF: list(g). -/
namespace Qo
open PySem PySem.Spec PyProof.Rows
section
variable {prog : Program} {w : World} {A : Around} {E : Value → Shared → Prop} {s : Shared}
theorem callType_loud {T newId initId : String} {Bi : Builtin} {args : List Value} {Q Q1 : Value → Shared → Prop} (ft : TypeCalled T newId initId) (ct : checkTypeCall T ⟨args, []⟩ = pure ()) (ei : entryFor table initId = some Bi)
    (hn : PySem.codeAny (model prog w) A.in1 (.call (.builtin newId) ⟨.type T :: args, []⟩) (wants Q1 fun _ _ => False) s)
    (hi : ∀ obj s1, Q1 obj s1 → s1.TypeIs obj T ∧ argsOk initId ⟨obj :: args, []⟩ ∧ wpAny (model prog w) A.in1.in1 (Bi ⟨obj :: args, []⟩)
      (fun fin z => match fin with | .done f => wants (fun r y => r = .none ∧ Q obj y) E (.ok f) z | .again c' => c'.quiet = true ∧ codeAny (model prog w) A.in1 c' (wants (fun r y => r = .none ∧ Q obj y) E) z) (fun e z => wants (fun r y => r = .none ∧ Q obj y) E (.error e) z) s1) :
    wpAny (model prog w) A (call (.type T) args) Q E s := by
  obtain ⟨c, tl, hmro⟩ := ft.mro
  refine wpAny_call (codeAny_of_tree ?_)
  show wpAny _ _ (callAny (.type T) _) _ _ _
  refine wpAny_pure ⟨Code.quiet_builtin _ (by decide +kernel), codeAny_builtin F.entry_type_call ?_⟩
  rw [Around.under_plain (weight_type_call_type T args []) rfl]
  unfold Builtin.«type.__call__»
  have h1 := ft.notType
  have h2 := ft.canCreate
  dsimp only
  rw [h1, if_neg Bool.false_ne_true]
  simp only [h2, if_neg Bool.false_ne_true]
  refine wpAny_bind ?_
  refine wpAny_of_eq ct ?_
  refine wpAny_bind (wpAny_of_eq hmro ?_)
  rw [if_neg (show ¬ ((c :: tl).isEmpty = true) from Bool.false_ne_true)]
  refine wpAny_bind (wpAny_of_eq ft.made ?_)
  dsimp only
  refine wpAny_bind (wpAny_pure (wpAny_bind (wpAny_holding (wpAny_call (codeAny_mono (lfc hn) fun r z k => ?_)))))
  cases r with
  | error e => exact k.elim
  | ok fl =>
    cases fl with
    | ret obj =>
      obtain ⟨hT, ok, b⟩ := hi obj z k
      refine wpAny_bind (lf (wpAny_isInstance (b := true) hT ft.sub ?_))
      rw [if_neg (show ¬ ((!true) = true) from Bool.false_ne_true)]
      refine wpAny_bind (wpAny_holding (wpAny_callSpecial?_slot (name := Str.ofString "__init__") hT ft.init (wpAny_call (codeAny_mono (codeAny_call_builtin ft.init.plain ei (lf (ft.init.check _ _ _ _ _ _ _ _ hT ok b))) fun r y k2 => ?_))))
      cases r with
      | error e => exact k2
      | ok fl2 =>
        cases fl2 with
        | ret v =>
          obtain ⟨rfl, q⟩ := k2
          exact wpAny_pure q
        | _ => exact k2.elim
    | _ => exact k.elim
end
end Qo
-- SG
set_option maxRecDepth 100000
set_option maxHeartbeats 4000000
/-! SG: list(g): its loop. -/
namespace Qo
open PySem PySem.Spec PyProof.Rows
section
variable {S : Stat} {A : Around} {G0 : Gh} {hs0 hs : Hs} {s0 : Shared} {L a : Addr} {g : Nat} {res : Value} {R : Result → Shared → Prop}
theorem drain_loud (hh : A.handled = none) (hd : A.depth < recursionLimit) (mod : L2.Mod S.K S.mg S.base) (hLa : L ≠ a) (hL0 : s0.heap.get? L = none) :
    ∀ (ds xs : List D) (us : Array Value) (G : Gh) (K : Kn) (s : Shared), Ev S noZ G0 hs0 s0 G hs s → Soft s → GAt S A.in1.in1 a g ds K s → (∀ c, K.im c → G.im c) → Apt (fun c => K.fp c ∨ c = a) (fun x => K.gp x ∨ x = g) G s → Apt (· = L) noG G s →
      (∀ c, K.fp c ∨ c = a → s0.heap.get? c = none ∧ c ≠ L) → (∀ x, K.gp x ∨ x = g → s0.gens[x]? = none) → s.heap.PlainList L us → VRs S G s.heap xs us.toList → xs.length + ds.length ≤ sizeLine →
      (∀ G' s' us', Ev S noZ G0 hs0 s0 G' hs s' → Apt (· = L) noG G' s' → s'.heap.PlainList L us' → VRs S G' s'.heap (xs ++ ds) us'.toList → R (.ok (.ret res)) s') →
      codeAny (model S.P S.w) A (.builtin "list.extend.loop" ⟨[.ref L, .ref a, res], []⟩) R s := by
  have lim : ∀ {G : Gh} {s : Shared}, Ev S noZ G0 hs0 s0 G hs s → s.heap.NoLimit := fun e => mod.nolimit.keeps fun b o x => (e.inv.base b o x).1
  intro ds
  induction ds with
  | nil =>
    intro xs us G K s e so w kim ap aL hn hg hl hr hz done
    obtain ⟨gs, h1, h2⟩ := w.st
    refine codeAny_builtin F.entry_extend_loop ?_
    rw [Around.under_plainId F.plain_extend_loop _]
    show wpAny _ A.in1 (pyNext (.ref a) >>= _) _ _ s
    refine wpAny_bind (next_sg (A := A.in1) hh (lim e) hd w.gen h1 (h2 _ (wok_run w) (Soft.running so)) (fun x z h => PhiG.mild h) (fun v g₀ l₀ k₀ c₀ p₀ fs₀ z hv => False.elim hv) (fun r z h => ?_))
    obtain ⟨hq, K1, its⟩ := w.stop (hs := hs) kim ap e.inv h
    refine ⟨hq, fun h' k => wpAny_pure ?_⟩
    have t := its h' k
    have gr := t.grow (X := Cx0 S) ap.im
    refine done _ _ us (Ev.it (X := Cx0 S) e t (fun c o y z => by rw [(hn c z).1] at y; cases y) (fun c o y z => by rw [(hn c z).1] at y; cases y) hg (fun c z y => .inr (hn c z).1)) (aL.other (X := Cx0 S) t (fun b y z => (hn b z).2 y) fun _ z => z.elim) (hl.at fun o y => t.keep L o (fun z => (hn L z).2 rfl) y) ?_
    rw [List.append_nil]
    exact VRs.mono gr _ _ hr
  | cons d ds ih =>
    intro xs us G K s e so w kim ap aL hn hg hl hr hz done
    obtain ⟨gs, h1, h2⟩ := w.st
    refine codeAny_builtin F.entry_extend_loop ?_
    rw [Around.under_plainId F.plain_extend_loop _]
    show wpAny _ A.in1 (pyNext (.ref a) >>= _) _ _ s
    refine wpAny_bind (next_sg (A := A.in1) hh (lim e) hd w.gen h1 (h2 _ (wok_run w) (Soft.running so)) (fun x z h => PhiG.mild h) (fun v g₀ l₀ k₀ c₀ p₀ fs₀ z hv => ?_) (fun r z h => False.elim h))
    obtain ⟨K1, t, ap1, n1, n2, rv, w1⟩ := w.item (hs := hs) kim ap e.inv hv
    have gr := t.grow (X := Cx0 S) ap.im
    have e2 := Ev.it (X := Cx0 S) e t (fun c o y z => by rw [(hn c z).1] at y; cases y) (fun c o y z => by rw [(hn c z).1] at y; cases y) hg (fun c z y => .inr (hn c z).1)
    have aL2 := aL.other (X := Cx0 S) t (fun b y z => (hn b z).2 y) fun _ z => z.elim
    have so2 := t.bare so
    have rv : VR S (G.plus K1.im) (z.setGen g (End.susp v g₀ l₀ k₀ c₀ p₀ fs₀).genState).heap d v := rv
    generalize hs2 : z.setGen g (End.susp v g₀ l₀ k₀ c₀ p₀ fs₀).genState = s2 at t ap1 w1 e2 aL2 so2 gr rv
    generalize hG2 : G.plus K1.im = G2 at t ap1 e2 aL2 gr rv
    have kim2 : ∀ c, K1.im c → G2.im c := fun c x => by rw [← hG2]; exact .inr x
    obtain ⟨n, hl2⟩ : s2.heap.PlainList L us := hl.at fun o y => t.keep L o (fun z => (hn L z).2 rfl) y
    have hn2 : ∀ c, K1.fp c ∨ c = a → s0.heap.get? c = none ∧ c ≠ L := fun c x => (n1 c x).elim (hn c) fun y => ⟨e.stp.dead y, fun z => by subst z; obtain ⟨o, q⟩ := aL.live c rfl; rw [y] at q; cases q⟩
    have hg2 : ∀ x, K1.gp x ∨ x = g → s0.gens[x]? = none := fun x y => (n2 x y).elim (hg x) fun z => e.stp.deadG z
    have len := hr.len
    rw [Array.length_toList] at len
    simp only [List.length_cons] at hz
    show wpAny _ A.in1 (updateSeq L (·.push v) >>= _) _ _ s2
    refine wpAny_bind (lf (wpAny_updateSeq hl2 rfl (wpAny_pure ⟨plainId_quiet F.plain_extend_loop _, ?_⟩) (by omega) (by show (us.push v).size ≤ sizeLine + 1; rw [Array.size_push]; omega)))
    have sb := Heap.SameBut.update s2.heap L (Obj.mapSeq (·.push v))
    have k3 : ∀ b o, ¬ (b = L) → s2.heap.get? b = some o → (s2.heap.update L (Obj.mapSeq (·.push v))).get? b = some o := fun b o n x => (sb.2 b n).trans x
    have t3 : ItS S (· = L) noG G2 hs s2 G2 { s2 with heap := s2.heap.update L (Obj.mapSeq (·.push v)), toks := s2.toks } := ItS.heap (X := Cx0 S) e2.inv aL2 k3 fun b y => by subst y; exact notGen hl2 fun _ q => by cases q
    have g3 := t3.grow (X := Cx0 S) aL2.im
    have kL : (s2.heap.update L (Obj.mapSeq (·.push v))).PlainList L (us.push v) := ⟨_, Heap.get?_update_self (Obj.mapSeq (·.push v)) hl2 rfl⟩
    refine ih (xs ++ [d]) (us.push v) G2 K1 _ (Ev.it (X := Cx0 S) e2 t3 (fun c o y z => by subst z; rw [hL0] at y; cases y) (fun c o y z => by subst z; rw [hL0] at y; cases y) (fun _ z => z.elim) fun c z y => .inr (by subst z; exact hL0)) (t3.bare so2)
      (w1.moved ?_ ⟨fun c o y x => k3 c o ?_ x, fun _ _ _ x => x⟩ fun _ x => x) kim2 (ap1.other (X := Cx0 S) t3 (fun b y z => (hn2 b y).2 z) fun _ _ z => z) ⟨fun c y => by subst y; obtain ⟨m, q⟩ := kL; exact ⟨_, q⟩, aL2.mu, aL2.im, fun _ z => z.elim⟩ hn2 hg2 kL ?_ ?_ fun G' s' us' a1 a2 a3 a4 => ?_
    · obtain ⟨o, nm, qn, q, r⟩ := w1.gen
      exact ⟨o, nm, qn, k3 a o (fun z => hLa z.symm) q, r⟩
    · rintro rfl
      rcases y with y | y
      · exact aL2.im c rfl (kim2 c y)
      · exact (hn2 c (.inl y)).2 rfl
    · rw [Array.toList_push]
      exact (VRs.mono g3 _ _ (VRs.mono gr _ _ hr)).append (.one (VR.mono g3 _ _ rv))
    · simp; omega
    · exact done G' s' us' a1 a2 a3 (by rw [List.append_assoc] at a4; exact a4)
end
end Qo
-- SH
set_option maxRecDepth 100000
set_option maxHeartbeats 4000000
/-! SH: list(g). -/
namespace Qo
open PySem PySem.Spec PyProof.Rows
theorem Rm.in3 {k : Nat} {A : Around} (r : Rm (k + 1) A) : Rm k A.in1.in1.in1 := ⟨⟨r.rm.hd, by have := r.rm.dp; show A.depth + 3 * k + 5 < _; omega, by have := r.rm.un; show A.units + 1 + 1 + 1 + 16 * k + 200 < _; omega⟩, r.gd⟩
def eListG (b : Bool) (m : SGe) : SE := fun σ hs => (m σ hs).bind fun ds h => mkL b ds h
section
variable {X : Cx} {G : Gh} {σ : St} {hs h1 : Hs} {s s1 : Shared} {k : Nat} {e : Expr} {m : SGe}
theorem call_list_loud {b : Bool} {ds : List D} {a : Addr} {g : Nat} {N : Kn} {G1 : Gh} {Q : Value → Shared → Prop} {E : Value → Shared → Prop} (hr : Rm (k + 1) X.A) (mod : L2.Mod X.S.K X.S.mg X.S.base) (so : Soft s1) (e1 : Ev X.S noZ G hs s G1 h1 s1) (new : GNew X.S k a g ds N G1 s s1) (O : Out X noZ (VRX X) G hs s (mkL b ds h1) Q E) :
    wpAny (model X.S.P X.S.w) X.A (call (.type "list") [.ref a]) Q E s1 := by
  have hz : ds.length ≤ sizeLine := O.grd.1
  have w := new.gat _ hr.in3
  obtain ⟨oa, nm, qn, ha, _⟩ := id w.gen
  have hLa : s1.heap.objs.size ≠ a := Nat.ne_of_gt (Heap.lt_size ha)
  have hL0 : s.heap.get? s1.heap.objs.size = none := e1.stp.dead (Heap.get?_none_of_le (Nat.le_refl _))
  refine callType_loud (Q1 := fun obj z => obj = .ref s1.heap.objs.size ∧ z = { s1 with heap := s1.heap.push { cls := .type "list", data := .seq #[] } }) F.called_list (F.typeCall_list_1 _) F.entry_list_init (code_list_new _ ⟨rfl, rfl⟩) fun obj z h => ?_
  obtain ⟨rfl, rfl⟩ := h
  have hS : (s1.heap.push { cls := .type "list", data := .seq #[] }).get? s1.heap.objs.size = some { cls := .type "list", data := .seq #[] } := Heap.get?_push_size _ rfl
  refine ⟨⟨_, hS, rfl⟩, F.args_list_init_2 _ _, ?_⟩
  show wpAny _ X.A.in1.in1 (Builtin.List.listItems (.ref s1.heap.objs.size) >>= fun old => Builtin.List.listUpdate (.ref s1.heap.objs.size) (fun _ => #[]) >>= fun _ => letGo old.toList.reverse >>= fun _ => Builtin.List.listExtendWith (.ref s1.heap.objs.size) (.ref a) .none) _ _ _
  refine wpAny_bind (lf ?_)
  unfold Builtin.List.listItems
  refine PySem.wpAny_bind (wpAny_seqItems hS rfl (PySem.wpAny_pure ?_))
  show wpAny _ X.A.in1.in1 (updateSeq s1.heap.objs.size (fun _ => #[]) >>= fun _ => letGo (#[] : Array Value).toList.reverse >>= fun _ => Builtin.List.listExtendWith (.ref s1.heap.objs.size) (.ref a) .none) _ _ _
  refine wpAny_bind (lf (wpAny_updateSeq hS rfl ?_))
  have hS2 := Heap.get?_update_self (Obj.mapSeq (fun _ => (#[] : Array Value))) hS rfl
  refine wpAny_bind (lf (wpAny_letGo ?_))
  unfold Builtin.List.listExtendWith
  have up : ∀ (h : Heap) (f : Obj → Obj), (∀ b o, s1.heap.get? b = some o → h.get? b = some o) → ∀ b o, s1.heap.get? b = some o → (h.update s1.heap.objs.size f).get? b = some o := fun h f q b o x => (Heap.get?_update_other _ _ (Ne.symm (Nat.ne_of_lt (Heap.lt_size x)))).trans (q b o x)
  have k1 : ∀ b o, s1.heap.get? b = some o → (s1.heap.push { cls := .type "list", data := .seq #[] }).get? b = some o := fun b o x => Heap.get?_push_of_some _ x
  have k2 := up _ (Obj.mapSeq (fun _ => (#[] : Array Value))) k1
  have gty : ∀ {h : Heap}, (∀ b o, s1.heap.get? b = some o → h.get? b = some o) → GenO h a g := fun {h} q => let ⟨o, nm, qn, x, r⟩ := w.gen; ⟨o, nm, qn, q a o x, r⟩
  refine wpAny_bind (lf (wpAny_typeOf (GenO.typeIs (s := { s1 with heap := _ }) (gty k2)) ?_))
  have c1 : Builtin.List.listSameRef (.ref s1.heap.objs.size) (.ref a) = false := by simp [Builtin.List.listSameRef, hLa]
  have c2 : (Value.type "generator" == Value.type "list") = false := by decide
  have c3 : (Value.type "generator" == Value.type "tuple") = false := by decide
  simp only [c1, c2, c3, Bool.or_false, Bool.false_eq_true, if_false]
  refine wpAny_bind (pyIter_genO (s := { s1 with heap := _ }) (gty k2) ?_)
  refine wpAny_bind (wpAny_holding ?_)
  unfold Builtin.List.listLengthHint
  refine wpAny_bind (lf (wpAny_specialOf (GenO.typeIs (s := { s1 with heap := _ }) (gty k2)) F.gen_no_len ?_))
  show wpAny _ X.A.in1.in1 (specialOf (Value.ref a) (Str.ofString "__length_hint__") >>= _) _ _ _
  refine wpAny_bind (lf (wpAny_specialOf (GenO.typeIs (s := { s1 with heap := _ }) (gty k2)) F.gen_no_hint ?_))
  refine wpAny_pure ?_
  show wpAny _ X.A.in1.in1 (rule "list.extend.makes-room" >>= fun _ => Builtin.List.listTouch (.ref s1.heap.objs.size) >>= fun _ => again (.builtin "list.extend.loop" ⟨[.ref s1.heap.objs.size, .ref a, .none], []⟩)) _ _ _
  refine wpAny_bind (wpAny_rule ?_)
  refine wpAny_bind ?_
  show wpAny _ X.A.in1.in1 (updateSeq s1.heap.objs.size (·.push .none) >>= fun _ => updateSeq s1.heap.objs.size (·.pop)) _ _ _
  refine wpAny_bind (lf (wpAny_updateSeq hS2 rfl ?_))
  have hS3 := Heap.get?_update_self (Obj.mapSeq (·.push Value.none)) hS2 rfl
  refine lf (wpAny_updateSeq (hz := by seq_fits) hS3 rfl ?_)
  have hS4 := Heap.get?_update_self (Obj.mapSeq (·.pop)) hS3 rfl
  have k4 := up _ (Obj.mapSeq (·.pop)) (up _ (Obj.mapSeq (·.push Value.none)) k2)
  refine wpAny_pure ⟨plainId_quiet F.plain_extend_loop _, ?_⟩
  generalize hh4 : (((s1.heap.push { cls := .type "list", data := .seq #[] }).update s1.heap.objs.size (Obj.mapSeq (fun _ => (#[] : Array Value)))).update s1.heap.objs.size (Obj.mapSeq (·.push Value.none))).update s1.heap.objs.size (Obj.mapSeq (·.pop)) = h4 at hS4 k4
  have e4 : Ev X.S noZ G1 h1 s1 G1 h1 { s1 with heap := h4, toks := s1.toks } := Ev.kept (X := X) e1.inv k4
  have e5 := e1.trans e4 (fun _ _ _ z => z) fun _ _ _ z => z
  have ap4 : Apt (fun c => N.fp c ∨ c = a) (fun x => N.gp x ∨ x = g) G1 { s1 with heap := h4, toks := s1.toks } := new.apt.ev (X := X) (Z := noZ) (fun _ _ z => z) e4
  have hln : s1.heap.get? s1.heap.objs.size = none := Heap.get?_none_of_le (Nat.le_refl _)
  have aL : Apt (· = s1.heap.objs.size) noG G1 { s1 with heap := h4, toks := s1.toks } := ⟨fun c x => by subst x; exact ⟨_, hS4⟩, fun c x i p q => by subst x; exact Inv.muNone (X := Cx0 X.S) e1.inv hln i p q, fun c x => by subst x; exact Inv.imNone (X := Cx0 X.S) e1.inv hln, fun _ z => z.elim⟩
  refine drain_loud (S := X.S) (A := X.A.in1) hr.rm.hd hr.rm.depth mod hLa hL0 ds [] #[] G1 N _ e5 (e4.stp.bare so) (w.moved (gty k4) ⟨fun c o _ x => k4 c o x, fun _ _ _ x => x⟩ fun _ x => x) new.im ap4 aL
    (fun c x => ⟨new.nf c x, fun z => by subst z; obtain ⟨o, q⟩ := new.apt.live _ x; rw [hln] at q; cases q⟩) new.ng ⟨_, hS4⟩ .nil (by simpa using hz) fun G' s' us' a1 a2 a3 a4 => ?_
  exact ⟨rfl, Out.adoptL O a1 a2 hL0 a3 a4⟩
theorem pe_listg (b : Bool) {p pos : Pos} (he : PGn X k e m) (hr : Rm (k + 1) X.A) (hg : Gl X "list") (hm : X.S.mg "list" = none) (hs' : starEach [e] X.env = [(false, eval e X.env)]) : PE X (.Call (.Name "list" p) [e] [] pos) (eListG b m) := by
  refine ⟨fun G σ hs s I Q E O => wpAny_Call_Name_kw (ld_blt (u := .type "list") I hg hm (by rfl) (by decide) (by rfl) (callWith_type1 ?_ hs' rfl))⟩
  rw [hs']
  show wpAny _ _ (spliced [(false, eval e X.env)]) _ _ s
  unfold eListG at O
  refine Calls.spliced_cons (he.run G σ hs s _ _ I (bind_nx O.exc) (bind_nb O.nb) fun ds h1 a g N s1 G1 em e1 new => ?_)
  rw [em] at O
  refine Calls.spliced_nil ?_
  exact call_list_loud hr I.ok.mod (e1.stp.bare I.bare) e1 new O
end
end Qo
-- SI
set_option maxRecDepth 100000
set_option maxHeartbeats 4000000
/-! SI: len(o) of an instance. -/
namespace Qo
open PySem PySem.Spec PyProof.Rows
section
variable {prog : Program} {w : World} {A : Around} {E : Value → Shared → Prop} {s : Shared}
theorem fn_entry {id : String} {b : Builtin} {args : List Value} {Q : Value → Shared → Prop} (hk : builtinKind id = none) (hp : plainId id = true) (hb : entryFor table id = some b) (ha : argsOk id ⟨args, []⟩)
    (hc : wpAny (model prog w) A.in1 (b ⟨args, []⟩) (fun fin z => ∃ v, fin = .done (.ret v) ∧ Q v z) E s) : wpAny (model prog w) A (call (.builtin id) args) Q E s := by
  refine wpAny_call (codeAny_call_builtin hp hb ?_)
  have fin := wpAny_mono hc (Q' := fun fin z => match fin with
    | .done f => (match (Except.ok f : Result) with | .ok (.ret v) => Q v z | .ok _ => False | .error e => E e z)
    | .again c' => c'.quiet = true ∧ codeAny (model prog w) A c' (fun r y => match r with | .ok (.ret v) => Q v y | .ok _ => False | .error e => E e y) z) (fun fin z k => by obtain ⟨v, rfl, k⟩ := k; exact k) fun _ _ k => k
  simp only [checkBuiltinCall, hk]
  cases sg : Manifest.signature? id with
  | none => exact wpAny_pure fin
  | some sig =>
    simp only [argsOk, sg] at ha
    exact wpAny_of_eq (show Bind.checkArgs id sig ⟨args, []⟩ = pure () from ha) fin
theorem special_any {K : PySem.W.Frag} {x C f : Addr} {ox : Obj} {od : Option Obj} {name : Str} {args : List Value} {Q : Option Value → Shared → Prop} (X : K.In s.heap) (I : PySem.W.InstAt s.heap x ox C od) (hs : PySem.W.findIn K (.ref C) name = some (some (.ref f))) (hf : PySem.W.isFn K (.ref f) = true)
    (h : wpAny (model prog w) A (call (.ref f) (.ref x :: args)) (fun v => Q (some v)) E s) : wpAny (model prog w) A (callSpecial? (.ref x) name args) Q E s := by
  simp only [callSpecial?]
  unfold specialOf
  refine wpAny_bind (wpAny_bind (lf (I.type.at ?_)))
  refine lf ((PySem.W.looks_findIn X hs).at ?_)
  dsimp only
  refine wpAny_holding (wpAny_bind (lf ((PySem.W.bind_fn X _ (beq_iff_eq.mp hf)).at ?_)))
  dsimp only
  exact wpAny_bind (wpAny_mono h (fun _ _ z => wpAny_pure z) fun _ _ z => z)
end
def eLenO (tbl : Addr → Option (SF × List D)) (o : SA) : SE := fun σ hs => (o σ hs).bind fun ds h => match ds with
  | [x] => match asO h x with
    | some (c, _, _) => match tbl c with
      | some (fn, []) => (fn [x] h).bind fun r h => match r with
        | .int n => grd (0 ≤ n ∧ n < 2 ^ 63) (.ok (.int n) h)
        | _ => .bad
      | _ => .bad
    | none => .bad
  | _ => .bad
section
variable {X : Cx} {k : Nat}
theorem pe_lenO {p pos : Pos} {e : Expr} {ma : SA} {tbl : Addr → Option (SF × List D)} (T : MethT X k "__len__" tbl) (hr : Rm (k + 1) X.A) (hg : Gl X "len") (hm : X.S.mg "len" = none) (ha : PA X [e] ma) (he : starEach [e] X.env = [(false, eval e X.env)]) : PE X (.Call (.Name "len" p) [e] [] pos) (eLenO tbl ma) := by
  refine ⟨fun G σ hs s I Q E O => wpAny_Call_Name_kw (ld_blt (u := .builtin "len") I hg hm (by rfl) (by decide) (by rfl) (callWith_builtin1 ((ha.run pos G σ hs s I).thn O fun ds h1 us s1 G1 em e1 r1 O1 => ?_) he rfl))⟩
  have I1 := I.step e1
  split at O1
  · rename_i x
    split at O1
    · rename_i c ns vs ec
      split at O1
      · rename_i fn et
        obtain ⟨f, fd, ps, dv, M, F, hb, hd⟩ := T c fn [] et
        obtain ⟨u, rfl, rx⟩ := vrs1 r1
        obtain ⟨a, dx, mA, us0, rfl, ob, l, t, q⟩ := asO_at I1.hinv rx ec
        obtain ⟨od, J, hl⟩ := ob.look
        have dv0 : dv = [] := by
          have := hd G1 s1.heap I1.hinv.base
          rw [VRs] at this
          exact this
        subst dv0
        refine fn_entry kind_len plain_len entry_len (args_len1 _) ?_
        unfold Builtin.«len»
        refine wpAny_bind (m := oneArg "len" _) (wpAny_pure ?_)
        refine wpAny_bind (m := callSpecial? (.ref a) (Str.ofString "__len__")) (special_any I1.kIn J M.mt.at_ M.mt.fn ?_)
        have nb : fn [x] h1 ≠ .bad := bind_nb O1.nb
        have r2 : VRs X.S G1 s1.heap [x] [.ref a] := r1
        refine call_ret (F.run X.A.in1 G1 h1 s1 ⟨[.ref a], []⟩ [.ref a] [x] _ _ hr.in1 I1.ok.mod I1.hinv I1.bare ?_ r2 ⟨fun d h2 e2 v s2 G2 ev rv => ?_, bind_nx O1.exc, nb⟩)
        · have := hb s1 [.ref a] I1.kIn (by rw [List.append_nil]; exact (F.len _ _ nb))
          rw [List.append_nil] at this
          exact this
        · rw [e2] at O1
          simp only [Res.bind_ok] at O1
          split at O1
          · rename_i n
            obtain ⟨⟨n0, n1⟩, O1⟩ := O1.grd
            have rv : VR X.S G2 s2.heap (.int n) v := rv
            rw [VR] at rv
            obtain ⟨t, rfl⟩ := rv
            have ev' : Ev X.S noZ G1 h1 s1 G2 h2 s2 := ev
            have O2 := O1.ok _ _ rfl
            refine wpAny_bind (wpAny_holding (wpAny_pure ?_))
            refine wpAny_bind (lf (wpAny_letGo ?_))
            show wpAny _ _ (if n < 0 then _ else _) _ _ _
            rw [if_neg (by omega)]
            show wpAny _ _ (if n ≥ 2 ^ 63 then _ else _) _ _ _
            rw [if_neg (by omega)]
            refine wpAny_bind (lf (wpAny_mkInt (wpAny_pure ⟨_, rfl, ?_⟩)))
            exact O2 _ _ G2 (ev'.trans (Ev.kept (X := X) (t := s2.toks + 1) ev'.inv fun _ _ y => y) (fun _ _ _ z => z) fun _ _ _ z => z) (by show VR _ _ _ _ _; rw [VR]; exact ⟨_, rfl⟩)
          · exact absurd rfl O1.nb
      · exact absurd rfl O1.nb
    · exact absurd rfl O1.nb
  · exact absurd rfl O1.nb
end
end Qo
-- SJ
set_option maxRecDepth 100000
set_option maxHeartbeats 4000000
/-! SJ: what a printed derivation leans on. -/
namespace Qo
open PySem PySem.Spec PyProof.Rows
/-- a def of the module, at its name -/
def FnK (S : Stat) (k : Nat) (x : Str) (fn : SF) : Prop := ∃ f fd ps, S.mg x = some (.ref f) ∧ PySem.W.keepIn S.K (.ref f) = true ∧ CallOk S k f fd ps fn ∧ L2.Binds S.K fd ps []
/-- its function object -/
def DefK (S : Stat) (x : Str) (st : Stmt) : Prop := ∃ f fd, S.mg x = some (.ref f) ∧ L2.FunD S.K x x (L2.defArgs st) (L2.defBody st) (L2.defScope st) [] [] f fd
abbrev BindsN (x qual : Str) (st : Stmt) (ps : List Str) : Prop := ∀ (kV doc pm : Value) (an : Option Addr) (cdv ct : Value) (us : List Value), us.length = ps.length → bindArgs (PySem.W.fnOf x qual (L2.defArgs st) (L2.defBody st) (L2.defScope st) .none kV doc pm an cdv ct) ⟨us, []⟩ = pure (ps.zip us)
theorem CallOk.mono {S : Stat} {k k' : Nat} {f : Addr} {fd : FuncData} {ps : List Str} {fn : SF} (F : CallOk S k f fd ps fn) (h : k ≤ k') : CallOk S k' f fd ps fn := ⟨F.len, fun A G hs s args us ds Q E r => F.run A G hs s args us ds Q E (r.mono h)⟩
theorem FnK.mono {S : Stat} {k k' : Nat} {x : Str} {fn : SF} (F : FnK S k x fn) (h : k ≤ k') : FnK S k' x fn := let ⟨f, fd, ps, a, b, c, d⟩ := F; ⟨f, fd, ps, a, b, c.mono h, d⟩
theorem fnK_of {S : Stat} {x : Str} {st : Stmt} {N ps : List Str} {m : Bool} {b : SS} {k : Nat} (F : DefK S x st) (sc : L2.FnScope N ps (L2.defScope st)) (hb : BindsN x x st ps) (body : ∀ (A : Around) (L f : Addr) (cd : Value), Rm k A → PSs (cxFn S N x (L2.defScope st) L f cd A) (L2.defBody st) b) :
    FnK S (k + 1) x (fnS m ps.length N.length b) := by
  obtain ⟨f, fd, hm, F⟩ := F
  refine ⟨f, fd, ps, hm, F.kp, ?_, F.bindsN hb⟩
  obtain ⟨oc, od, dV, kV, doc, pm, an, cdv, ct, osl, rfl, lk, hcd, _, _⟩ := F.ex
  exact call_of lk hcd sc fun A L r => body A L f cdv r
/-- what never is: nothing is said -/
def fnBad : SF := fun _ _ => .bad
theorem fnK_bad {S : Stat} {x : Str} {st : Stmt} {ps : List Str} {k : Nat} (F : DefK S x st) (hb : BindsN x x st ps) : FnK S k x fnBad := by
  obtain ⟨f, fd, hm, F⟩ := F
  exact ⟨f, fd, ps, hm, F.kp, ⟨fun ds hs h => absurd rfl h, fun A G hs s args us ds Q E r mod H so hb' rv O => absurd rfl O.nb⟩, F.bindsN hb⟩
theorem Roomy.of {X : Cx} {k : Nat} (r : Rm k X.A) : Roomy X := ⟨by have := r.rm.un; omega, by have := r.rm.dp; omega, r.gd⟩
section
variable {X : Cx} {k : Nat}
theorem pe_callF {x : Str} {p pos : Pos} {e : Expr} {es : List Expr} {ma : SA} {fn : SF} (F : FnK X.S k x fn) (hr : Rm k X.A) (hg : Gl X x) (ha : PA X (e :: es) ma) (hdb : (x == ("__debug__" : Str)) = false) (he : starEach (e :: es) X.env = (false, eval e X.env) :: starEach es X.env) (hpl : (backTo pos (starEach es X.env)).any (·.1) = false) :
    PE X (.Call (.Name x p) (e :: es) [] pos) (eCall fn [] ma) := by
  obtain ⟨f, fd, ps, hm, kp, C, b⟩ := F
  exact pe_call C hr hg hm kp b .nil ha hdb he hpl
theorem pe_gstr {x z : Str} {pos : Pos} (hg : Gl X x) (hm : ∃ t, X.S.mg x = some (.str z t)) (hd : (x == ("__debug__" : Str)) = false) : PE X (.Name x pos) (eC (.str z)) := let ⟨t, e⟩ := hm; pe_glob hg e hd fun G h _ => by rw [VR]; exact ⟨t, rfl⟩
theorem pe_gint {x : Str} {z : Int} {pos : Pos} (hg : Gl X x) (hm : ∃ t, X.S.mg x = some (.int z t)) (hd : (x == ("__debug__" : Str)) = false) : PE X (.Name x pos) (eC (.int z)) := let ⟨t, e⟩ := hm; pe_glob hg e hd fun G h _ => by rw [VR]; exact ⟨t, rfl⟩
theorem pe_gfn {x : Str} {a : Addr} {pos : Pos} (hg : Gl X x) (hm : X.S.mg x = some (.ref a)) (hd : (x == ("__debug__" : Str)) = false) : PE X (.Name x pos) (eC (.fn a)) := pe_glob hg hm hd fun G h _ => by rw [VR]
theorem pe_gty {x : Str} {n : String} {pos : Pos} (hg : Gl X x) (hm : X.S.mg x = none) (hv : bootBuiltins x = some (.type n)) (hn : x ≠ "__name__") (hd : (x == ("__debug__" : Str)) = false) : PE X (.Name x pos) (eC (.ty n)) := pe_bltn hg hm hv hn hd fun G h => by rw [VR]
theorem ps_bad {st : Stmt} : PS X st (fun _ _ => .bad) := ⟨fun G σ hs s I Q E O => absurd rfl O.nb⟩
theorem pe_bad {e : Expr} : PE X e (fun _ _ => .bad) := ⟨fun G σ hs s I Q E O => absurd rfl O.nb⟩
theorem pss_bad {st : List Stmt} : PSs X st (fun _ _ => .bad) := ⟨fun G σ hs s I Q E O => absurd rfl O.nb⟩
end
/-- a block's names, looked at -/
def blkB (vars : List (Str × Nat)) (sc scope : Scope) (own : List Nat) : Bool := (match scope.kind with | .function => true | _ => false) && scope.names.all fun y => scope.names.lookup y.1 == some y.2 && (match y.2 with
  | .free => sc.names.lookup y.1 == some .cell || sc.names.lookup y.1 == some .free
  | .local => (match vars.lookup y.1 with | some i => own.contains i | none => true)
  | .cell => (match vars.lookup y.1 with | some i => own.contains i | none => true)
  | _ => true)
theorem Blk.of {vars : List (Str × Nat)} {sc scope : Scope} {own : List Nat} (h : blkB vars sc scope own = true) : Blk vars sc scope own := by
  unfold blkB at h
  obtain ⟨h1, h2⟩ := Bool.and_eq_true_iff.mp h
  have a := fun y hy => Bool.and_eq_true_iff.mp (List.all_eq_true.mp h2 y hy)
  refine ⟨?_, fun y hy => by simpa using (a y hy).1, fun y hy e => ?_, fun y hy e i q => ?_⟩
  · cases hk : scope.kind <;> rw [hk] at h1 <;> first | rfl | cases h1
  · have := (a y hy).2
    rw [e] at this
    simpa using this
  · have := (a y hy).2
    rcases e with e | e <;> rw [e, q] at this <;> simpa using this
theorem cells_none {X : Cx} {scope : Scope} (h : (scope.names.all fun y => !(y.2 == .free)) = true) : Inv.Cells X scope := fun I y hy e => by
  have := List.all_eq_true.mp h y hy
  rw [e] at this
  cases this
/-- a def's cells stand: what a block takes from it -/
theorem cells_fn {S : Stat} {N : List Str} {qual : Str} {sc : Scope} {L f : Addr} {cd : Value} {A : Around} {scope : Scope} (h : (scope.names.all fun y => !(y.2 == .free) || sc.names.lookup y.1 == some .cell) = true) : Inv.Cells (cxFn S N qual sc L f cd A) scope := fun I y hy e => by
  have := List.all_eq_true.mp h y hy
  rw [e] at this
  have q : sc.names.lookup y.1 = some .cell := by simpa using this
  exact L2.cell_has q
section
variable {X : Cx}
theorem pe_rev2 (b : Bool) {e st : Expr} {m : SE} {p2 pos : Pos} (he : PE X e m) (hst : PE X st (eC (.int (-1))))
    (hsub : ∀ v w, subscripted (.Slice none none (some st) p2) false v (.ref w) = operate [v, .ref w] (getItem v (.ref w))) : PE X (.Subscript e (.Slice none none (some st) p2) pos) (eRev b m) := by
  refine ⟨fun G σ hs s I Q E O => Subscript_ ((he.run G σ hs s I).thn O fun x h1 v s1 G1 _ e1 r1 O1 => ?_)⟩
  have I1 := I.step e1
  split at O1
  · rename_i xs ex
    refine wpAny_Slice ?_
    rw [evalPart_none, evalPart_some]
    refine wpAny_pure (wpAny_pure ((hst.run G1 σ h1 s1 I1).go (by intro x h z; cases z) (by intro z; cases z) fun d h2 vs s2 G2 ed e2 r2 => ?_))
    cases ed
    have I2 := I1.step e2
    obtain ⟨t, rfl⟩ := int_of r2
    have k4 : ∀ b o, s2.heap.get? b = some o → (s2.heap.push { cls := .type "slice", data := .fields #[.none, .none, .int (-1) t] }).get? b = some o := fun b o q => Heap.get?_push_of_some _ q
    have e4 : Ev X.S noZ G2 h1 s2 G2 h1 { s2 with heap := s2.heap.push { cls := .type "slice", data := .fields #[.none, .none, .int (-1) t] } } := Ev.kept (X := X) (t := s2.toks) I2.hinv k4
    have r4 := VR.mono (I2.grow e4) _ _ (VR.mono (I1.grow e2) _ _ r1)
    have I4 := I2.step e4
    obtain ⟨a, its, rfl, pll, hz, hsz, q⟩ := asL_at (X := X) I4.hinv r4 ex
    have O4 := (O1.mv e2).mv e4
    show wpAny (model X.S.P X.S.w) X.A (subscriptTail e (.Slice none none (some st) p2) (.ref a) (.ref s2.heap.objs.size)) Q E { s2 with heap := s2.heap.push { cls := .type "slice", data := .fields #[.none, .none, .int (-1) t] } }
    refine tail_any (ops := [.ref a, .ref s2.heap.objs.size]) pll.isList.typeIs slot_list_getitem.lookup ?_ (hsub _ _)
    refine lf (wpAny_getItem_list_slice pll.isList (Heap.IsSliceOf.new ..) .none .none (.int (-1) t) (by simp) ?_ (by omega))
    rw [PySem.W.krv_pick]
    exact O4.pushL (t := s2.toks) I4.hinv (by simpa using q.reverse)
  · exact absurd rfl O1.nb
end
def visB (sc : Scope) (x : Str) : Bool := match sc.names.lookup x with
  | some .local => true
  | some .cell => true
  | some .free => true
  | _ => false
theorem visOf {sc : Scope} {x : Str} (h : visB sc x = true) : L2.Vis sc x := by
  unfold visB at h
  split at h
  · rename_i e; exact .inl e
  · rename_i e; exact .inr (.inl e)
  · rename_i e; exact .inr (.inr e)
  · cases h
def locB (X : Cx) (x : Str) : Bool := match X.env.scope.names.lookup x with
  | some .local => true
  | some .cell => X.fn x
  | _ => false
theorem locOf {X : Cx} {x : Str} (h : locB X x = true) : Loc X x := by
  unfold locB at h
  split at h
  · rename_i e; exact .inl e
  · rename_i e; exact .inr ⟨e, h⟩
  · cases h
end Qo
-- SK
set_option maxRecDepth 100000
set_option maxHeartbeats 4000000
/-! SK: classes in a printed derivation. -/
namespace Qo
open PySem PySem.Spec PyProof.Rows
/-- a class statement's i-th statement -/
def cst (s : Stmt) (i : Nat) : Stmt := match s with
  | .ClassDef (body := b) .. => b.getD i (.Pass ⟨0, 0, 0, 0⟩)
  | _ => .Pass ⟨0, 0, 0, 0⟩
/-- a function object somewhere -/
def FunK (S : Stat) (f : Addr) (x qual : Str) (st : Stmt) : Prop := ∃ fd, L2.FunD S.K x qual (L2.defArgs st) (L2.defBody st) (L2.defScope st) [] [] f fd
def CallK (S : Stat) (k : Nat) (f : Addr) (fn : SF) : Prop := ∃ fd ps, CallOk S k f fd ps fn ∧ L2.Binds S.K fd ps []
theorem CallK.mono {S : Stat} {k k' : Nat} {f : Addr} {fn : SF} (F : CallK S k f fn) (h : k ≤ k') : CallK S k' f fn := let ⟨fd, ps, c, d⟩ := F; ⟨fd, ps, c.mono h, d⟩
theorem callK_of {S : Stat} {x qual : Str} {st : Stmt} {N ps : List Str} {m : Bool} {b : SS} {k : Nat} {f : Addr} (F : FunK S f x qual st) (sc : L2.FnScope N ps (L2.defScope st)) (hb : BindsN x qual st ps) (body : ∀ (A : Around) (L f : Addr) (cd : Value), Rm k A → PSs (cxFn S N qual (L2.defScope st) L f cd A) (L2.defBody st) b) :
    CallK S (k + 1) f (fnS m ps.length N.length b) := by
  obtain ⟨fd, F⟩ := F
  refine ⟨fd, ps, ?_, F.bindsN hb⟩
  obtain ⟨oc, od, dV, kV, doc, pm, an, cdv, ct, osl, rfl, lk, hcd, _, _⟩ := F.ex
  exact call_of lk hcd sc fun A L r => body A L f cdv r
theorem callK_bad {S : Stat} {x qual : Str} {st : Stmt} {ps : List Str} {k : Nat} {f : Addr} (F : FunK S f x qual st) (hb : BindsN x qual st ps) : CallK S k f fnBad := by
  obtain ⟨fd, F⟩ := F
  exact ⟨fd, ps, ⟨fun ds hs h => absurd rfl h, fun A G hs s args us ds Q E r mod H so hb' rv O => absurd rfl O.nb⟩, F.bindsN hb⟩
/-! ### attributes -/
def aN : Addr → Option Act := fun _ => none
def aT (C : Addr) (a : Act) (t : Addr → Option Act) : Addr → Option Act := fun c => if c = C then some a else t c
/-- a property of a class -/
def PropF (S : Stat) (C : Addr) (m : Str) (f : Addr) : Prop := L2.Cls S.K C ∧ ∃ p, L2.PropOf S.K C m p f
section
variable {X : Cx} {k : Nat}
theorem attN {m : Str} : AttT X k m aN := fun _ _ e => by cases e
theorem attF {m : Str} {C : Addr} {t : Addr → Option Act} (h : L2.Cls X.S.K C ∧ L2.NoAttr X.S.K C m) (r : AttT X k m t) : AttT X k m (aT C .fld t) := fun c act e => by
  unfold aT at e
  split at e
  · rename_i h1; subst h1; cases e; exact h
  · exact r c act e
theorem attP {m : Str} {C f : Addr} {fn : SF} {t : Addr → Option Act} (h : PropF X.S C m f) (F : CallK X.S k f fn) (r : AttT X k m t) : AttT X k m (aT C (.prop fn) t) := fun c act e => by
  unfold aT at e
  split at e
  · rename_i h1
    subst h1
    cases e
    obtain ⟨cl, p, P⟩ := h
    obtain ⟨fd, ps, F, b⟩ := F
    exact ⟨cl, p, f, fd, ps, P, F, b⟩
  · exact r c act e
/-! ### methods -/
def mN : Addr → Option (SF × List D) := fun _ => none
def mT (C : Addr) (fn : SF) (t : Addr → Option (SF × List D)) : Addr → Option (SF × List D) := fun c => if c = C then some (fn, []) else t c
theorem metN {m : Str} : MethT X k m mN := fun _ _ _ e => by cases e
theorem metC {m : Str} {C f : Addr} {fn : SF} {t : Addr → Option (SF × List D)} (h : L2.Cls X.S.K C ∧ L2.Meth X.S.K C m f) (F : CallK X.S k f fn) (r : MethT X k m t) : MethT X k m (mT C fn t) := fun c fn' dd e => by
  unfold mT at e
  split at e
  · rename_i h1
    subst h1
    cases e
    obtain ⟨fd, ps, F, b⟩ := F
    exact ⟨f, fd, ps, [], ⟨h.1, h.2⟩, F, b, .nil⟩
  · exact r c fn' dd e
/-! ### instances -/
def MkK (S : Stat) (k : Nat) (C : Addr) (fn : SF) : Prop := ∃ f, L2.Mk S.K C f ∧ CallK S k f fn
theorem pe_makeF {x : Str} {C : Addr} {fz : Bool} {p pos : Pos} {e : Expr} {es : List Expr} {ma : SA} {fn : SF} (F : MkK X.S k C fn) (hr : Rm (k + 1) X.A) (hg : Gl X x) (hm : X.S.mg x = some (.ref C)) (ha : PA X (e :: es) ma) (hdb : (x == ("__debug__" : Str)) = false) (he : starEach (e :: es) X.env = (false, eval e X.env) :: starEach es X.env) (hpl : (backTo pos (starEach es X.env)).any (·.1) = false) :
    PE X (.Call (.Name x p) (e :: es) [] pos) (eMake fz C fn [] ma) := by
  obtain ⟨f, M, fd, ps, F, b⟩ := F
  exact pe_make M F hr hg hm b .nil ha hdb he hpl
/-- what may be set -/
def okN : Addr → Bool := fun _ => false
def okC (C : Addr) (t : Addr → Bool) : Addr → Bool := fun c => decide (c = C) || t c
theorem setN {K : PySem.W.Frag} {n : Str} : SetOk K n okN := fun _ e => by cases e
theorem setC1 {K : PySem.W.Frag} {n : Str} {C : Addr} {t : Addr → Bool} (h : L2.Cls K C ∧ L2.NoAttr K C n) (r : SetOk K n t) : SetOk K n (okC C t) := fun c e => by
  unfold okC at e
  rcases Bool.or_eq_true_iff.mp e with e | e
  · rw [of_decide_eq_true e]; exact h
  · exact r c e
/-! ### generators -/
def GenK (S : Stat) (k : Nat) (f : Addr) (fn : List D → Option (List D)) : Prop := ∃ fd ps, GenOk S k f fd ps fn ∧ L2.Binds S.K fd ps []
def genBad : List D → Option (List D) := fun _ => none
theorem genK_of {S : Stat} {x qual : Str} {st : Stmt} {N ps : List Str} {b : SY} {k : Nat} {f : Addr} (F : FunK S f x qual st) (sc : L2.GScope N ps (L2.defScope st)) (hb : BindsN x qual st ps) (body : ∀ (A : Around) (L f : Addr) (cd : Value), Rm k A → GSs (cxFn S N qual (L2.defScope st) L f cd A) (L2.defBody st) b) :
    GenK S k f (fnG ps.length N.length b) := by
  obtain ⟨fd, F⟩ := F
  refine ⟨fd, ps, ?_, F.bindsN hb⟩
  obtain ⟨oc, od, dV, kV, doc, pm, an, cdv, ct, osl, rfl, lk, hcd, _, _⟩ := F.ex
  exact gcall_of lk hcd sc fun A L r => body A L f cdv r
theorem genK_bad {S : Stat} {x qual : Str} {st : Stmt} {ps : List Str} {k : Nat} {f : Addr} (F : FunK S f x qual st) (hb : BindsN x qual st ps) : GenK S k f genBad := by
  obtain ⟨fd, F⟩ := F
  exact ⟨fd, ps, ⟨fun ds h => absurd rfl h, fun A G hs s args us ds ys Q E r mod H so hb' rv e => by cases e⟩, F.bindsN hb⟩
theorem pgn_callF {x : Str} {f : Addr} {p pos : Pos} {e : Expr} {es : List Expr} {ma : SA} {fn : List D → Option (List D)} (F : GenK X.S k f fn) (hr : Rm 0 X.A) (hg : Gl X x) (hm : X.S.mg x = some (.ref f)) (hk : PySem.W.keepIn X.S.K (.ref f) = true) (ha : PA X (e :: es) ma) (hdb : (x == ("__debug__" : Str)) = false) (he : starEach (e :: es) X.env = (false, eval e X.env) :: starEach es X.env) (hpl : (backTo pos (starEach es X.env)).any (·.1) = false) :
    PGn X k (.Call (.Name x p) (e :: es) [] pos) (gCall fn [] ma) := by
  obtain ⟨fd, ps, F, b⟩ := F
  exact pgn_call F hr hg hm hk b .nil ha hdb he hpl
def gT (C : Addr) (fn : List D → Option (List D)) : Addr → Option ((List D → Option (List D)) × List D) := fun c => if c = C then some (fn, []) else none
theorem gmet {m : Str} {C f : Addr} {fn : List D → Option (List D)} (h : L2.Cls X.S.K C ∧ L2.Meth X.S.K C m f) (F : GenK X.S k f fn) : GMethT X k m (gT C fn) := fun c fn' dd e => by
  unfold gT at e
  split at e
  · rename_i h1
    subst h1
    cases e
    obtain ⟨fd, ps, F, b⟩ := F
    exact ⟨f, fd, ps, [], ⟨h.1, h.2⟩, F, b, .nil⟩
  · cases e
end
/-! ### a def that says super() -/
def FunS (S : Stat) (f cc cda : Addr) (x qual : Str) (st : Stmt) : Prop := ∃ oc od osl kV doc pm an ct, S.K.lookup f = some ⟨oc, od, .func (PySem.W.ksFn x qual (L2.defArgs st) (L2.defBody st) (L2.defScope st) .none kV doc pm an (.ref cda) ct cc), osl⟩ ∧ PySem.W.codeIn S.K (.ref cda) qual = true
theorem callS_of {S : Stat} {x qual sf : Str} {st : Stmt} {N ps : List Str} {m : Bool} {b : SS} {k : Nat} {f cc cda D : Addr} (F : FunS S f cc cda x qual st) (SK : SupK S f cc cda D sf) (sc : SupScope N ps (L2.defScope st))
    (hb : ∀ (kV doc pm : Value) (an : Option Addr) (ct : Value) (us : List Value), us.length = ps.length → bindArgs (PySem.W.ksFn x qual (L2.defArgs st) (L2.defBody st) (L2.defScope st) .none kV doc pm an (.ref cda) ct cc) ⟨us, []⟩ = pure (ps.zip us))
    (body : ∀ (A : Around) (L : Addr), Rm k A → PSsa (cxSup S N qual (L2.defScope st) L f (.ref cda) cc A) (L2.defBody st) (L2.defBody st) b) : CallK S (k + 1) f (fnSup m ps.length N.length b) := by
  obtain ⟨oc, od, osl, kV, doc, pm, an, ct, lk, hcd⟩ := F
  obtain ⟨cl, cld, csl, hcell⟩ := SK.cell
  exact ⟨_, ps, call_sup lk hcd sc hcell fun A L r => body A L r, .all fun us hl => hb kV doc pm an ct us hl⟩
def sT (C : Addr) (fn : SF) : Addr → Option SF := fun c => if c = C then some fn else none
theorem supT1 {S : Stat} {k : Nat} {D C f2 : Addr} {nm : Str} {fn : SF} (cl : L2.Cls S.K C) (hm : PySem.W.mroIn S.K C (.ref D) = some true) (hs : PySem.W.ks_superIn S.K C D nm = some (some (.ref f2))) (ht : PySem.W.typeIn S.K (.ref f2) = some (.type "function")) (hf : PySem.W.fnIn S.K f2 = true) (F : CallK S k f2 fn) : SupT S k D nm (sT C fn) := fun c fn' e => by
  unfold sT at e
  split at e
  · rename_i h1
    subst h1
    cases e
    obtain ⟨fd, ps, F, b⟩ := F
    exact ⟨cl, hm, f2, fd, ps, hs, ht, hf, F, b⟩
  · cases e
end Qo
-- SL
set_option maxRecDepth 100000
set_option maxHeartbeats 4000000
/-! SL: what the head's run tells. -/
namespace Qo
open PySem PySem.Spec PyProof.Rows L2
abbrev FX : Type := Option (Str × Str × Arguments × FuncBody × Scope × Addr × List Str × Addr)
def fnX (K : PySem.W.Frag) (a : Addr) : FX := match K.lookup a with
  | some ⟨_, _, .func fd, _⟩ => some (fd.name, fd.qualname, fd.params, fd.body, fd.scope, fd.globals, fd.closure.map (·.1), fd.builtins)
  | _ => none
/-- a def: where it stands, its names, its statement; c: it says super() -/
structure DX where
  pos : PySem.W.Frag → Addr
  name : Str
  qual : Str
  st : Stmt
  c : Bool := false
def DX.val (d : DX) : FX := some (d.name, d.qual, defArgs d.st, .stmts (defBody d.st), defScope d.st, mainGlobals, (match d.c with | true => ["__class__"] | false => []), builtinsNs)
def plainDefault : Value → Bool
  | .none => true
  | _ => false
def DX.ok (K : PySem.W.Frag) (d : DX) : Bool := PySem.W.keepIn K (.ref (d.pos K)) && (match K.lookup (d.pos K) with
  | some ⟨_, _, .func fd, _⟩ => PySem.W.codeIn K fd.code d.qual && plainDefault fd.defaults
  | _ => false)
theorem DX.fun_ {S : Stat} {d : DX} (e : fnX S.K (d.pos S.K) = d.val) (c : d.ok S.K = true) (hc : d.c = false) : FunK S (d.pos S.K) d.name d.qual d.st := by
  obtain ⟨kp, c2⟩ := Bool.and_eq_true_iff.mp c
  unfold fnX at e
  cases q : S.K.lookup (d.pos S.K) with
  | none => rw [q] at c2; cases c2
  | some o =>
    obtain ⟨oc, od, dt, osl⟩ := o
    rw [q] at c2 e
    cases dt with
    | func fd =>
      obtain ⟨n1, n2, n3, n4, n5, n6, n7, n8, n9, n10, n11, n12, n13, n14, n15⟩ := fd
      simp only [DX.val, hc, Option.some.injEq, Prod.mk.injEq, List.map_eq_nil_iff] at e
      obtain ⟨h1, h2, h3, h4, h5, h6, h7, h8⟩ := e
      obtain ⟨k1, k2⟩ := Bool.and_eq_true_iff.mp c2
      simp only at h1 h2 h3 h4 h5 h6 h7 h8 k1 k2
      subst h1 h2 h3 h4 h5 h6 h7 h8
      have k3 : n8 = .none := by
        cases n8 <;> first | rfl | cases k2
      subst k3
      exact ⟨_, ⟨oc, od, _, n9, n10, n11, n12, n13, n14, osl, rfl, q, k1, .inl ⟨rfl, rfl⟩, .inl rfl⟩, kp⟩
    | _ => cases c2
def ccOf (K : PySem.W.Frag) (f : Addr) : Addr := match K.lookup f with
  | some ⟨_, _, .func fd, _⟩ => (match fd.closure with | (_, a) :: _ => a | _ => 0)
  | _ => 0
def cdOf (K : PySem.W.Frag) (f : Addr) : Addr := match K.lookup f with
  | some ⟨_, _, .func fd, _⟩ => (match fd.code with | .ref a => a | _ => 0)
  | _ => 0
theorem DX.funs {S : Stat} {d : DX} (e : fnX S.K (d.pos S.K) = d.val) (c : d.ok S.K = true) (hc : d.c = true) : FunS S (d.pos S.K) (ccOf S.K (d.pos S.K)) (cdOf S.K (d.pos S.K)) d.name d.qual d.st := by
  obtain ⟨kp, c2⟩ := Bool.and_eq_true_iff.mp c
  unfold fnX at e
  unfold ccOf cdOf
  cases q : S.K.lookup (d.pos S.K) with
  | none => rw [q] at c2; cases c2
  | some o =>
    obtain ⟨oc, od, dt, osl⟩ := o
    rw [q] at c2 e
    cases dt with
    | func fd =>
      obtain ⟨n1, n2, n3, n4, n5, n6, n7, n8, n9, n10, n11, n12, n13, n14, n15⟩ := fd
      simp only [DX.val, hc, Option.some.injEq, Prod.mk.injEq] at e
      obtain ⟨h1, h2, h3, h4, h5, h6, h7, h8⟩ := e
      obtain ⟨k1, k2⟩ := Bool.and_eq_true_iff.mp c2
      simp only at h1 h2 h3 h4 h5 h6 h7 h8 k1 k2
      have k3 : n8 = .none := by
        cases n8 <;> first | rfl | cases k2
      have k4 : ∃ a, n13 = .ref a := by
        unfold PySem.W.codeIn at k1
        cases n13 <;> first | exact ⟨_, rfl⟩ | cases k1
      obtain ⟨a, rfl⟩ := k4
      have k5 : ∃ a, n7 = [(("__class__" : Str), a)] := by
        cases n7 with
        | nil => cases h7
        | cons x r =>
          cases r with
          | nil =>
            obtain ⟨x1, x2⟩ := x
            simp at h7
            subst h7
            exact ⟨x2, rfl⟩
          | cons y r => simp at h7
      obtain ⟨b, rfl⟩ := k5
      subst h1 h2 h3 h4 h5 h6 h8 k3
      exact ⟨oc, od, osl, n9, n10, n11, n12, n14, q, k1⟩
    | _ => cases c2
/-! ### the Hook -/
def obsX (t : PySem.W.Frag → Bool) (fn : List DX) (K : PySem.W.Frag) : Bool × List FX := (t K && fn.all fun d => d.ok K, fn.map fun d => fnX K (d.pos K))
def valX (fn : List DX) : Bool × List FX := (true, fn.map DX.val)
def SaysX (t : PySem.W.Frag → Bool) (fn : List DX) (K : PySem.W.Frag) : Prop := obsX t fn K = valX fn
def obsXG (n : Nat) (t : PySem.W.Frag → Bool) (fn : List DX) (g : Addr → Option Obj) : Bool × List FX := obsX t fn (He.frG g (cStatics :: He.asD g n))
def hookX (n : Nat) (t : PySem.W.Frag → Bool) (fn : List DX) : PySem.W.Hook where
  α := Bool × List FX
  obs := fun s => obsXG n t fn s.heap.get?
  val := fun _ => valX fn
  says := fun _ h => ∃ K : PySem.W.Frag, K.In h ∧ SaysX t fn K
  of := fun _ _ e => ⟨_, He.frG_in, e⟩
  keeps := fun _ _ _ ⟨K, hK, c⟩ k => ⟨K, PySem.W.Frag.In.keeps hK k, c⟩
theorem obsXG_eq {n : Nat} {t : PySem.W.Frag → Bool} {fn : List DX} {g : Addr → Option Obj} {s : Shared} (h : ∀ a, g a = s.heap.get? a) : obsXG n t fn g = (hookX n t fn).obs s := by
  have e : g = s.heap.get? := funext h
  rw [e] <;> rfl
section
variable {t : PySem.W.Frag → Bool} {fn : List DX} {K : PySem.W.Frag}
theorem SaysX.test (c : SaysX t fn K) : t K = true := (Bool.and_eq_true_iff.mp (show (t K && fn.all fun d => d.ok K) = true from congrArg (fun z : Bool × List FX => z.1) c)).1
theorem SaysX.at (c : SaysX t fn K) (i : Nat) {d : DX} (h : fn[i]? = some d) : fnX K (d.pos K) = d.val ∧ d.ok K = true := by
  have c2 := (Bool.and_eq_true_iff.mp (show (t K && fn.all fun d => d.ok K) = true from congrArg (fun z : Bool × List FX => z.1) c)).2
  have e : fn.map (fun d => fnX K (d.pos K)) = fn.map DX.val := congrArg (fun z : Bool × List FX => z.2) c
  have e2 : (fn.map fun d => fnX K (d.pos K))[i]? = (fn.map DX.val)[i]? := by rw [e]
  rw [List.getElem?_map, List.getElem?_map, h] at e2
  exact ⟨Option.some.inj e2, List.all_eq_true.mp c2 d (List.mem_of_getElem? h)⟩
end
/-- a property's getter -/
def gtr (K : PySem.W.Frag) (C : Addr) (m : Str) : Addr := match PySem.W.recIn K (He.ma K C m) "property" with
  | some (.ref g :: _) => g
  | _ => 0
def propB (K : PySem.W.Frag) (C : Addr) (m : Str) : Bool := He.eqO (PySem.W.findIn K (.ref C) m) (some (some (.ref (He.ma K C m)))) && (He.eqO (PySem.W.specialIn K (.ref (He.ma K C m)) "__get__") (some (some (.builtin "property.__get__"))) && (decide (PySem.W.takesIn K (.ref (He.ma K C m)) = some true) && (match PySem.W.recIn K (He.ma K C m) "property" with
  | some (.ref _ :: _) => true
  | _ => false)))
theorem propB_ok {S : Stat} {C : Addr} {m : Str} (h : propB S.K C m = true) (cl : L2.Cls S.K C) : PropF S C m (gtr S.K C m) := by
  obtain ⟨h1, h⟩ := Bool.and_eq_true_iff.mp h
  obtain ⟨h2, h⟩ := Bool.and_eq_true_iff.mp h
  obtain ⟨h3, h4⟩ := Bool.and_eq_true_iff.mp h
  refine ⟨cl, He.ma S.K C m, He.eqO_ok h1, He.eqO_ok h2, of_decide_eq_true h3, ?_⟩
  unfold gtr
  split at h4
  · rename_i g r q
    rw [q]
    exact ⟨r, rfl⟩
  · cases h4
/-- what isinstance needs of a class -/
def clsIB (K : PySem.W.Frag) (C : Addr) : Bool := He.eqO (PySem.W.findIn K (.ref C) "__class__") (some (some (.builtin "object.__class__"))) && (He.eqO (PySem.W.specialIn K (.builtin "object.__class__") "__get__") (some (some (.builtin "getset_descriptor.__get__"))) && (decide (PySem.W.takesIn K (.builtin "object.__class__") = some true) && decide (PySem.W.mroIn K C (.type "object") = some true)))
theorem clsIB_ok {K : PySem.W.Frag} {C : Addr} (h : clsIB K C = true) (cl : L2.Cls K C) : ClsI K C := by
  obtain ⟨h1, h⟩ := Bool.and_eq_true_iff.mp h
  obtain ⟨h2, h⟩ := Bool.and_eq_true_iff.mp h
  obtain ⟨h3, h4⟩ := Bool.and_eq_true_iff.mp h
  exact ⟨cl, He.eqO_ok h1, He.eqO_ok h2, of_decide_eq_true h3, of_decide_eq_true h4⟩
/-- isinstance, off the written part -/
def itK (K : PySem.W.Frag) (cs : List Addr) : IsT := fun t c => match t with
  | .own a => if a ∈ cs then PySem.W.kitOne K (.ref a) c.val else none
  | .ty n => PySem.W.kitOne K (.type n) c.val
theorem itK_ok {K : PySem.W.Frag} {cs : List Addr} (h : ∀ a ∈ cs, ClsI K a) : IsOk K (itK K cs) := by
  refine ⟨fun t c b e => ?_, fun t c b e a q => ?_⟩
  · unfold itK at e
    cases t with
    | ty n => exact e
    | own a =>
      simp only at e
      split at e
      · exact e
      · cases e
  · subst q
    unfold itK at e
    simp only at e
    split at e
    · rename_i m; exact h a m
    · cases e
/-- what super() needs, looked at -/
def supB (P : Program) (K : PySem.W.Frag) (f D : Addr) : Bool := (match K.lookup (cdOf K f) with
  | some ⟨_, _, .fields vs, _⟩ => (match (vs[2]? : Option Value) with
    | some (Value.str file _) => ((P.main.file : Str) == file)
    | _ => false)
  | _ => false) && ((match K.lookup (ccOf K f) with
  | some ⟨_, _, .cell (some (.ref d)), _⟩ => decide (d = D)
  | _ => false) && ((PySem.W.clsIn K D).isSome && He.eqO (PySem.W.nsIn K cStatics "thirdparty.any") (some none)))
theorem supB_ok {S : Stat} {f D : Addr} {x qual sf : Str} {st : Stmt} {ar : Arg} (h : supB S.P S.K f D = true) (F : FunS S f (ccOf S.K f) (cdOf S.K f) x qual st) (ha : ((defArgs st).posonlyargs ++ (defArgs st).args).head? = some ar) (har : ar.arg = sf) (mg : S.mg "super" = none) (top : (S.P.main.scope.names.lookup ("super" : Str)).isSome = false) : SupK S f (ccOf S.K f) (cdOf S.K f) D sf := by
  obtain ⟨h1, h⟩ := Bool.and_eq_true_iff.mp h
  obtain ⟨h2, h⟩ := Bool.and_eq_true_iff.mp h
  obtain ⟨h3, h4⟩ := Bool.and_eq_true_iff.mp h
  obtain ⟨oc, od, osl, kV, doc, pm, an, ct, lk, hcd⟩ := F
  refine ⟨⟨oc, od, _, osl, ar, lk, ha, har⟩, ?_, ?_, Option.isSome_iff_exists.mp h3, mg, top, He.eqO_ok h4⟩
  · cases q : S.K.lookup (cdOf S.K f) with
    | none => rw [q] at h1; cases h1
    | some o =>
      obtain ⟨c, d, dt, sl⟩ := o
      rw [q] at h1
      cases dt with
      | fields vs =>
        simp only at h1
        split at h1
        · rename_i file tf e
          exact ⟨c, d, vs, sl, file, tf, rfl, e, h1⟩
        · cases h1
      | _ => cases h1
  · cases q : S.K.lookup (ccOf S.K f) with
    | none => rw [q] at h2; cases h2
    | some o =>
      obtain ⟨c, d, dt, sl⟩ := o
      rw [q] at h2
      cases dt with
      | cell v =>
        cases v with
        | none => cases h2
        | some v =>
          cases v with
          | ref d' =>
            have : d' = D := of_decide_eq_true h2
            subst this
            exact ⟨c, d, sl, rfl⟩
          | _ => cases h2
      | _ => cases h2
end Qo
-- SM
set_option maxRecDepth 100000
set_option maxHeartbeats 4000000
/-! SM: a law by its def, whatever its binding. -/
namespace Qo
open PySem PySem.Spec PySem.W PySem.Calls PyProof.Rows
theorem law_loudK {S : Stat} {k : Nat} {fa a : Addr} {fn : List D → Hs → Res D} {s1 : Shared} {vs : List Value} {ns : List Int} (mod : L2.Mod S.K S.mg S.base) (eb : S.base = s1.heap) (eg : s1.gens = #[]) (ha : s1.heap.get? a = some { cls := .type "list", data := .seq vs.toArray }) (hi : IntsAre vs ns) (hl : ns.length ≤ sizeLine)
    (hr : Rm k callerA) (C : CallK S k fa fn) (hf : ∃ hs', fn [.lst (ns.map D.int)] [] = .ok (.bl true) hs') :
    codeAny (model S.P S.w) callerA (.call (.ref fa) ⟨[.ref a], []⟩) (fun r y => r = .ok (.ret (.bool true)) ∧ OldK s1.heap y.heap ∧ y.os = s1.os ∧ Soft y) s1 := by
  obtain ⟨hs', e⟩ := hf
  obtain ⟨fd, ps, F, bb⟩ := C
  have hb : BindsTo s1 fd ⟨[.ref a], []⟩ (ps.zip [.ref a]) := by
    have := bb s1 [.ref a] (mod.kin.keeps fun b o q => by rw [eb] at q; exact q) (by
      have z := F.len [.lst (ns.map D.int)] [] (by rw [e]; intro q; cases q)
      simpa using z)
    rw [List.append_nil] at this
    exact this
  have im : ∀ b o, s1.heap.get? b = some o → (gh0 (fun a => ∃ o, s1.heap.get? a = some o)).im b := fun b o q => ⟨o, q⟩
  have H : HInv S (gh0 fun a => ∃ o, s1.heap.get? a = some o) [] s1.heap := ⟨rfl, fun i j p q x => by simp [gh0] at x, fun i p f c x => by simp [gh0] at x, fun i p c x => by simp [gh0] at x, fun i p c x => by simp [gh0] at x, fun b x => x, fun b o q => by rw [eb] at q; exact ⟨q, o, q⟩⟩
  have so : Soft s1 := fun g k l c p fs q => by rw [eg] at q; simp at q
  have r : VRs S (gh0 fun a => ∃ o, s1.heap.get? a = some o) s1.heap [.lst (ns.map D.int)] [.ref a] := .cons (by
    rw [VR]
    exact ⟨a, vs.toArray, rfl, ⟨_, ha⟩, by rw [List.length_map]; exact hl, ⟨_, ha⟩, vrs_ints hi⟩) .nil
  refine codeAny_mono (F.run callerA _ [] s1 ⟨[.ref a], []⟩ [.ref a] [.lst (ns.map D.int)] (fun v y => v = .bool true ∧ OldK s1.heap y.heap ∧ y.os = s1.os ∧ Soft y) (fun _ _ => False) hr mod H so hb r ⟨fun b h e' u y G' ev rv => ?_, fun x h e' => ?_, by rw [e]; intro z; cases z⟩) fun r y q => ?_
  · rw [e] at e'
    cases e'
    have rv : VR S G' y.heap (.bl true) u := rv
    rw [VR] at rv
    refine ⟨rv, OldK.of_keep fun b o q => ev.stp.keep b o (fun z => z.elim noWr0 id) q, ev.stp.os, ev.stp.bare so⟩
  · rw [e] at e'
    cases e'
  · cases r with
    | error e => exact q.elim
    | ok fl =>
      cases fl with
      | ret v => exact ⟨by rw [q.1], q.2⟩
      | _ => exact q.elim
/-- a law's row: the head's run, then its def -/
theorem law_rowK {l : OpenLaw} {n k : Nat} {q : Program} {H : Hook} {ob : SharedT → H.α} {M : Nat} {loose : List Str} {d : DefRec} (ho : ∀ s : SharedT, ob s = H.obs s.abs)
    (e : opening l.row.prog = plainProg l.row.prog.main.scope.names) (f : ∀ s, fenceModules? l.row.prog s = some s) (run : ∀ w, HandSHeadRun.RunEq l.row q H ob M loose w)
    (ed : defOf q l.row.name = some (d, [])) (ep : l.row.prog.theDef l.row.name = some (d.params, d.body, d.scope)) (ek : kwWritten? d.params.kwonlyargs d.params.kw_defaults = some [])
    (wr : (!l.row.writes || l.row.records.isEmpty) = true) (k1 : l.row.wellSaid = true) (ok : (chainsOk q && opensWell l.row.prog && (frees l.row.toRowW && l.row.within.isEmpty)) = true) (hb : l.row.prog.bare) (hw : l.row.toRowW.promised)
    (hn : l.most = some n) (hn2 : n ≤ sizeLine) (hdf : d.params.defaults = []) (hr : Rm k callerA)
    (F : ∀ (w : World) (mg : Str → Option Value) (fa : Addr) (h : Heap), H.says w h → h.Ns mainGlobals mg → mg d.name = some (.ref fa) →
      ∃ (K : PySem.W.Frag) (fn : List D → Hs → Res D), K.In h ∧ (∀ ns : List Int, ns.length ≤ n → ∃ hs', fn [.lst (ns.map D.int)] [] = .ok (.bl true) hs') ∧
        ∀ base : Heap, L2.Mod K mg base → CallK ⟨l.prog, w, K, mg, base⟩ k fa fn) : l.row.Holds := by
  have left : LeftO l.row.prog q loose (fun s => PySem.W.xlAt q [] s && recOk l.row.toRowW.records s) H.obs H.val (M + 600) true := by
    refine HandSHeadRun.left_one (M := M) e (Nat.ble_eq_true_of_le (by omega)) f (Nat.ble_eq_true_of_le (by omega)) fun w os => ?_
    have z := run w os
    rw [show ob = fun s => H.obs s.abs from funext ho] at z
    simp only [HandSHeadRun.endQ_eq, HandSHeadRun.seenQ_eq]
    exact z
  refine holds_loud (r := l.row) (q := q) (loose := loose) (XP := PySem.W.XL q []) (YP := H.says) (d := d) (kwd := []) left H.of H.keeps (fun s z => PySem.W.xl_of s (Bool.and_eq_true_iff.mp z).1) PySem.W.XL.keeps ed ep ek (fun s z => recFacts_of (Bool.and_eq_true_iff.mp z).2) wr k1 ok hb hw (walk_loud hn hdf ?_)
  intro w s₀ s1 mg mb fa o pm cd doc a vs ns G Y _ _ _ hmg ha hi hl eg
  obtain ⟨K, fn, KX, hf, hF⟩ := F w mg fa _ Y G.T.g hmg
  have mod : L2.Mod K mg s1.heap := ⟨KX, G.T.g, ⟨mb, G.T.b, G.T.builtins⟩, G.T.nolimit⟩
  exact law_loudK (S := ⟨l.prog, w, K, mg, s1.heap⟩) mod rfl eg ha hi (Nat.le_trans hl hn2) hr (hF _ mod) (hf ns hl)
end Qo
-- T4
set_option maxRecDepth 100000
set_option maxHeartbeats 4000000
namespace Qo
open PySem PySem.Spec PyProof.Rows
abbrev top (i : Nat) : Stmt := PySem.Challenge.pw_quotaorders_k87_whole_walk_around_and_me.main.body.getD i (.Pass ⟨0, 0, 0, 0⟩)
theorem PG.r {X : Cx} {t : Expr} {g : SG} (h : PG X t g) : PGr VR X t g := ⟨fun G σ hs s d u I r => h.run G σ hs s d u I r⟩
structure Ad where
  Group : Addr
  Group___init__ : Addr
  Group_members : Addr
  Node___init__ : Addr
  Node_depth : Addr
  Node_members : Addr
  Tree : Addr
  Tree___init__ : Addr
  Tree___len__ : Addr
  Tree_around : Addr
  Tree_groups : Addr
  Tree_node_of : Addr
  Tree_root : Addr
  Tree_users : Addr
  Tree_walk : Addr
  User : Addr
  cc_Group : Addr
  cda_Group___init__ : Addr
  inside : Addr
  it : IsT
structure Facts (S : Stat) (ad : Ad) : Prop where
  isi : IsOk S.K ad.it
  c_Group : S.mg "Group" = some (.ref ad.Group)
  c_Tree : S.mg "Tree" = some (.ref ad.Tree)
  c_User : S.mg "User" = some (.ref ad.User)
  d__law_big : DefK S "_law_big" (top 39)
  d__law_cap : DefK S "_law_cap" (top 40)
  d__law_cell : DefK S "_law_cell" (top 35)
  d__law_draw : DefK S "_law_draw" (top 37)
  d__law_drawn : DefK S "_law_drawn" (top 46)
  d__law_group_right : DefK S "_law_group_right" (top 45)
  d__law_high : DefK S "_law_high" (top 41)
  d__law_pool : DefK S "_law_pool" (top 36)
  d__law_right : DefK S "_law_right" (top 47)
  d__law_scheme : DefK S "_law_scheme" (top 42)
  d__law_user_right : DefK S "_law_user_right" (top 44)
  d__law_words : DefK S "_law_words" (top 38)
  d_build : DefK S "build" (top 30)
  d_check_user : DefK S "check_user" (top 33)
  d_invalid_path : DefK S "invalid_path" (top 21)
  d_is_from : DefK S "is_from" (top 5)
  d_is_group : DefK S "is_group" (top 19)
  d_is_limit : DefK S "is_limit" (top 7)
  d_is_name : DefK S "is_name" (top 6)
  d_is_node : DefK S "is_node" (top 20)
  d_is_whole : DefK S "is_whole" (top 4)
  d_law : DefK S "law" (top 48)
  fun_Group___init__ : FunS S ad.Group___init__ ad.cc_Group ad.cda_Group___init__ "__init__" "Group.__init__" (cst (top 29) 0)
  fun_Group_members : FunK S ad.Group_members "members" "Group.members" (cst (top 29) 1)
  fun_Node___init__ : FunK S ad.Node___init__ "__init__" "Node.__init__" (cst (top 27) 0)
  fun_Node_depth : FunK S ad.Node_depth "depth" "Node.depth" (cst (top 27) 2)
  fun_Node_members : FunK S ad.Node_members "members" "Node.members" (cst (top 27) 1)
  fun_Tree___init__ : FunK S ad.Tree___init__ "__init__" "Tree.__init__" (cst (top 32) 2)
  fun_Tree___len__ : FunK S ad.Tree___len__ "__len__" "Tree.__len__" (cst (top 32) 11)
  fun_Tree_around : FunK S ad.Tree_around "around" "Tree.around" (cst (top 32) 16)
  fun_Tree_groups : FunK S ad.Tree_groups "groups" "Tree.groups" (cst (top 32) 9)
  fun_Tree_node_of : FunK S ad.Tree_node_of "node_of" "Tree.node_of" (cst (top 32) 15)
  fun_Tree_root : FunK S ad.Tree_root "root" "Tree.root" (cst (top 32) 7)
  fun_Tree_users : FunK S ad.Tree_users "users" "Tree.users" (cst (top 32) 8)
  fun_Tree_walk : FunK S ad.Tree_walk "walk" "Tree.walk" (cst (top 32) 14)
  fun_inside : FunK S ad.inside "inside" "inside" (top 31)
  g_inside : S.mg "inside" = some (.ref ad.inside)
  k_Group : L2.Cls S.K ad.Group
  k_Tree : L2.Cls S.K ad.Tree
  k_User : L2.Cls S.K ad.User
  me_Tree___len__ : L2.Meth S.K ad.Tree "__len__" ad.Tree___len__
  me_Tree_around : L2.Meth S.K ad.Tree "around" ad.Tree_around
  me_Tree_node_of : L2.Meth S.K ad.Tree "node_of" ad.Tree_node_of
  me_Tree_walk : L2.Meth S.K ad.Tree "walk" ad.Tree_walk
  mk_Group : L2.Mk S.K ad.Group ad.Group___init__
  mk_Tree : L2.Mk S.K ad.Tree ad.Tree___init__
  mk_User : L2.Mk S.K ad.User ad.Node___init__
  n_abs : S.mg "abs" = none
  n_all : S.mg "all" = none
  n_bool : S.mg "bool" = none
  n_divmod : S.mg "divmod" = none
  n_enumerate : S.mg "enumerate" = none
  n_int : S.mg "int" = none
  n_isinstance : S.mg "isinstance" = none
  n_len : S.mg "len" = none
  n_list : S.mg "list" = none
  n_max : S.mg "max" = none
  n_min : S.mg "min" = none
  n_range : S.mg "range" = none
  n_sorted : S.mg "sorted" = none
  n_str : S.mg "str" = none
  n_tuple : S.mg "tuple" = none
  na_Group_level : L2.NoAttr S.K ad.Group "level"
  na_Group_limit : L2.NoAttr S.K ad.Group "limit"
  na_Group_name : L2.NoAttr S.K ad.Group "name"
  na_Group_parts : L2.NoAttr S.K ad.Group "parts"
  na_Tree_heads : L2.NoAttr S.K ad.Tree "heads"
  na_Tree_shape : L2.NoAttr S.K ad.Tree "shape"
  na_Tree_top : L2.NoAttr S.K ad.Tree "top"
  na_User_level : L2.NoAttr S.K ad.User "level"
  na_User_limit : L2.NoAttr S.K ad.User "limit"
  na_User_name : L2.NoAttr S.K ad.User "name"
  p_Group_depth : PropF S ad.Group "depth" ad.Node_depth
  p_Group_members : PropF S ad.Group "members" ad.Group_members
  p_Tree_groups : PropF S ad.Tree "groups" ad.Tree_groups
  p_Tree_root : PropF S ad.Tree "root" ad.Tree_root
  p_Tree_users : PropF S ad.Tree "users" ad.Tree_users
  p_User_depth : PropF S ad.User "depth" ad.Node_depth
  p_User_members : PropF S ad.User "members" ad.Node_members
  q_inside : PySem.W.keepIn S.K (.ref ad.inside) = true
  sfn : PySem.W.fnIn S.K ad.Node___init__ = true
  smro : PySem.W.mroIn S.K ad.Group (.ref ad.Group) = some true
  ssup : PySem.W.ks_superIn S.K ad.Group ad.Group "__init__" = some (some (.ref ad.Node___init__))
  stf : PySem.W.typeIn S.K (.ref ad.Node___init__) = some (.type "function")
  sup_Group___init__ : SupK S ad.Group___init__ ad.cc_Group ad.cda_Group___init__ ad.Group "self"
  v_LETTERS : ∃ t, S.mg "LETTERS" = some (.str "abcdefghijklmnopqrstuvwxyz" t)
  v_MAX_DEPTH : ∃ t, S.mg "MAX_DEPTH" = some (.int 6 t)
  v_MAX_GROUPS : ∃ t, S.mg "MAX_GROUPS" = some (.int 12 t)
  v_MAX_USERS : ∃ t, S.mg "MAX_USERS" = some (.int 12 t)
noncomputable def b__law_cell (ad : Ad) : SS := (sCons (sIf (tOf (eOp (dCmp .lt) (eVar 1) (eBlt bLen (aCons (eVar 0) aNil)))) (sCons (sRet (eOp dIx (eVar 0) (eVar 1))) sNil) sNil) (sCons (sAsg (eOp dMod (eOp (dMul false) (eC (.int 50021)) (eOp (dAdd false) (eOp (dAdd false) (eOp (dMul false) (eVar 1) (eVar 1)) (eOp (dMul false) (eC (.int 7)) (eVar 1))) (eC (.int 3)))) (eC (.int 1000000007))) (gName 2)) (sCons (sFor (iSeq (eSl (dSl false) (eVar 0) oNone (oSome (eC (.int 3))))) (gName 3) (sCons (sAsg (eOp dMod (eOp (dAdd false) (eOp (dMul false) (eVar 2) (eC (.int 30011))) (eVar 3)) (eC (.int 1000000007))) (gName 2)) sNil)) (sCons (sRet (eVar 2)) sNil))))
noncomputable def f__law_cell (ad : Ad) : SF := fnS false 2 4 (b__law_cell ad)
theorem ok__law_cell {S : Stat} {ad : Ad} (H : Facts S ad) : FnK S 3 "_law_cell" (f__law_cell ad) := fnK_of (N := ["_law_script", "_law_k", "_law_state", "_law_cell_here"]) (ps := ["_law_script", "_law_k"]) (k := 2) H.d__law_cell ⟨by rfl, by rfl, by rfl, by decide +kernel, by rfl, by decide +kernel, by decide +kernel⟩ (fun _ _ _ _ _ _ us hl => match us, hl with | [_, _], _ => rfl) fun A L f cd hr => by
  have r : Rm 1 (cxFn S ["_law_script", "_law_k", "_law_state", "_law_cell_here"] "_law_cell" (L2.defScope (top 35)) L f cd A).A := hr.deeper _
  exact (pss_cons (ps_if (pt_cmp (op_cmp .lt) (pe_var (by rfl) (visOf (by rfl)) (by rfl) (by rfl)) (pe_bltB blt_len (by rfl) H.n_len (by rfl) (by decide) (pa_cons (pe_var (by rfl) (visOf (by rfl)) (by rfl) (by rfl)) pa_nil (by rfl)) (by rfl) (by rfl) (by rfl)) (by rfl)) (pss_cons (ps_ret (pe_ix (pe_var (by rfl) (visOf (by rfl)) (by rfl) (by rfl)) (pe_var (by rfl) (visOf (by rfl)) (by rfl) (by rfl)) (fun _ _ => rfl))) pss_nil) pss_nil) (pss_cons (ps_set (by rfl) (locOf (by rfl)) (pe_op op_mod (pe_op (op_mul false) pe_int (pe_op (op_add false) (pe_op (op_add false) (pe_op (op_mul false) (pe_var (by rfl) (visOf (by rfl)) (by rfl) (by rfl)) (pe_var (by rfl) (visOf (by rfl)) (by rfl) (by rfl))) (pe_op (op_mul false) pe_int (pe_var (by rfl) (visOf (by rfl)) (by rfl) (by rfl)))) pe_int)) pe_int) (by rfl)) (pss_cons (ps_for (pi_seq (pe_slice (sl_any false) (pe_var (by rfl) (visOf (by rfl)) (by rfl) (by rfl)) po_none (po_some pe_int) (fun _ _ => rfl))) (PG.r (pg_name (by rfl) (locOf (by rfl)))) (pss_cons (ps_set (by rfl) (locOf (by rfl)) (pe_op op_mod (pe_op (op_add false) (pe_op (op_mul false) (pe_var (by rfl) (visOf (by rfl)) (by rfl) (by rfl)) pe_int) (pe_var (by rfl) (visOf (by rfl)) (by rfl) (by rfl))) pe_int) (by rfl)) pss_nil) (fun _ => rfl)) (pss_cons (ps_ret (pe_var (by rfl) (visOf (by rfl)) (by rfl) (by rfl))) pss_nil))))
noncomputable def b__law_pool (ad : Ad) : SS := (sCons (sAsg (eC (.int 0)) (gName 1)) (sCons (sIf (tOr (tOf (eOp (dCmp .lt) (eVar 0) (eC (.int 0)))) (tOf (eOp (dCmp .ge) (eVar 0) (eOp dPow (eC (.int 10)) (eC (.int 18)))))) (sCons (sAsg (eBlt bAbs (aCons (eVar 0) aNil)) (gName 1)) sNil) sNil) (sCons (sRet (eLst true (aCons (eOp dMod (eVar 0) (eC (.int 1000000007))) (aCons (eVar 1) (aCons (eC (.int 0)) aNil))))) sNil)))
noncomputable def f__law_pool (ad : Ad) : SF := fnS true 1 2 (b__law_pool ad)
theorem ok__law_pool {S : Stat} {ad : Ad} (H : Facts S ad) : FnK S 3 "_law_pool" (f__law_pool ad) := fnK_of (N := ["_law_cell_here", "_law_digits"]) (ps := ["_law_cell_here"]) (k := 2) H.d__law_pool ⟨by rfl, by rfl, by rfl, by decide +kernel, by rfl, by decide +kernel, by decide +kernel⟩ (fun _ _ _ _ _ _ us hl => match us, hl with | [_], _ => rfl) fun A L f cd hr => by
  have r : Rm 1 (cxFn S ["_law_cell_here", "_law_digits"] "_law_pool" (L2.defScope (top 36)) L f cd A).A := hr.deeper _
  exact (pss_cons (ps_set (by rfl) (locOf (by rfl)) pe_int (by rfl)) (pss_cons (ps_if (PW.pt (pw_or (pt_cmp (op_cmp .lt) (pe_var (by rfl) (visOf (by rfl)) (by rfl) (by rfl)) pe_int (by rfl)) (pw_or1 (pt_cmp (op_cmp .ge) (pe_var (by rfl) (visOf (by rfl)) (by rfl) (by rfl)) (pe_op op_pow pe_int pe_int) (by rfl))))) (pss_cons (ps_set (by rfl) (locOf (by rfl)) (pe_bltB blt_abs (by rfl) H.n_abs (by rfl) (by decide) (pa_cons (pe_var (by rfl) (visOf (by rfl)) (by rfl) (by rfl)) pa_nil (by rfl)) (by rfl) (by rfl) (by rfl)) (by rfl)) pss_nil) pss_nil) (pss_cons (ps_ret (pe_lst true (pa_cons (pe_op op_mod (pe_var (by rfl) (visOf (by rfl)) (by rfl) (by rfl)) pe_int) (pa_cons (pe_var (by rfl) (visOf (by rfl)) (by rfl) (by rfl)) (pa_cons pe_int pa_nil (by rfl)) (by rfl)) (by rfl)))) pss_nil)))
noncomputable def b_Node_members (ad : Ad) : SS := (sCons (sRet (eTup (aCons (eAtt "name" (aT ad.User .fld (aT ad.Group .fld aN)) (eVar 0)) aNil))) sNil)
noncomputable def f_Node_members (ad : Ad) : SF := fnS false 1 1 (b_Node_members ad)
theorem ok_Node_members {S : Stat} {ad : Ad} (H : Facts S ad) : CallK S 3 ad.Node_members (f_Node_members ad) := callK_of (N := ["self"]) (ps := ["self"]) (k := 2) H.fun_Node_members ⟨by rfl, by rfl, by rfl, by decide +kernel, by rfl, by decide +kernel, by decide +kernel⟩ (fun _ _ _ _ _ _ us hl => match us, hl with | [_], _ => rfl) fun A L f cd hr => by
  have r : Rm 1 (cxFn S ["self"] "Node.members" (L2.defScope (cst (top 27) 1)) L f cd A).A := hr.deeper _
  exact (pss_cons (ps_ret (pe_tup (pa_cons (pe_att (k := 0) (pe_var (by rfl) (visOf (by rfl)) (by rfl) (by rfl)) (attF ⟨H.k_User, H.na_User_name⟩ (attF ⟨H.k_Group, H.na_Group_name⟩ attN)) (r.mono (by first | decide | omega)) (by rfl)) pa_nil (by rfl)))) pss_nil)
noncomputable def b_Group_members (ad : Ad) (self : SF) : SS := (sCons (sRet (eBlt bTuple (aCons (eBlt (bSorted false) (aCons (eLC false [1, 2] (iSeq (eAtt "parts" (aT ad.Group .fld aN) (eVar 0))) (lc2 (gName 1) tYes (iSeq (eAtt "members" (aT ad.User (.prop (f_Node_members ad)) (aT ad.Group (.prop self) aN)) (eVar 1))) (lc1 (gName 2) tYes (eVar 2)))) aNil)) aNil))) sNil)
noncomputable def f_Group_members (ad : Ad) : Nat → SF
  | 0 => fnBad
  | n + 1 => fnS false 1 3 (b_Group_members ad (f_Group_members ad n))
theorem ok_Group_members {S : Stat} {ad : Ad} (H : Facts S ad) : ∀ n, CallK S (3 + 3 * n) ad.Group_members (f_Group_members ad n)
  | 0 => callK_bad (ps := ["self"]) H.fun_Group_members (fun _ _ _ _ _ _ us hl => match us, hl with | [_], _ => rfl)
  | n + 1 => (callK_of (N := ["self", "part", "name"]) (ps := ["self"]) (k := 3 + 3 * n + 1 + 1) H.fun_Group_members ⟨by rfl, by rfl, by rfl, by decide +kernel, by rfl, by decide +kernel, by decide +kernel⟩ (fun _ _ _ _ _ _ us hl => match us, hl with | [_], _ => rfl) fun A L f cd hr => by
    have ih := ok_Group_members H n
    have r : Rm (3 + 3 * n + 1) (cxFn S ["self", "part", "name"] "Group.members" (L2.defScope (cst (top 29) 1)) L f cd A).A := hr.deeper _
    exact (pss_cons (ps_ret (pe_bltT blt_tuple (by rfl) H.n_tuple (by rfl) (by decide) (pa_cons (pe_bltB (blt_sorted false) (by rfl) H.n_sorted (by rfl) (by decide) (pa_cons (pe_lcG false (pi_seq (pe_att (k := 0) (pe_var (by rfl) (visOf (by rfl)) (by rfl) (by rfl)) (attF ⟨H.k_Group, H.na_Group_parts⟩ attN) (r.mono (by first | decide | omega)) (by rfl))) (Blk.of (by rfl)) (cells_fn (by rfl)) (fun cl C => run2 (PG.r (pg_name (by rfl) (locOf (by rfl)))) pts_nil (pi_seq (pe_att (k := (3 + 3 * n)) (pe_var (by rfl) (visOf (by rfl)) (by rfl) (by rfl)) (attP H.p_User_members ((ok_Node_members H).mono (by first | decide | omega)) (attP H.p_Group_members (ih.mono (by first | decide | omega)) attN)) (r.mono (by first | decide | omega)) (by rfl))) (run2in (PG.r (pg_name (by rfl) (locOf (by rfl)))) pts_nil (pe_var (by rfl) (visOf (by rfl)) (by rfl) (by rfl))) (fun _ => rfl)) (fun _ => rfl)) pa_nil (by rfl)) (by rfl) (by rfl) (by rfl)) pa_nil (by rfl)) (by rfl) (by rfl) (by rfl))) pss_nil)).mono (by omega)
noncomputable def b_Node_depth (ad : Ad) : SS := (sCons (sRet (eAtt "level" (aT ad.User .fld (aT ad.Group .fld aN)) (eVar 0))) sNil)
noncomputable def f_Node_depth (ad : Ad) : SF := fnS false 1 1 (b_Node_depth ad)
theorem ok_Node_depth {S : Stat} {ad : Ad} (H : Facts S ad) : CallK S 3 ad.Node_depth (f_Node_depth ad) := callK_of (N := ["self"]) (ps := ["self"]) (k := 2) H.fun_Node_depth ⟨by rfl, by rfl, by rfl, by decide +kernel, by rfl, by decide +kernel, by decide +kernel⟩ (fun _ _ _ _ _ _ us hl => match us, hl with | [_], _ => rfl) fun A L f cd hr => by
  have r : Rm 1 (cxFn S ["self"] "Node.depth" (L2.defScope (cst (top 27) 2)) L f cd A).A := hr.deeper _
  exact (pss_cons (ps_ret (pe_att (k := 0) (pe_var (by rfl) (visOf (by rfl)) (by rfl) (by rfl)) (attF ⟨H.k_User, H.na_User_level⟩ (attF ⟨H.k_Group, H.na_Group_level⟩ attN)) (r.mono (by first | decide | omega)) (by rfl))) pss_nil)
noncomputable def b__law_group_right (ad : Ad) : SS := (sCons (sAsg (eLst false aNil) (gName 1)) (sCons (sFor (iSeq (eAtt "parts" (aT ad.Group .fld aN) (eVar 0))) (gName 2) (sCons (sAsg (eOp (dAdd false) (eVar 1) (eBlt (bList false) (aCons (eAtt "members" (aT ad.User (.prop (f_Node_members ad)) (aT ad.Group (.prop (f_Group_members ad 10)) aN)) (eVar 2)) aNil))) (gName 1)) (sCons (sIf (tOf (eOp (dEq true) (eAtt "depth" (aT ad.User (.prop (f_Node_depth ad)) (aT ad.Group (.prop (f_Node_depth ad)) aN)) (eVar 2)) (eOp (dAdd false) (eAtt "depth" (aT ad.User (.prop (f_Node_depth ad)) (aT ad.Group (.prop (f_Node_depth ad)) aN)) (eVar 0)) (eC (.int 1))))) (sCons (sRet (eC (.bl false))) sNil) sNil) sNil))) (sCons (sRet (eAnd (eOp (dEq false) (eBlt bTuple (aCons (eBlt (bSorted false) (aCons (eVar 1) aNil)) aNil)) (eAtt "members" (aT ad.User (.prop (f_Node_members ad)) (aT ad.Group (.prop (f_Group_members ad 10)) aN)) (eVar 0))) (eOp (dEq false) (eBlt bLen (aCons (eVar 1) aNil)) (eBlt bLen (aCons (eAtt "members" (aT ad.User (.prop (f_Node_members ad)) (aT ad.Group (.prop (f_Group_members ad 10)) aN)) (eVar 0)) aNil))))) sNil)))
noncomputable def f__law_group_right (ad : Ad) : SF := fnS false 1 3 (b__law_group_right ad)
theorem ok__law_group_right {S : Stat} {ad : Ad} (H : Facts S ad) : FnK S 36 "_law_group_right" (f__law_group_right ad) := fnK_of (N := ["_law_each", "_law_words_here", "_law_part"]) (ps := ["_law_each"]) (k := 35) H.d__law_group_right ⟨by rfl, by rfl, by rfl, by decide +kernel, by rfl, by decide +kernel, by decide +kernel⟩ (fun _ _ _ _ _ _ us hl => match us, hl with | [_], _ => rfl) fun A L f cd hr => by
  have r : Rm 34 (cxFn S ["_law_each", "_law_words_here", "_law_part"] "_law_group_right" (L2.defScope (top 45)) L f cd A).A := hr.deeper _
  exact (pss_cons (ps_set (by rfl) (locOf (by rfl)) (pe_lst false pa_nil) (by rfl)) (pss_cons (ps_for (pi_seq (pe_att (k := 0) (pe_var (by rfl) (visOf (by rfl)) (by rfl) (by rfl)) (attF ⟨H.k_Group, H.na_Group_parts⟩ attN) (r.mono (by first | decide | omega)) (by rfl))) (PG.r (pg_name (by rfl) (locOf (by rfl)))) (pss_cons (ps_set (by rfl) (locOf (by rfl)) (pe_op (op_add false) (pe_var (by rfl) (visOf (by rfl)) (by rfl) (by rfl)) (pe_bltT (blt_list false) (by rfl) H.n_list (by rfl) (by decide) (pa_cons (pe_att (k := 33) (pe_var (by rfl) (visOf (by rfl)) (by rfl) (by rfl)) (attP H.p_User_members ((ok_Node_members H).mono (by first | decide | omega)) (attP H.p_Group_members ((ok_Group_members H 10).mono (by first | decide | omega)) attN)) (r.mono (by first | decide | omega)) (by rfl)) pa_nil (by rfl)) (by rfl) (by rfl) (by rfl))) (by rfl)) (pss_cons (ps_if (pt_cmp (op_ne (Roomy.of r)) (pe_att (k := 3) (pe_var (by rfl) (visOf (by rfl)) (by rfl) (by rfl)) (attP H.p_User_depth ((ok_Node_depth H).mono (by first | decide | omega)) (attP H.p_Group_depth ((ok_Node_depth H).mono (by first | decide | omega)) attN)) (r.mono (by first | decide | omega)) (by rfl)) (pe_op (op_add false) (pe_att (k := 3) (pe_var (by rfl) (visOf (by rfl)) (by rfl) (by rfl)) (attP H.p_User_depth ((ok_Node_depth H).mono (by first | decide | omega)) (attP H.p_Group_depth ((ok_Node_depth H).mono (by first | decide | omega)) attN)) (r.mono (by first | decide | omega)) (by rfl)) pe_int) (by rfl)) (pss_cons (ps_ret pe_bl) pss_nil) pss_nil) pss_nil)) (fun _ => rfl)) (pss_cons (ps_ret (pe_and (pe_cmp (op_eq (Roomy.of r)) (pe_bltT blt_tuple (by rfl) H.n_tuple (by rfl) (by decide) (pa_cons (pe_bltB (blt_sorted false) (by rfl) H.n_sorted (by rfl) (by decide) (pa_cons (pe_var (by rfl) (visOf (by rfl)) (by rfl) (by rfl)) pa_nil (by rfl)) (by rfl) (by rfl) (by rfl)) pa_nil (by rfl)) (by rfl) (by rfl) (by rfl)) (pe_att (k := 33) (pe_var (by rfl) (visOf (by rfl)) (by rfl) (by rfl)) (attP H.p_User_members ((ok_Node_members H).mono (by first | decide | omega)) (attP H.p_Group_members ((ok_Group_members H 10).mono (by first | decide | omega)) attN)) (r.mono (by first | decide | omega)) (by rfl)) (by rfl)) (pe_one (pe_cmp (op_eq (Roomy.of r)) (pe_bltB blt_len (by rfl) H.n_len (by rfl) (by decide) (pa_cons (pe_var (by rfl) (visOf (by rfl)) (by rfl) (by rfl)) pa_nil (by rfl)) (by rfl) (by rfl) (by rfl)) (pe_bltB blt_len (by rfl) H.n_len (by rfl) (by decide) (pa_cons (pe_att (k := 33) (pe_var (by rfl) (visOf (by rfl)) (by rfl) (by rfl)) (attP H.p_User_members ((ok_Node_members H).mono (by first | decide | omega)) (attP H.p_Group_members ((ok_Group_members H 10).mono (by first | decide | omega)) attN)) (r.mono (by first | decide | omega)) (by rfl)) pa_nil (by rfl)) (by rfl) (by rfl) (by rfl)) (by rfl))))) pss_nil)))
noncomputable def b_inside (ad : Ad) (self : (List D → Option (List D))) : SY := (yCons (yYield (eVar 0)) (yCons (yIf (tOf (eBlt (bIsi ad.it) (aCons (eVar 0) (aCons (eC (.fn ad.Group)) aNil)))) (yCons (yFor (iSeq (eAtt "parts" (aT ad.Group .fld aN) (eVar 0))) (gName 1) (yCons (yFrom (gCall self [] (aCons (eVar 1) aNil))) yNil)) yNil) yNil) yNil))
noncomputable def f_inside (ad : Ad) : Nat → (List D → Option (List D))
  | 0 => genBad
  | n + 1 => fnG 1 2 (b_inside ad (f_inside ad n))
theorem ok_inside {S : Stat} {ad : Ad} (H : Facts S ad) : ∀ n, GenK S (1 + 2 * n) ad.inside (f_inside ad n)
  | 0 => genK_bad (ps := ["node"]) H.fun_inside (fun _ _ _ _ _ _ us hl => match us, hl with | [_], _ => rfl)
  | n + 1 => by
    have z : GenK S (1 + 2 * n + 1 + 1) ad.inside (f_inside ad (n + 1)) := genK_of (N := ["node", "part"]) (ps := ["node"]) (k := 1 + 2 * n + 1 + 1) H.fun_inside ⟨by rfl, by rfl, by rfl, by decide +kernel, by rfl, by decide +kernel, by decide +kernel⟩ (fun _ _ _ _ _ _ us hl => match us, hl with | [_], _ => rfl) fun A L f cd hr => by
      have ih := ok_inside H n
      have r : Rm (1 + 2 * n + 1) (cxFn S ["node", "part"] "inside" (L2.defScope (top 31)) L f cd A).A := hr.deeper _
      exact (gss_cons (gs_yield (pe_var (by rfl) (visOf (by rfl)) (by rfl) (by rfl)) (by rfl) (by rfl)) (gss_cons (gs_if (pt_plain (pe_bltB (blt_isi H.isi) (by rfl) H.n_isinstance (by rfl) (by decide) (pa_cons (pe_var (by rfl) (visOf (by rfl)) (by rfl) (by rfl)) (pa_cons (pe_gfn (by rfl) H.c_Group (by rfl)) pa_nil (by rfl)) (by rfl)) (by rfl) (by rfl) (by rfl)) (fun _ => rfl)) (gss_cons (gs_for (pi_seq (pe_att (k := 0) (pe_var (by rfl) (visOf (by rfl)) (by rfl) (by rfl)) (attF ⟨H.k_Group, H.na_Group_parts⟩ attN) (r.mono (by first | decide | omega)) (by rfl))) (PG.r (pg_name (by rfl) (locOf (by rfl)))) (gss_cons (gs_yieldFrom (pgn_callF ih (r.mono (Nat.zero_le _)) (by rfl) H.g_inside H.q_inside (pa_cons (pe_var (by rfl) (visOf (by rfl)) (by rfl) (by rfl)) pa_nil (by rfl)) (by rfl) (by rfl) (by rfl)) (r.mono (by first | decide | omega)) (by rfl)) gss_nil) (fun _ => rfl)) gss_nil) gss_nil) gss_nil))
    have e : 1 + 2 * n + 1 + 1 = 1 + 2 * (n + 1) := by omega
    rw [e] at z
    exact z
noncomputable def b_Tree_walk (ad : Ad) : SY := (yCons (yFrom (gCall (f_inside ad 10) [] (aCons (eAtt "top" (aT ad.Tree .fld aN) (eVar 0)) aNil))) yNil)
noncomputable def f_Tree_walk (ad : Ad) : (List D → Option (List D)) := fnG 1 1 (b_Tree_walk ad)
theorem ok_Tree_walk {S : Stat} {ad : Ad} (H : Facts S ad) : GenK S 23 ad.Tree_walk (f_Tree_walk ad) := genK_of (N := ["self"]) (ps := ["self"]) (k := 23) H.fun_Tree_walk ⟨by rfl, by rfl, by rfl, by decide +kernel, by rfl, by decide +kernel, by decide +kernel⟩ (fun _ _ _ _ _ _ us hl => match us, hl with | [_], _ => rfl) fun A L f cd hr => by
  have r : Rm 22 (cxFn S ["self"] "Tree.walk" (L2.defScope (cst (top 32) 14)) L f cd A).A := hr.deeper _
  exact (gss_cons (gs_yieldFrom (pgn_callF (ok_inside H 10) (r.mono (Nat.zero_le _)) (by rfl) H.g_inside H.q_inside (pa_cons (pe_att (k := 0) (pe_var (by rfl) (visOf (by rfl)) (by rfl) (by rfl)) (attF ⟨H.k_Tree, H.na_Tree_top⟩ attN) (r.mono (by first | decide | omega)) (by rfl)) pa_nil (by rfl)) (by rfl) (by rfl) (by rfl)) (r.mono (by first | decide | omega)) (by rfl)) gss_nil)
noncomputable def b_Tree_node_of (ad : Ad) : SS := (sCons (sFor (iGen (gMeth "walk" (gT ad.Tree (f_Tree_walk ad)) (eVar 0) aNil)) (gName 2) (sCons (sIf (tOf (eOp (dEq false) (eAtt "name" (aT ad.User .fld (aT ad.Group .fld aN)) (eVar 2)) (eVar 1))) (sCons (sRet (eVar 2)) sNil) sNil) sNil)) (sCons (fun _ _ => .bad) sNil))
noncomputable def f_Tree_node_of (ad : Ad) : SF := fnS false 2 3 (b_Tree_node_of ad)
theorem ok_Tree_node_of {S : Stat} {ad : Ad} (H : Facts S ad) : CallK S 26 ad.Tree_node_of (f_Tree_node_of ad) := callK_of (N := ["self", "name", "node"]) (ps := ["self", "name"]) (k := 25) H.fun_Tree_node_of ⟨by rfl, by rfl, by rfl, by decide +kernel, by rfl, by decide +kernel, by decide +kernel⟩ (fun _ _ _ _ _ _ us hl => match us, hl with | [_, _], _ => rfl) fun A L f cd hr => by
  have r : Rm 24 (cxFn S ["self", "name", "node"] "Tree.node_of" (L2.defScope (cst (top 32) 15)) L f cd A).A := hr.deeper _
  exact (pss_cons (ps_for (pi_gen (pgn_meth0 (pe_var (by rfl) (visOf (by rfl)) (by rfl) (by rfl)) (gmet ⟨H.k_Tree, H.me_Tree_walk⟩ (ok_Tree_walk H)) (r.mono (Nat.zero_le _)) (by rfl) (by rfl) (by rfl)) (r.mono (by first | decide | omega))) (PG.r (pg_name (by rfl) (locOf (by rfl)))) (pss_cons (ps_if (pt_cmp (op_eq (Roomy.of r)) (pe_att (k := 0) (pe_var (by rfl) (visOf (by rfl)) (by rfl) (by rfl)) (attF ⟨H.k_User, H.na_User_name⟩ (attF ⟨H.k_Group, H.na_Group_name⟩ attN)) (r.mono (by first | decide | omega)) (by rfl)) (pe_var (by rfl) (visOf (by rfl)) (by rfl) (by rfl)) (by rfl)) (pss_cons (ps_ret (pe_var (by rfl) (visOf (by rfl)) (by rfl) (by rfl))) pss_nil) pss_nil) pss_nil) (fun _ => rfl)) (pss_cons ps_bad pss_nil))
noncomputable def b_Tree_root (ad : Ad) : SS := (sCons (sRet (eAtt "top" (aT ad.Tree .fld aN) (eVar 0))) sNil)
noncomputable def f_Tree_root (ad : Ad) : SF := fnS false 1 1 (b_Tree_root ad)
theorem ok_Tree_root {S : Stat} {ad : Ad} (H : Facts S ad) : CallK S 3 ad.Tree_root (f_Tree_root ad) := callK_of (N := ["self"]) (ps := ["self"]) (k := 2) H.fun_Tree_root ⟨by rfl, by rfl, by rfl, by decide +kernel, by rfl, by decide +kernel, by decide +kernel⟩ (fun _ _ _ _ _ _ us hl => match us, hl with | [_], _ => rfl) fun A L f cd hr => by
  have r : Rm 1 (cxFn S ["self"] "Tree.root" (L2.defScope (cst (top 32) 7)) L f cd A).A := hr.deeper _
  exact (pss_cons (ps_ret (pe_att (k := 0) (pe_var (by rfl) (visOf (by rfl)) (by rfl) (by rfl)) (attF ⟨H.k_Tree, H.na_Tree_top⟩ attN) (r.mono (by first | decide | omega)) (by rfl))) pss_nil)
noncomputable def b_Tree_users (ad : Ad) : SS := (sCons (sRet (eAtt "members" (aT ad.User (.prop (f_Node_members ad)) (aT ad.Group (.prop (f_Group_members ad 10)) aN)) (eAtt "top" (aT ad.Tree .fld aN) (eVar 0)))) sNil)
noncomputable def f_Tree_users (ad : Ad) : SF := fnS false 1 1 (b_Tree_users ad)
theorem ok_Tree_users {S : Stat} {ad : Ad} (H : Facts S ad) : CallK S 36 ad.Tree_users (f_Tree_users ad) := callK_of (N := ["self"]) (ps := ["self"]) (k := 35) H.fun_Tree_users ⟨by rfl, by rfl, by rfl, by decide +kernel, by rfl, by decide +kernel, by decide +kernel⟩ (fun _ _ _ _ _ _ us hl => match us, hl with | [_], _ => rfl) fun A L f cd hr => by
  have r : Rm 34 (cxFn S ["self"] "Tree.users" (L2.defScope (cst (top 32) 8)) L f cd A).A := hr.deeper _
  exact (pss_cons (ps_ret (pe_att (k := 33) (pe_att (k := 0) (pe_var (by rfl) (visOf (by rfl)) (by rfl) (by rfl)) (attF ⟨H.k_Tree, H.na_Tree_top⟩ attN) (r.mono (by first | decide | omega)) (by rfl)) (attP H.p_User_members ((ok_Node_members H).mono (by first | decide | omega)) (attP H.p_Group_members ((ok_Group_members H 10).mono (by first | decide | omega)) attN)) (r.mono (by first | decide | omega)) (by rfl))) pss_nil)
noncomputable def b_check_user (ad : Ad) : SS := (sCons (sIf (tOf (eOp (dIn true) (eVar 1) (eAtt "users" (aT ad.Tree (.prop (f_Tree_users ad)) aN) (eVar 0)))) (sCons (fun _ _ => .bad) sNil) sNil) sNil)
noncomputable def f_check_user (ad : Ad) : SF := fnS false 2 2 (b_check_user ad)
theorem ok_check_user {S : Stat} {ad : Ad} (H : Facts S ad) : FnK S 39 "check_user" (f_check_user ad) := fnK_of (N := ["tree", "user"]) (ps := ["tree", "user"]) (k := 38) H.d_check_user ⟨by rfl, by rfl, by rfl, by decide +kernel, by rfl, by decide +kernel, by decide +kernel⟩ (fun _ _ _ _ _ _ us hl => match us, hl with | [_, _], _ => rfl) fun A L f cd hr => by
  have r : Rm 37 (cxFn S ["tree", "user"] "check_user" (L2.defScope (top 33)) L f cd A).A := hr.deeper _
  exact (pss_cons (ps_if (pt_cmp (op_notin (Roomy.of r)) (pe_var (by rfl) (visOf (by rfl)) (by rfl) (by rfl)) (pe_att (k := 36) (pe_var (by rfl) (visOf (by rfl)) (by rfl) (by rfl)) (attP H.p_Tree_users ((ok_Tree_users H).mono (by first | decide | omega)) attN) (r.mono (by first | decide | omega)) (by rfl)) (by rfl)) (pss_cons ps_bad pss_nil) pss_nil) pss_nil)
noncomputable def b_Tree_around (ad : Ad) : SS := (sCons (sExpr (eCall (f_check_user ad) [] (aCons (eVar 0) (aCons (eVar 1) aNil)))) (sCons (sAsg (eRev false (eListG false (gMeth "walk" (gT ad.Tree (f_Tree_walk ad)) (eVar 0) aNil))) (gName 2)) (sCons (sRet (eBlt bTuple (aCons (eLC false [3] (iSeq (eVar 2)) (lc1 (gName 3) (tAnd (tOf (eBlt (bIsi ad.it) (aCons (eVar 3) (aCons (eC (.fn ad.Group)) aNil)))) (tOf (eOp (dIn false) (eVar 1) (eAtt "members" (aT ad.User (.prop (f_Node_members ad)) (aT ad.Group (.prop (f_Group_members ad 10)) aN)) (eVar 3))))) (eAtt "name" (aT ad.User .fld (aT ad.Group .fld aN)) (eVar 3)))) aNil))) sNil)))
noncomputable def f_Tree_around (ad : Ad) : SF := fnS false 2 4 (b_Tree_around ad)
theorem ok_Tree_around {S : Stat} {ad : Ad} (H : Facts S ad) : CallK S 41 ad.Tree_around (f_Tree_around ad) := callK_of (N := ["self", "user", "nodes", "node"]) (ps := ["self", "user"]) (k := 40) H.fun_Tree_around ⟨by rfl, by rfl, by rfl, by decide +kernel, by rfl, by decide +kernel, by decide +kernel⟩ (fun _ _ _ _ _ _ us hl => match us, hl with | [_, _], _ => rfl) fun A L f cd hr => by
  have r : Rm 39 (cxFn S ["self", "user", "nodes", "node"] "Tree.around" (L2.defScope (cst (top 32) 16)) L f cd A).A := hr.deeper _
  exact (pss_cons (ps_expr (pe_callF (ok_check_user H) (r.mono (by first | decide | omega)) (by rfl) (pa_cons (pe_var (by rfl) (visOf (by rfl)) (by rfl) (by rfl)) (pa_cons (pe_var (by rfl) (visOf (by rfl)) (by rfl) (by rfl)) pa_nil (by rfl)) (by rfl)) (by rfl) (by rfl) (by rfl)) (by rfl)) (pss_cons (ps_set (by rfl) (locOf (by rfl)) (pe_rev2 false (pe_listg false (pgn_meth0 (pe_var (by rfl) (visOf (by rfl)) (by rfl) (by rfl)) (gmet ⟨H.k_Tree, H.me_Tree_walk⟩ (ok_Tree_walk H)) (r.mono (Nat.zero_le _)) (by rfl) (by rfl) (by rfl)) (r.mono (by first | decide | omega)) (by rfl) H.n_list (by rfl)) pe_neg (fun _ _ => rfl)) (by rfl)) (pss_cons (ps_ret (pe_bltT blt_tuple (by rfl) H.n_tuple (by rfl) (by decide) (pa_cons (pe_lcG false (pi_seq (pe_var (by rfl) (visOf (by rfl)) (by rfl) (by rfl))) (Blk.of (by rfl)) (cells_fn (by rfl)) (fun cl C => run1 (PG.r (pg_name (by rfl) (locOf (by rfl)))) (pts_one (PW.pt (pw_and (pt_plain (pe_bltB (blt_isi H.isi) (by rfl) H.n_isinstance (by rfl) (by decide) (pa_cons (pe_var (by rfl) (visOf (by rfl)) (by rfl) (by rfl)) (pa_cons (pe_gfn (by rfl) H.c_Group (by rfl)) pa_nil (by rfl)) (by rfl)) (by rfl) (by rfl) (by rfl)) (fun _ => rfl)) (pw_and1 (pt_cmp (op_in (Roomy.of r)) (pe_var (by rfl) (visOf (by rfl)) (by rfl) (by rfl)) (pe_att (k := 33) (pe_var (by rfl) (visOf (by rfl)) (by rfl) (by rfl)) (attP H.p_User_members ((ok_Node_members H).mono (by first | decide | omega)) (attP H.p_Group_members ((ok_Group_members H 10).mono (by first | decide | omega)) attN)) (r.mono (by first | decide | omega)) (by rfl)) (by rfl)))))) (pe_att (k := 0) (pe_var (by rfl) (visOf (by rfl)) (by rfl) (by rfl)) (attF ⟨H.k_User, H.na_User_name⟩ (attF ⟨H.k_Group, H.na_Group_name⟩ attN)) (r.mono (by first | decide | omega)) (by rfl))) (fun _ => rfl)) pa_nil (by rfl)) (by rfl) (by rfl) (by rfl))) pss_nil)))
noncomputable def b__law_user_right (ad : Ad) : SS := (sCons (sAsg (eMeth "around" (mT ad.Tree (f_Tree_around ad) mN) (eVar 0) (aCons (eVar 1) aNil)) (gName 3)) (sCons (sIf (tOr (tOf (eOp (dEq true) (eAtt "members" (aT ad.User (.prop (f_Node_members ad)) (aT ad.Group (.prop (f_Group_members ad 10)) aN)) (eMeth "node_of" (mT ad.Tree (f_Tree_node_of ad) mN) (eVar 0) (aCons (eVar 1) aNil))) (eTup (aCons (eVar 1) aNil)))) (tOf (eOp (dEq true) (eAtt "depth" (aT ad.User (.prop (f_Node_depth ad)) (aT ad.Group (.prop (f_Node_depth ad)) aN)) (eMeth "node_of" (mT ad.Tree (f_Tree_node_of ad) mN) (eVar 0) (aCons (eVar 1) aNil))) (eOp (dAdd false) (eBlt bLen (aCons (eVar 3) aNil)) (eC (.int 1)))))) (sCons (sRet (eC (.bl false))) sNil) sNil) (sCons (sIf (tOf (eOp (dEq true) (eOp dIx (eVar 3) (eC (.int (-1)))) (eAtt "name" (aT ad.User .fld (aT ad.Group .fld aN)) (eAtt "root" (aT ad.Tree (.prop (f_Tree_root ad)) aN) (eVar 0))))) (sCons (sRet (eC (.bl false))) sNil) sNil) (sCons (sFor (iSeq (eVar 2)) (gName 4) (sCons (sIf (tAnd (tOf (eBlt (bIsi ad.it) (aCons (eVar 4) (aCons (eC (.fn ad.Group)) aNil)))) (tOf (eOp (dEq true) (eOp (dIn false) (eVar 1) (eAtt "members" (aT ad.User (.prop (f_Node_members ad)) (aT ad.Group (.prop (f_Group_members ad 10)) aN)) (eVar 4))) (eOp (dIn false) (eAtt "name" (aT ad.User .fld (aT ad.Group .fld aN)) (eVar 4)) (eVar 3))))) (sCons (sRet (eC (.bl false))) sNil) sNil) sNil)) (sCons (sFor (iRng1 (aCons (eBlt bLen (aCons (eVar 3) aNil)) aNil)) (gName 5) (sCons (sIf (tOf (eOp (dEq true) (eAtt "depth" (aT ad.User (.prop (f_Node_depth ad)) (aT ad.Group (.prop (f_Node_depth ad)) aN)) (eMeth "node_of" (mT ad.Tree (f_Tree_node_of ad) mN) (eVar 0) (aCons (eOp dIx (eVar 3) (eVar 5)) aNil))) (eOp dSub (eBlt bLen (aCons (eVar 3) aNil)) (eVar 5)))) (sCons (sRet (eC (.bl false))) sNil) sNil) (sCons (sAsg (eMeth "node_of" (mT ad.Tree (f_Tree_node_of ad) mN) (eVar 0) (aCons (eOp dIx (eVar 3) (eVar 5)) aNil)) (gName 6)) (sCons (sAsg (eMeth "node_of" (mT ad.Tree (f_Tree_node_of ad) mN) (eVar 0) (aCons (eOp dIx (eVar 3) (eBlt bMax (aCons (eC (.int 0)) (aCons (eOp dSub (eVar 5) (eC (.int 1))) aNil)))) aNil)) (gName 7)) (sCons (sIf (tNot (tOf (eBlt bAll (aCons (eLC false [8] (iSeq (eAtt "members" (aT ad.User (.prop (f_Node_members ad)) (aT ad.Group (.prop (f_Group_members ad 10)) aN)) (eVar 7))) (lc1 (gName 8) tYes (eOp (dIn false) (eVar 8) (eAtt "members" (aT ad.User (.prop (f_Node_members ad)) (aT ad.Group (.prop (f_Group_members ad 10)) aN)) (eVar 6))))) aNil)))) (sCons (sRet (eC (.bl false))) sNil) sNil) sNil))))) (sCons (sRet (eC (.bl true))) sNil))))))
noncomputable def f__law_user_right (ad : Ad) : SF := fnS false 3 9 (b__law_user_right ad)
theorem ok__law_user_right {S : Stat} {ad : Ad} (H : Facts S ad) : FnK S 43 "_law_user_right" (f__law_user_right ad) := fnK_of (N := ["_law_made", "_law_word", "_law_nodes", "_law_around_here", "_law_each", "_law_k", "_law_outer", "_law_inner", "_law_one_user"]) (ps := ["_law_made", "_law_word", "_law_nodes"]) (k := 42) H.d__law_user_right ⟨by rfl, by rfl, by rfl, by decide +kernel, by rfl, by decide +kernel, by decide +kernel⟩ (fun _ _ _ _ _ _ us hl => match us, hl with | [_, _, _], _ => rfl) fun A L f cd hr => by
  have r : Rm 41 (cxFn S ["_law_made", "_law_word", "_law_nodes", "_law_around_here", "_law_each", "_law_k", "_law_outer", "_law_inner", "_law_one_user"] "_law_user_right" (L2.defScope (top 44)) L f cd A).A := hr.deeper _
  exact (pss_cons (ps_set (by rfl) (locOf (by rfl)) (pe_meth (pe_var (by rfl) (visOf (by rfl)) (by rfl) (by rfl)) (metC ⟨H.k_Tree, H.me_Tree_around⟩ (ok_Tree_around H) metN) (r.mono (by first | decide | omega)) (pa_cons (pe_var (by rfl) (visOf (by rfl)) (by rfl) (by rfl)) pa_nil (by rfl)) (by rfl) (by rfl) (by rfl) (by rfl) (by rfl)) (by rfl)) (pss_cons (ps_if (PW.pt (pw_or (pt_cmp (op_ne (Roomy.of r)) (pe_att (k := 33) (pe_meth (pe_var (by rfl) (visOf (by rfl)) (by rfl) (by rfl)) (metC ⟨H.k_Tree, H.me_Tree_node_of⟩ (ok_Tree_node_of H) metN) (r.mono (by first | decide | omega)) (pa_cons (pe_var (by rfl) (visOf (by rfl)) (by rfl) (by rfl)) pa_nil (by rfl)) (by rfl) (by rfl) (by rfl) (by rfl) (by rfl)) (attP H.p_User_members ((ok_Node_members H).mono (by first | decide | omega)) (attP H.p_Group_members ((ok_Group_members H 10).mono (by first | decide | omega)) attN)) (r.mono (by first | decide | omega)) (by rfl)) (pe_tup (pa_cons (pe_var (by rfl) (visOf (by rfl)) (by rfl) (by rfl)) pa_nil (by rfl))) (by rfl)) (pw_or1 (pt_cmp (op_ne (Roomy.of r)) (pe_att (k := 3) (pe_meth (pe_var (by rfl) (visOf (by rfl)) (by rfl) (by rfl)) (metC ⟨H.k_Tree, H.me_Tree_node_of⟩ (ok_Tree_node_of H) metN) (r.mono (by first | decide | omega)) (pa_cons (pe_var (by rfl) (visOf (by rfl)) (by rfl) (by rfl)) pa_nil (by rfl)) (by rfl) (by rfl) (by rfl) (by rfl) (by rfl)) (attP H.p_User_depth ((ok_Node_depth H).mono (by first | decide | omega)) (attP H.p_Group_depth ((ok_Node_depth H).mono (by first | decide | omega)) attN)) (r.mono (by first | decide | omega)) (by rfl)) (pe_op (op_add false) (pe_bltB blt_len (by rfl) H.n_len (by rfl) (by decide) (pa_cons (pe_var (by rfl) (visOf (by rfl)) (by rfl) (by rfl)) pa_nil (by rfl)) (by rfl) (by rfl) (by rfl)) pe_int) (by rfl))))) (pss_cons (ps_ret pe_bl) pss_nil) pss_nil) (pss_cons (ps_if (pt_cmp (op_ne (Roomy.of r)) (pe_ix (pe_var (by rfl) (visOf (by rfl)) (by rfl) (by rfl)) pe_neg (fun _ _ => rfl)) (pe_att (k := 0) (pe_att (k := 3) (pe_var (by rfl) (visOf (by rfl)) (by rfl) (by rfl)) (attP H.p_Tree_root ((ok_Tree_root H).mono (by first | decide | omega)) attN) (r.mono (by first | decide | omega)) (by rfl)) (attF ⟨H.k_User, H.na_User_name⟩ (attF ⟨H.k_Group, H.na_Group_name⟩ attN)) (r.mono (by first | decide | omega)) (by rfl)) (by rfl)) (pss_cons (ps_ret pe_bl) pss_nil) pss_nil) (pss_cons (ps_for (pi_seq (pe_var (by rfl) (visOf (by rfl)) (by rfl) (by rfl))) (PG.r (pg_name (by rfl) (locOf (by rfl)))) (pss_cons (ps_if (PW.pt (pw_and (pt_plain (pe_bltB (blt_isi H.isi) (by rfl) H.n_isinstance (by rfl) (by decide) (pa_cons (pe_var (by rfl) (visOf (by rfl)) (by rfl) (by rfl)) (pa_cons (pe_gfn (by rfl) H.c_Group (by rfl)) pa_nil (by rfl)) (by rfl)) (by rfl) (by rfl) (by rfl)) (fun _ => rfl)) (pw_and1 (pt_cmp (op_ne (Roomy.of r)) (pe_cmp (op_in (Roomy.of r)) (pe_var (by rfl) (visOf (by rfl)) (by rfl) (by rfl)) (pe_att (k := 33) (pe_var (by rfl) (visOf (by rfl)) (by rfl) (by rfl)) (attP H.p_User_members ((ok_Node_members H).mono (by first | decide | omega)) (attP H.p_Group_members ((ok_Group_members H 10).mono (by first | decide | omega)) attN)) (r.mono (by first | decide | omega)) (by rfl)) (by rfl)) (pe_cmp (op_in (Roomy.of r)) (pe_att (k := 0) (pe_var (by rfl) (visOf (by rfl)) (by rfl) (by rfl)) (attF ⟨H.k_User, H.na_User_name⟩ (attF ⟨H.k_Group, H.na_Group_name⟩ attN)) (r.mono (by first | decide | omega)) (by rfl)) (pe_var (by rfl) (visOf (by rfl)) (by rfl) (by rfl)) (by rfl)) (by rfl))))) (pss_cons (ps_ret pe_bl) pss_nil) pss_nil) pss_nil) (fun _ => rfl)) (pss_cons (ps_for (pi_range1 (by rfl) H.n_range (pa_cons (pe_bltB blt_len (by rfl) H.n_len (by rfl) (by decide) (pa_cons (pe_var (by rfl) (visOf (by rfl)) (by rfl) (by rfl)) pa_nil (by rfl)) (by rfl) (by rfl) (by rfl)) pa_nil (by rfl)) (by rfl)) (PG.r (pg_name (by rfl) (locOf (by rfl)))) (pss_cons (ps_if (pt_cmp (op_ne (Roomy.of r)) (pe_att (k := 3) (pe_meth (pe_var (by rfl) (visOf (by rfl)) (by rfl) (by rfl)) (metC ⟨H.k_Tree, H.me_Tree_node_of⟩ (ok_Tree_node_of H) metN) (r.mono (by first | decide | omega)) (pa_cons (pe_ix (pe_var (by rfl) (visOf (by rfl)) (by rfl) (by rfl)) (pe_var (by rfl) (visOf (by rfl)) (by rfl) (by rfl)) (fun _ _ => rfl)) pa_nil (by rfl)) (by rfl) (by rfl) (by rfl) (by rfl) (by rfl)) (attP H.p_User_depth ((ok_Node_depth H).mono (by first | decide | omega)) (attP H.p_Group_depth ((ok_Node_depth H).mono (by first | decide | omega)) attN)) (r.mono (by first | decide | omega)) (by rfl)) (pe_op op_sub (pe_bltB blt_len (by rfl) H.n_len (by rfl) (by decide) (pa_cons (pe_var (by rfl) (visOf (by rfl)) (by rfl) (by rfl)) pa_nil (by rfl)) (by rfl) (by rfl) (by rfl)) (pe_var (by rfl) (visOf (by rfl)) (by rfl) (by rfl))) (by rfl)) (pss_cons (ps_ret pe_bl) pss_nil) pss_nil) (pss_cons (ps_set (by rfl) (locOf (by rfl)) (pe_meth (pe_var (by rfl) (visOf (by rfl)) (by rfl) (by rfl)) (metC ⟨H.k_Tree, H.me_Tree_node_of⟩ (ok_Tree_node_of H) metN) (r.mono (by first | decide | omega)) (pa_cons (pe_ix (pe_var (by rfl) (visOf (by rfl)) (by rfl) (by rfl)) (pe_var (by rfl) (visOf (by rfl)) (by rfl) (by rfl)) (fun _ _ => rfl)) pa_nil (by rfl)) (by rfl) (by rfl) (by rfl) (by rfl) (by rfl)) (by rfl)) (pss_cons (ps_set (by rfl) (locOf (by rfl)) (pe_meth (pe_var (by rfl) (visOf (by rfl)) (by rfl) (by rfl)) (metC ⟨H.k_Tree, H.me_Tree_node_of⟩ (ok_Tree_node_of H) metN) (r.mono (by first | decide | omega)) (pa_cons (pe_ix (pe_var (by rfl) (visOf (by rfl)) (by rfl) (by rfl)) (pe_bltB blt_max (by rfl) H.n_max (by rfl) (by decide) (pa_cons pe_int (pa_cons (pe_op op_sub (pe_var (by rfl) (visOf (by rfl)) (by rfl) (by rfl)) pe_int) pa_nil (by rfl)) (by rfl)) (by rfl) (by rfl) (by rfl)) (fun _ _ => rfl)) pa_nil (by rfl)) (by rfl) (by rfl) (by rfl) (by rfl) (by rfl)) (by rfl)) (pss_cons (ps_if (pt_not (pt_plain (pe_bltB blt_all (by rfl) H.n_all (by rfl) (by decide) (pa_cons (pe_lcG false (pi_seq (pe_att (k := 33) (pe_var (by rfl) (visOf (by rfl)) (by rfl) (by rfl)) (attP H.p_User_members ((ok_Node_members H).mono (by first | decide | omega)) (attP H.p_Group_members ((ok_Group_members H 10).mono (by first | decide | omega)) attN)) (r.mono (by first | decide | omega)) (by rfl))) (Blk.of (by rfl)) (cells_fn (by rfl)) (fun cl C => run1 (PG.r (pg_name (by rfl) (locOf (by rfl)))) pts_nil (pe_cmp (op_in (Roomy.of r)) (pe_var (by rfl) (visOf (by rfl)) (by rfl) (by rfl)) (pe_att (k := 33) (pe_var (by rfl) (visOf (by rfl)) (by rfl) (by rfl)) (attP H.p_User_members ((ok_Node_members H).mono (by first | decide | omega)) (attP H.p_Group_members ((ok_Group_members H 10).mono (by first | decide | omega)) attN)) (r.mono (by first | decide | omega)) (by rfl)) (by rfl))) (fun _ => rfl)) pa_nil (by rfl)) (by rfl) (by rfl) (by rfl)) (fun _ => rfl))) (pss_cons (ps_ret pe_bl) pss_nil) pss_nil) pss_nil)))) (fun _ => rfl)) (pss_cons (ps_ret pe_bl) pss_nil))))))
noncomputable def b_Tree_groups (ad : Ad) : SS := (sCons (sRet (eAtt "heads" (aT ad.Tree .fld aN) (eVar 0))) sNil)
noncomputable def f_Tree_groups (ad : Ad) : SF := fnS false 1 1 (b_Tree_groups ad)
theorem ok_Tree_groups {S : Stat} {ad : Ad} (H : Facts S ad) : CallK S 3 ad.Tree_groups (f_Tree_groups ad) := callK_of (N := ["self"]) (ps := ["self"]) (k := 2) H.fun_Tree_groups ⟨by rfl, by rfl, by rfl, by decide +kernel, by rfl, by decide +kernel, by decide +kernel⟩ (fun _ _ _ _ _ _ us hl => match us, hl with | [_], _ => rfl) fun A L f cd hr => by
  have r : Rm 1 (cxFn S ["self"] "Tree.groups" (L2.defScope (cst (top 32) 9)) L f cd A).A := hr.deeper _
  exact (pss_cons (ps_ret (pe_att (k := 0) (pe_var (by rfl) (visOf (by rfl)) (by rfl) (by rfl)) (attF ⟨H.k_Tree, H.na_Tree_heads⟩ attN) (r.mono (by first | decide | omega)) (by rfl))) pss_nil)
noncomputable def b_Tree___len__ (ad : Ad) : SS := (sCons (sRet (eBlt bLen (aCons (eAtt "users" (aT ad.Tree (.prop (f_Tree_users ad)) aN) (eVar 0)) aNil))) sNil)
noncomputable def f_Tree___len__ (ad : Ad) : SF := fnS false 1 1 (b_Tree___len__ ad)
theorem ok_Tree___len__ {S : Stat} {ad : Ad} (H : Facts S ad) : CallK S 39 ad.Tree___len__ (f_Tree___len__ ad) := callK_of (N := ["self"]) (ps := ["self"]) (k := 38) H.fun_Tree___len__ ⟨by rfl, by rfl, by rfl, by decide +kernel, by rfl, by decide +kernel, by decide +kernel⟩ (fun _ _ _ _ _ _ us hl => match us, hl with | [_], _ => rfl) fun A L f cd hr => by
  have r : Rm 37 (cxFn S ["self"] "Tree.__len__" (L2.defScope (cst (top 32) 11)) L f cd A).A := hr.deeper _
  exact (pss_cons (ps_ret (pe_bltB blt_len (by rfl) H.n_len (by rfl) (by decide) (pa_cons (pe_att (k := 36) (pe_var (by rfl) (visOf (by rfl)) (by rfl) (by rfl)) (attP H.p_Tree_users ((ok_Tree_users H).mono (by first | decide | omega)) attN) (r.mono (by first | decide | omega)) (by rfl)) pa_nil (by rfl)) (by rfl) (by rfl) (by rfl))) pss_nil)
noncomputable def b_Node___init__ (ad : Ad) : SS := (sCons (sFld (okC ad.User (okC ad.Group okN)) "name" (eVar 0) (eVar 1)) (sCons (sFld (okC ad.User (okC ad.Group okN)) "limit" (eVar 0) (eVar 2)) (sCons (sFld (okC ad.User (okC ad.Group okN)) "level" (eVar 0) (eVar 3)) sNil)))
noncomputable def f_Node___init__ (ad : Ad) : SF := fnS false 4 4 (b_Node___init__ ad)
theorem ok_Node___init__ {S : Stat} {ad : Ad} (H : Facts S ad) : CallK S 3 ad.Node___init__ (f_Node___init__ ad) := callK_of (N := ["self", "name", "limit", "level"]) (ps := ["self", "name", "limit", "level"]) (k := 2) H.fun_Node___init__ ⟨by rfl, by rfl, by rfl, by decide +kernel, by rfl, by decide +kernel, by decide +kernel⟩ (fun _ _ _ _ _ _ us hl => match us, hl with | [_, _, _, _], _ => rfl) fun A L f cd hr => by
  have r : Rm 1 (cxFn S ["self", "name", "limit", "level"] "Node.__init__" (L2.defScope (cst (top 27) 0)) L f cd A).A := hr.deeper _
  exact (pss_cons (ps_fld (setC1 ⟨H.k_User, H.na_User_name⟩ (setC1 ⟨H.k_Group, H.na_Group_name⟩ setN)) (pe_var (by rfl) (visOf (by rfl)) (by rfl) (by rfl)) (pe_var (by rfl) (visOf (by rfl)) (by rfl) (by rfl)) (by rfl)) (pss_cons (ps_fld (setC1 ⟨H.k_User, H.na_User_limit⟩ (setC1 ⟨H.k_Group, H.na_Group_limit⟩ setN)) (pe_var (by rfl) (visOf (by rfl)) (by rfl) (by rfl)) (pe_var (by rfl) (visOf (by rfl)) (by rfl) (by rfl)) (by rfl)) (pss_cons (ps_fld (setC1 ⟨H.k_User, H.na_User_level⟩ (setC1 ⟨H.k_Group, H.na_Group_level⟩ setN)) (pe_var (by rfl) (visOf (by rfl)) (by rfl) (by rfl)) (pe_var (by rfl) (visOf (by rfl)) (by rfl) (by rfl)) (by rfl)) pss_nil)))
noncomputable def b_is_group (ad : Ad) : SS := (sCons (sRet (eOp (dEq false) (eBlt bLen (aCons (eVar 0) aNil)) (eC (.int 3)))) sNil)
noncomputable def f_is_group (ad : Ad) : SF := fnS false 1 1 (b_is_group ad)
theorem ok_is_group {S : Stat} {ad : Ad} (H : Facts S ad) : FnK S 3 "is_group" (f_is_group ad) := fnK_of (N := ["shape"]) (ps := ["shape"]) (k := 2) H.d_is_group ⟨by rfl, by rfl, by rfl, by decide +kernel, by rfl, by decide +kernel, by decide +kernel⟩ (fun _ _ _ _ _ _ us hl => match us, hl with | [_], _ => rfl) fun A L f cd hr => by
  have r : Rm 1 (cxFn S ["shape"] "is_group" (L2.defScope (top 19)) L f cd A).A := hr.deeper _
  exact (pss_cons (ps_ret (pe_cmp (op_eq (Roomy.of r)) (pe_bltB blt_len (by rfl) H.n_len (by rfl) (by decide) (pa_cons (pe_var (by rfl) (visOf (by rfl)) (by rfl) (by rfl)) pa_nil (by rfl)) (by rfl) (by rfl) (by rfl)) pe_int (by rfl))) pss_nil)
noncomputable def b_Group___init__ (ad : Ad) : SS := (sCons (sExpr (eSup 0 (sT ad.Group (f_Node___init__ ad)) (aCons (eVar 1) (aCons (eVar 2) (aCons (eVar 3) aNil))))) (sCons (sFld (okC ad.Group okN) "parts" (eVar 0) (eVar 4)) sNil))
noncomputable def f_Group___init__ (ad : Ad) : SF := fnSup false 5 5 (b_Group___init__ ad)
theorem ok_Group___init__ {S : Stat} {ad : Ad} (H : Facts S ad) : CallK S 5 ad.Group___init__ (f_Group___init__ ad) := callS_of (N := ["self", "name", "limit", "level", "parts"]) (ps := ["self", "name", "limit", "level", "parts"]) (k := 4) H.fun_Group___init__ H.sup_Group___init__ ⟨by rfl, by rfl, by rfl, by decide +kernel, by rfl, by decide +kernel, by decide +kernel⟩ (fun _ _ _ _ _ us hl => match us, hl with | [_, _, _, _, _], _ => rfl) fun A L hr => by
  have r : Rm 3 (cxSup S ["self", "name", "limit", "level", "parts"] "Group.__init__" (L2.defScope (cst (top 29) 0)) L ad.Group___init__ (.ref ad.cda_Group___init__) ad.cc_Group A).A := hr.deeper _
  exact (pssa_cons (psa_expr (pea_sup (k := 3) H.sup_Group___init__ (supT1 H.k_Group H.smro H.ssup H.stf H.sfn ((ok_Node___init__ H).mono (by first | decide | omega))) (r.mono (by first | decide | omega)) (by rfl) (by rfl) (by rfl) (by rfl) (by rfl) (by rfl) (by rfl) (by rfl) (pa_cons (pe_var (by rfl) (visOf (by rfl)) (by rfl) (by rfl)) (pa_cons (pe_var (by rfl) (visOf (by rfl)) (by rfl) (by rfl)) (pa_cons (pe_var (by rfl) (visOf (by rfl)) (by rfl) (by rfl)) pa_nil (by rfl)) (by rfl)) (by rfl)) (by rfl) (by rfl) (by rfl) (by rfl)) (by rfl)) (pssa_of (pss_cons (ps_fld (setC1 ⟨H.k_Group, H.na_Group_parts⟩ setN) (pe_var (by rfl) (visOf (by rfl)) (by rfl) (by rfl)) (pe_var (by rfl) (visOf (by rfl)) (by rfl) (by rfl)) (by rfl)) pss_nil)))
noncomputable def b_build (ad : Ad) (self : SF) : SS := (sCons (sIf (tOf (eCall (f_is_group ad) [] (aCons (eVar 0) aNil))) (sCons (sRet (eMake true ad.Group (f_Group___init__ ad) [] (aCons (eOp dIx (eVar 0) (eC (.int 0))) (aCons (eOp dIx (eVar 0) (eC (.int 1))) (aCons (eVar 1) (aCons (eBlt bTuple (aCons (eLC false [2] (iSeq (eOp dIx (eVar 0) (eC (.int 2)))) (lc1 (gName 2) tYes (eCall self [] (aCons (eVar 2) (aCons (eOp (dAdd false) (eVar 1) (eC (.int 1))) aNil))))) aNil)) aNil)))))) sNil) sNil) (sCons (sRet (eMake true ad.User (f_Node___init__ ad) [] (aCons (eOp dIx (eVar 0) (eC (.int 0))) (aCons (eOp dIx (eVar 0) (eC (.int 1))) (aCons (eVar 1) aNil))))) sNil))
noncomputable def f_build (ad : Ad) : Nat → SF
  | 0 => fnBad
  | n + 1 => fnS false 2 3 (b_build ad (f_build ad n))
theorem ok_build {S : Stat} {ad : Ad} (H : Facts S ad) : ∀ n, FnK S (6 + 2 * n) "build" (f_build ad n)
  | 0 => fnK_bad (ps := ["shape", "level"]) H.d_build (fun _ _ _ _ _ _ us hl => match us, hl with | [_, _], _ => rfl)
  | n + 1 => (fnK_of (N := ["shape", "level", "part"]) (ps := ["shape", "level"]) (k := 6 + 2 * n + 1) H.d_build ⟨by rfl, by rfl, by rfl, by decide +kernel, by rfl, by decide +kernel, by decide +kernel⟩ (fun _ _ _ _ _ _ us hl => match us, hl with | [_, _], _ => rfl) fun A L f cd hr => by
    have ih := ok_build H n
    have r : Rm (6 + 2 * n) (cxFn S ["shape", "level", "part"] "build" (L2.defScope (top 30)) L f cd A).A := hr.deeper _
    exact (pss_cons (ps_if (pt_plain (pe_callF (ok_is_group H) (r.mono (by first | decide | omega)) (by rfl) (pa_cons (pe_var (by rfl) (visOf (by rfl)) (by rfl) (by rfl)) pa_nil (by rfl)) (by rfl) (by rfl) (by rfl)) (fun _ => rfl)) (pss_cons (ps_ret (pe_makeF (fz := true) ⟨ad.Group___init__, H.mk_Group, (ok_Group___init__ H)⟩ (r.mono (by first | decide | omega)) (by rfl) H.c_Group (pa_cons (pe_ix (pe_var (by rfl) (visOf (by rfl)) (by rfl) (by rfl)) pe_int (fun _ _ => rfl)) (pa_cons (pe_ix (pe_var (by rfl) (visOf (by rfl)) (by rfl) (by rfl)) pe_int (fun _ _ => rfl)) (pa_cons (pe_var (by rfl) (visOf (by rfl)) (by rfl) (by rfl)) (pa_cons (pe_bltT blt_tuple (by rfl) H.n_tuple (by rfl) (by decide) (pa_cons (pe_lcG false (pi_seq (pe_ix (pe_var (by rfl) (visOf (by rfl)) (by rfl) (by rfl)) pe_int (fun _ _ => rfl))) (Blk.of (by rfl)) (cells_fn (by rfl)) (fun cl C => run1 (PG.r (pg_name (by rfl) (locOf (by rfl)))) pts_nil (pe_callF ih (r.mono (by first | decide | omega)) (by rfl) (pa_cons (pe_var (by rfl) (visOf (by rfl)) (by rfl) (by rfl)) (pa_cons (pe_op (op_add false) (pe_var (by rfl) (visOf (by rfl)) (by rfl) (by rfl)) pe_int) pa_nil (by rfl)) (by rfl)) (by rfl) (by rfl) (by rfl))) (fun _ => rfl)) pa_nil (by rfl)) (by rfl) (by rfl) (by rfl)) pa_nil (by rfl)) (by rfl)) (by rfl)) (by rfl)) (by rfl) (by rfl) (by rfl))) pss_nil) pss_nil) (pss_cons (ps_ret (pe_makeF (fz := true) ⟨ad.Node___init__, H.mk_User, (ok_Node___init__ H)⟩ (r.mono (by first | decide | omega)) (by rfl) H.c_User (pa_cons (pe_ix (pe_var (by rfl) (visOf (by rfl)) (by rfl) (by rfl)) pe_int (fun _ _ => rfl)) (pa_cons (pe_ix (pe_var (by rfl) (visOf (by rfl)) (by rfl) (by rfl)) pe_int (fun _ _ => rfl)) (pa_cons (pe_var (by rfl) (visOf (by rfl)) (by rfl) (by rfl)) pa_nil (by rfl)) (by rfl)) (by rfl)) (by rfl) (by rfl) (by rfl))) pss_nil))).mono (by omega)
noncomputable def b_is_name (ad : Ad) : SS := (sCons (sRet (eAnd (eBlt (bIsi ad.it) (aCons (eVar 0) (aCons (eC (.ty "str")) aNil))) (eAnd (eChain (dCmp .lt) (dCmp .lt) (eC (.int 0)) (eBlt bLen (aCons (eVar 0) aNil)) (eC (.int 9))) (eBlt bAll (aCons (eLC false [1] (iSeq (eVar 0)) (lc1 (gName 1) tYes (eOp (dIn false) (eVar 1) (eC (.str "abcdefghijklmnopqrstuvwxyz"))))) aNil))))) sNil)
noncomputable def f_is_name (ad : Ad) : SF := fnS false 1 2 (b_is_name ad)
theorem ok_is_name {S : Stat} {ad : Ad} (H : Facts S ad) : FnK S 3 "is_name" (f_is_name ad) := fnK_of (N := ["thing", "letter"]) (ps := ["thing"]) (k := 2) H.d_is_name ⟨by rfl, by rfl, by rfl, by decide +kernel, by rfl, by decide +kernel, by decide +kernel⟩ (fun _ _ _ _ _ _ us hl => match us, hl with | [_], _ => rfl) fun A L f cd hr => by
  have r : Rm 1 (cxFn S ["thing", "letter"] "is_name" (L2.defScope (top 6)) L f cd A).A := hr.deeper _
  exact (pss_cons (ps_ret (pe_and (pe_bltB (blt_isi H.isi) (by rfl) H.n_isinstance (by rfl) (by decide) (pa_cons (pe_var (by rfl) (visOf (by rfl)) (by rfl) (by rfl)) (pa_cons (pe_gty (by rfl) H.n_str (by rfl) (by decide) (by rfl)) pa_nil (by rfl)) (by rfl)) (by rfl) (by rfl) (by rfl)) (pe_and (pe_chain (op_cmp .lt) (op_cmp .lt) pe_int (pe_bltB blt_len (by rfl) H.n_len (by rfl) (by decide) (pa_cons (pe_var (by rfl) (visOf (by rfl)) (by rfl) (by rfl)) pa_nil (by rfl)) (by rfl) (by rfl) (by rfl)) pe_int (by rfl)) (pe_one (pe_bltB blt_all (by rfl) H.n_all (by rfl) (by decide) (pa_cons (pe_lcG false (pi_seq (pe_var (by rfl) (visOf (by rfl)) (by rfl) (by rfl))) (Blk.of (by rfl)) (cells_fn (by rfl)) (fun cl C => run1 (PG.r (pg_name (by rfl) (locOf (by rfl)))) pts_nil (pe_cmp (op_in (Roomy.of r)) (pe_var (by rfl) (visOf (by rfl)) (by rfl) (by rfl)) (pe_gstr (by rfl) H.v_LETTERS (by rfl)) (by rfl))) (fun _ => rfl)) pa_nil (by rfl)) (by rfl) (by rfl) (by rfl)))))) pss_nil)
noncomputable def b_is_whole (ad : Ad) : SS := (sCons (sRet (eAnd (eBlt (bIsi ad.it) (aCons (eVar 0) (aCons (eC (.ty "int")) aNil))) (eNot (eBlt (bIsi ad.it) (aCons (eVar 0) (aCons (eC (.ty "bool")) aNil)))))) sNil)
noncomputable def f_is_whole (ad : Ad) : SF := fnS false 1 1 (b_is_whole ad)
theorem ok_is_whole {S : Stat} {ad : Ad} (H : Facts S ad) : FnK S 3 "is_whole" (f_is_whole ad) := fnK_of (N := ["thing"]) (ps := ["thing"]) (k := 2) H.d_is_whole ⟨by rfl, by rfl, by rfl, by decide +kernel, by rfl, by decide +kernel, by decide +kernel⟩ (fun _ _ _ _ _ _ us hl => match us, hl with | [_], _ => rfl) fun A L f cd hr => by
  have r : Rm 1 (cxFn S ["thing"] "is_whole" (L2.defScope (top 4)) L f cd A).A := hr.deeper _
  exact (pss_cons (ps_ret (pe_and (pe_bltB (blt_isi H.isi) (by rfl) H.n_isinstance (by rfl) (by decide) (pa_cons (pe_var (by rfl) (visOf (by rfl)) (by rfl) (by rfl)) (pa_cons (pe_gty (by rfl) H.n_int (by rfl) (by decide) (by rfl)) pa_nil (by rfl)) (by rfl)) (by rfl) (by rfl) (by rfl)) (pe_one (pe_not (pe_bltB (blt_isi H.isi) (by rfl) H.n_isinstance (by rfl) (by decide) (pa_cons (pe_var (by rfl) (visOf (by rfl)) (by rfl) (by rfl)) (pa_cons (pe_gty (by rfl) H.n_bool (by rfl) (by decide) (by rfl)) pa_nil (by rfl)) (by rfl)) (by rfl) (by rfl) (by rfl)))))) pss_nil)
noncomputable def b_is_from (ad : Ad) : SS := (sCons (sRet (eAnd (eCall (f_is_whole ad) [] (aCons (eVar 0) aNil)) (eOp (dCmp .ge) (eVar 0) (eVar 1)))) sNil)
noncomputable def f_is_from (ad : Ad) : SF := fnS false 2 2 (b_is_from ad)
theorem ok_is_from {S : Stat} {ad : Ad} (H : Facts S ad) : FnK S 5 "is_from" (f_is_from ad) := fnK_of (N := ["thing", "least"]) (ps := ["thing", "least"]) (k := 4) H.d_is_from ⟨by rfl, by rfl, by rfl, by decide +kernel, by rfl, by decide +kernel, by decide +kernel⟩ (fun _ _ _ _ _ _ us hl => match us, hl with | [_, _], _ => rfl) fun A L f cd hr => by
  have r : Rm 3 (cxFn S ["thing", "least"] "is_from" (L2.defScope (top 5)) L f cd A).A := hr.deeper _
  exact (pss_cons (ps_ret (pe_and (pe_callF (ok_is_whole H) (r.mono (by first | decide | omega)) (by rfl) (pa_cons (pe_var (by rfl) (visOf (by rfl)) (by rfl) (by rfl)) pa_nil (by rfl)) (by rfl) (by rfl) (by rfl)) (pe_one (pe_cmp (op_cmp .ge) (pe_var (by rfl) (visOf (by rfl)) (by rfl) (by rfl)) (pe_var (by rfl) (visOf (by rfl)) (by rfl) (by rfl)) (by rfl))))) pss_nil)
noncomputable def b_is_limit (ad : Ad) : SS := (sCons (sRet (eOr (eOp (dIs false) (eVar 0) (eC .non)) (eCall (f_is_from ad) [] (aCons (eVar 0) (aCons (eC (.int 0)) aNil))))) sNil)
noncomputable def f_is_limit (ad : Ad) : SF := fnS false 1 1 (b_is_limit ad)
theorem ok_is_limit {S : Stat} {ad : Ad} (H : Facts S ad) : FnK S 7 "is_limit" (f_is_limit ad) := fnK_of (N := ["thing"]) (ps := ["thing"]) (k := 6) H.d_is_limit ⟨by rfl, by rfl, by rfl, by decide +kernel, by rfl, by decide +kernel, by decide +kernel⟩ (fun _ _ _ _ _ _ us hl => match us, hl with | [_], _ => rfl) fun A L f cd hr => by
  have r : Rm 5 (cxFn S ["thing"] "is_limit" (L2.defScope (top 7)) L f cd A).A := hr.deeper _
  exact (pss_cons (ps_ret (pe_or (pe_cmp op_is (pe_var (by rfl) (visOf (by rfl)) (by rfl) (by rfl)) pe_non (by rfl)) (pe_one (pe_callF (ok_is_from H) (r.mono (by first | decide | omega)) (by rfl) (pa_cons (pe_var (by rfl) (visOf (by rfl)) (by rfl) (by rfl)) (pa_cons pe_int pa_nil (by rfl)) (by rfl)) (by rfl) (by rfl) (by rfl))))) pss_nil)
noncomputable def b_is_node (ad : Ad) : SS := (sCons (sIf (tOr (tNot (tOf (eBlt (bIsi ad.it) (aCons (eVar 0) (aCons (eC (.ty "tuple")) aNil))))) (tOr (tNot (tOf (eChain (dCmp .lt) (dCmp .lt) (eC (.int 1)) (eBlt bLen (aCons (eVar 0) aNil)) (eC (.int 4))))) (tOr (tNot (tOf (eCall (f_is_name ad) [] (aCons (eOp dIx (eVar 0) (eC (.int 0))) aNil)))) (tNot (tOf (eCall (f_is_limit ad) [] (aCons (eOp dIx (eVar 0) (eC (.int 1))) aNil))))))) (sCons (sRet (eC (.bl false))) sNil) sNil) (sCons (sRet (eOr (eOp (dEq false) (eBlt bLen (aCons (eVar 0) aNil)) (eC (.int 2))) (eAnd (eBlt (bIsi ad.it) (aCons (eOp dIx (eVar 0) (eC (.int 2))) (aCons (eC (.ty "tuple")) aNil))) (eOp (dCmp .gt) (eBlt bLen (aCons (eOp dIx (eVar 0) (eC (.int 2))) aNil)) (eC (.int 0)))))) sNil))
noncomputable def f_is_node (ad : Ad) : SF := fnS false 1 1 (b_is_node ad)
theorem ok_is_node {S : Stat} {ad : Ad} (H : Facts S ad) : FnK S 9 "is_node" (f_is_node ad) := fnK_of (N := ["thing"]) (ps := ["thing"]) (k := 8) H.d_is_node ⟨by rfl, by rfl, by rfl, by decide +kernel, by rfl, by decide +kernel, by decide +kernel⟩ (fun _ _ _ _ _ _ us hl => match us, hl with | [_], _ => rfl) fun A L f cd hr => by
  have r : Rm 7 (cxFn S ["thing"] "is_node" (L2.defScope (top 20)) L f cd A).A := hr.deeper _
  exact (pss_cons (ps_if (PW.pt (pw_or (pt_not (pt_plain (pe_bltB (blt_isi H.isi) (by rfl) H.n_isinstance (by rfl) (by decide) (pa_cons (pe_var (by rfl) (visOf (by rfl)) (by rfl) (by rfl)) (pa_cons (pe_gty (by rfl) H.n_tuple (by rfl) (by decide) (by rfl)) pa_nil (by rfl)) (by rfl)) (by rfl) (by rfl) (by rfl)) (fun _ => rfl))) (pw_or (pt_not (pt_chain (op_cmp .lt) (op_cmp .lt) pe_int (pe_bltB blt_len (by rfl) H.n_len (by rfl) (by decide) (pa_cons (pe_var (by rfl) (visOf (by rfl)) (by rfl) (by rfl)) pa_nil (by rfl)) (by rfl) (by rfl) (by rfl)) pe_int (by rfl))) (pw_or (pt_not (pt_plain (pe_callF (ok_is_name H) (r.mono (by first | decide | omega)) (by rfl) (pa_cons (pe_ix (pe_var (by rfl) (visOf (by rfl)) (by rfl) (by rfl)) pe_int (fun _ _ => rfl)) pa_nil (by rfl)) (by rfl) (by rfl) (by rfl)) (fun _ => rfl))) (pw_or1 (pt_not (pt_plain (pe_callF (ok_is_limit H) (r.mono (by first | decide | omega)) (by rfl) (pa_cons (pe_ix (pe_var (by rfl) (visOf (by rfl)) (by rfl) (by rfl)) pe_int (fun _ _ => rfl)) pa_nil (by rfl)) (by rfl) (by rfl) (by rfl)) (fun _ => rfl)))))))) (pss_cons (ps_ret pe_bl) pss_nil) pss_nil) (pss_cons (ps_ret (pe_or (pe_cmp (op_eq (Roomy.of r)) (pe_bltB blt_len (by rfl) H.n_len (by rfl) (by decide) (pa_cons (pe_var (by rfl) (visOf (by rfl)) (by rfl) (by rfl)) pa_nil (by rfl)) (by rfl) (by rfl) (by rfl)) pe_int (by rfl)) (pe_one (pe_and (pe_bltB (blt_isi H.isi) (by rfl) H.n_isinstance (by rfl) (by decide) (pa_cons (pe_ix (pe_var (by rfl) (visOf (by rfl)) (by rfl) (by rfl)) pe_int (fun _ _ => rfl)) (pa_cons (pe_gty (by rfl) H.n_tuple (by rfl) (by decide) (by rfl)) pa_nil (by rfl)) (by rfl)) (by rfl) (by rfl) (by rfl)) (pe_one (pe_cmp (op_cmp .gt) (pe_bltB blt_len (by rfl) H.n_len (by rfl) (by decide) (pa_cons (pe_ix (pe_var (by rfl) (visOf (by rfl)) (by rfl) (by rfl)) pe_int (fun _ _ => rfl)) pa_nil (by rfl)) (by rfl) (by rfl) (by rfl)) pe_int (by rfl))))))) pss_nil))
noncomputable def b_invalid_path (ad : Ad) : SS := (sCons (sAsg (eTup (aCons (eLst true (aCons (eTup (aCons (eTup aNil) (aCons (eVar 0) (aCons (eC (.int 1)) aNil)))) aNil)) (aCons (eLst true aNil) (aCons (eC (.int 0)) (aCons (eC (.int 0)) aNil))))) (gTup 4 (gCons (gName 1) (gCons (gName 2) (gCons (gName 3) (gCons (gName 4) gNil)))))) (sCons (sWhile (tOf (eVar 1)) (sCons (sAsg (eLm0 mPop (eVar 1)) (gTup 3 (gCons (gName 5) (gCons (gName 6) (gCons (gName 7) gNil))))) (sCons (sIf (tOr (tNot (tOf (eCall (f_is_node ad) [] (aCons (eVar 6) aNil)))) (tOr (tAnd (tOf (eOp (dEq false) (eVar 5) (eTup aNil))) (tNot (tOf (eCall (f_is_group ad) [] (aCons (eVar 6) aNil))))) (tOf (eOp (dIn false) (eOp dIx (eVar 6) (eC (.int 0))) (eVar 2))))) (sCons (sRet (eVar 5)) sNil) sNil) (sCons (sExpr (eLm1 mAppend (eVar 2) (eOp dIx (eVar 6) (eC (.int 0))))) (sCons (sIf (tOf (eCall (f_is_group ad) [] (aCons (eVar 6) aNil))) (sCons (sAug 4 (eC (.int 1)) dIAdd) (sCons (sSetLC false [9, 10] (iEnum (aCons (eOp dIx (eVar 6) (eC (.int 2))) aNil)) (lc1 (gTup 2 (gCons (gName 9) (gCons (gName 10) gNil))) tYes (eTup (aCons (eTup (aStar (eVar 5) (aCons (eVar 9) aNil))) (aCons (eVar 10) (aCons (eOp (dAdd false) (eVar 7) (eC (.int 1))) aNil))))) 8) (sCons (sExpr (eLm1 mExtend (eVar 1) (eRev false (eVar 8)))) sNil))) (sCons (sAug 3 (eC (.int 1)) dIAdd) sNil)) (sCons (sIf (tOr (tOf (eOp (dCmp .gt) (eVar 3) (eC (.int 12)))) (tOr (tOf (eOp (dCmp .gt) (eVar 4) (eC (.int 12)))) (tAnd (tOf (eCall (f_is_group ad) [] (aCons (eVar 6) aNil))) (tOf (eOp (dCmp .gt) (eVar 7) (eC (.int 6))))))) (sCons (sRet (eVar 5)) sNil) sNil) sNil)))))) (sCons (sRet (eC .non)) sNil)))
noncomputable def f_invalid_path (ad : Ad) : SF := fnS false 1 11 (b_invalid_path ad)
theorem ok_invalid_path {S : Stat} {ad : Ad} (H : Facts S ad) : FnK S 11 "invalid_path" (f_invalid_path ad) := fnK_of (N := ["shape", "waiting", "names", "users", "groups", "path", "node", "depth", "inner", "index", "part"]) (ps := ["shape"]) (k := 10) H.d_invalid_path ⟨by rfl, by rfl, by rfl, by decide +kernel, by rfl, by decide +kernel, by decide +kernel⟩ (fun _ _ _ _ _ _ us hl => match us, hl with | [_], _ => rfl) fun A L f cd hr => by
  have r : Rm 9 (cxFn S ["shape", "waiting", "names", "users", "groups", "path", "node", "depth", "inner", "index", "part"] "invalid_path" (L2.defScope (top 21)) L f cd A).A := hr.deeper _
  exact (pss_cons (ps_asg (pe_tup (pa_cons (pe_lst true (pa_cons (pe_tup (pa_cons (pe_tup pa_nil) (pa_cons (pe_var (by rfl) (visOf (by rfl)) (by rfl) (by rfl)) (pa_cons pe_int pa_nil (by rfl)) (by rfl)) (by rfl))) pa_nil (by rfl))) (pa_cons (pe_lst true pa_nil) (pa_cons pe_int (pa_cons pe_int pa_nil (by rfl)) (by rfl)) (by rfl)) (by rfl))) (pg_tup (pgs_cons (pg_name (by rfl) (locOf (by rfl))) (pgs_cons (pg_name (by rfl) (locOf (by rfl))) (pgs_cons (pg_name (by rfl) (locOf (by rfl))) (pgs_cons (pg_name (by rfl) (locOf (by rfl))) pgs_nil (by rfl)) (by rfl)) (by rfl)) (by rfl)) (by rfl) (by rfl)) (by rfl) (by rfl) (by rfl)) (pss_cons (ps_while (pt_plain (pe_var (by rfl) (visOf (by rfl)) (by rfl) (by rfl)) (fun _ => rfl)) (pss_cons (ps_asg (pe_lm0 F.slot_list_pop (by rfl) mt_pop (pe_var (by rfl) (visOf (by rfl)) (by rfl) (by rfl)) (by rfl) (by rfl)) (pg_tup (pgs_cons (pg_name (by rfl) (locOf (by rfl))) (pgs_cons (pg_name (by rfl) (locOf (by rfl))) (pgs_cons (pg_name (by rfl) (locOf (by rfl))) pgs_nil (by rfl)) (by rfl)) (by rfl)) (by rfl) (by rfl)) (by rfl) (by rfl) (by rfl)) (pss_cons (ps_if (PW.pt (pw_or (pt_not (pt_plain (pe_callF (ok_is_node H) (r.mono (by first | decide | omega)) (by rfl) (pa_cons (pe_var (by rfl) (visOf (by rfl)) (by rfl) (by rfl)) pa_nil (by rfl)) (by rfl) (by rfl) (by rfl)) (fun _ => rfl))) (pw_or (PW.pt (pw_and (pt_cmp (op_eq (Roomy.of r)) (pe_var (by rfl) (visOf (by rfl)) (by rfl) (by rfl)) (pe_tup pa_nil) (by rfl)) (pw_and1 (pt_not (pt_plain (pe_callF (ok_is_group H) (r.mono (by first | decide | omega)) (by rfl) (pa_cons (pe_var (by rfl) (visOf (by rfl)) (by rfl) (by rfl)) pa_nil (by rfl)) (by rfl) (by rfl) (by rfl)) (fun _ => rfl)))))) (pw_or1 (pt_cmp (op_in (Roomy.of r)) (pe_ix (pe_var (by rfl) (visOf (by rfl)) (by rfl) (by rfl)) pe_int (fun _ _ => rfl)) (pe_var (by rfl) (visOf (by rfl)) (by rfl) (by rfl)) (by rfl)))))) (pss_cons (ps_ret (pe_var (by rfl) (visOf (by rfl)) (by rfl) (by rfl))) pss_nil) pss_nil) (pss_cons (ps_expr (pe_lm1 F.slot_list_append (by rfl) mt_append (pe_var (by rfl) (visOf (by rfl)) (by rfl) (by rfl)) (pe_ix (pe_var (by rfl) (visOf (by rfl)) (by rfl) (by rfl)) pe_int (fun _ _ => rfl)) (by rfl) (by rfl) (by rfl)) (by rfl)) (pss_cons (ps_if (pt_plain (pe_callF (ok_is_group H) (r.mono (by first | decide | omega)) (by rfl) (pa_cons (pe_var (by rfl) (visOf (by rfl)) (by rfl) (by rfl)) pa_nil (by rfl)) (by rfl) (by rfl) (by rfl)) (fun _ => rfl)) (pss_cons (ps_aug (by rfl) (locOf (by rfl)) pe_int ip_add) (pss_cons (ps_setLC false (by rfl) (by rfl) (by rfl) (pi_enum (by rfl) H.n_enumerate (pa_cons (pe_ix (pe_var (by rfl) (visOf (by rfl)) (by rfl) (by rfl)) pe_int (fun _ _ => rfl)) pa_nil (by rfl)) (by rfl)) (Blk.of (by rfl)) (cells_fn (by rfl)) (fun cl C => run1 (PG.r (pg_tup (pgs_cons (pg_name (by rfl) (locOf (by rfl))) (pgs_cons (pg_name (by rfl) (locOf (by rfl))) pgs_nil (by rfl)) (by rfl)) (by rfl) (by rfl))) pts_nil (pe_tup (pa_cons (pe_tup (pa_star (pe_var (by rfl) (visOf (by rfl)) (by rfl) (by rfl)) (pa_cons (pe_var (by rfl) (visOf (by rfl)) (by rfl) (by rfl)) pa_nil (by rfl)) (by rfl))) (pa_cons (pe_var (by rfl) (visOf (by rfl)) (by rfl) (by rfl)) (pa_cons (pe_op (op_add false) (pe_var (by rfl) (visOf (by rfl)) (by rfl) (by rfl)) pe_int) pa_nil (by rfl)) (by rfl)) (by rfl)))) (fun _ => rfl)) (pss_cons (ps_expr (pe_lm1 F.slot_list_extend (by rfl) mt_extend (pe_var (by rfl) (visOf (by rfl)) (by rfl) (by rfl)) (pe_rev2 false (pe_var (by rfl) (visOf (by rfl)) (by rfl) (by rfl)) pe_neg (fun _ _ => rfl)) (by rfl) (by rfl) (by rfl)) (by rfl)) pss_nil))) (pss_cons (ps_aug (by rfl) (locOf (by rfl)) pe_int ip_add) pss_nil)) (pss_cons (ps_if (PW.pt (pw_or (pt_cmp (op_cmp .gt) (pe_var (by rfl) (visOf (by rfl)) (by rfl) (by rfl)) (pe_gint (by rfl) H.v_MAX_USERS (by rfl)) (by rfl)) (pw_or (pt_cmp (op_cmp .gt) (pe_var (by rfl) (visOf (by rfl)) (by rfl) (by rfl)) (pe_gint (by rfl) H.v_MAX_GROUPS (by rfl)) (by rfl)) (pw_or1 (PW.pt (pw_and (pt_plain (pe_callF (ok_is_group H) (r.mono (by first | decide | omega)) (by rfl) (pa_cons (pe_var (by rfl) (visOf (by rfl)) (by rfl) (by rfl)) pa_nil (by rfl)) (by rfl) (by rfl) (by rfl)) (fun _ => rfl)) (pw_and1 (pt_cmp (op_cmp .gt) (pe_var (by rfl) (visOf (by rfl)) (by rfl) (by rfl)) (pe_gint (by rfl) H.v_MAX_DEPTH (by rfl)) (by rfl))))))))) (pss_cons (ps_ret (pe_var (by rfl) (visOf (by rfl)) (by rfl) (by rfl))) pss_nil) pss_nil) pss_nil)))))) (pss_cons (ps_ret pe_non) pss_nil)))
noncomputable def b_Tree___init__ (ad : Ad) : SS := (sCons (sAsg (eCall (f_invalid_path ad) [] (aCons (eVar 1) aNil)) (gName 2)) (sCons (sIf (tOf (eOp (dIs true) (eVar 2) (eC .non))) (sCons (fun _ _ => .bad) sNil) sNil) (sCons (sFld (okC ad.Tree okN) "shape" (eVar 0) (eVar 1)) (sCons (sFld (okC ad.Tree okN) "top" (eVar 0) (eCall (f_build ad 10) [] (aCons (eVar 1) (aCons (eC (.int 1)) aNil)))) (sCons (sFld (okC ad.Tree okN) "heads" (eVar 0) (eBlt bTuple (aCons (eBlt (bSorted false) (aCons (eLC false [3] (iGen (gCall (f_inside ad 10) [] (aCons (eAtt "top" (aT ad.Tree .fld aN) (eVar 0)) aNil))) (lc1 (gName 3) (tOf (eBlt (bIsi ad.it) (aCons (eVar 3) (aCons (eC (.fn ad.Group)) aNil)))) (eAtt "name" (aT ad.User .fld (aT ad.Group .fld aN)) (eVar 3)))) aNil)) aNil))) sNil)))))
noncomputable def f_Tree___init__ (ad : Ad) : SF := fnS false 2 4 (b_Tree___init__ ad)
theorem ok_Tree___init__ {S : Stat} {ad : Ad} (H : Facts S ad) : CallK S 28 ad.Tree___init__ (f_Tree___init__ ad) := callK_of (N := ["self", "node", "path", "each"]) (ps := ["self", "node"]) (k := 27) H.fun_Tree___init__ ⟨by rfl, by rfl, by rfl, by decide +kernel, by rfl, by decide +kernel, by decide +kernel⟩ (fun _ _ _ _ _ _ us hl => match us, hl with | [_, _], _ => rfl) fun A L f cd hr => by
  have r : Rm 26 (cxFn S ["self", "node", "path", "each"] "Tree.__init__" (L2.defScope (cst (top 32) 2)) L f cd A).A := hr.deeper _
  exact (pss_cons (ps_set (by rfl) (locOf (by rfl)) (pe_callF (ok_invalid_path H) (r.mono (by first | decide | omega)) (by rfl) (pa_cons (pe_var (by rfl) (visOf (by rfl)) (by rfl) (by rfl)) pa_nil (by rfl)) (by rfl) (by rfl) (by rfl)) (by rfl)) (pss_cons (ps_if (pt_cmp op_isnot (pe_var (by rfl) (visOf (by rfl)) (by rfl) (by rfl)) pe_non (by rfl)) (pss_cons ps_bad pss_nil) pss_nil) (pss_cons (ps_fld (setC1 ⟨H.k_Tree, H.na_Tree_shape⟩ setN) (pe_var (by rfl) (visOf (by rfl)) (by rfl) (by rfl)) (pe_var (by rfl) (visOf (by rfl)) (by rfl) (by rfl)) (by rfl)) (pss_cons (ps_fld (setC1 ⟨H.k_Tree, H.na_Tree_top⟩ setN) (pe_var (by rfl) (visOf (by rfl)) (by rfl) (by rfl)) (pe_callF (ok_build H 10) (r.mono (by first | decide | omega)) (by rfl) (pa_cons (pe_var (by rfl) (visOf (by rfl)) (by rfl) (by rfl)) (pa_cons pe_int pa_nil (by rfl)) (by rfl)) (by rfl) (by rfl) (by rfl)) (by rfl)) (pss_cons (ps_fld (setC1 ⟨H.k_Tree, H.na_Tree_heads⟩ setN) (pe_var (by rfl) (visOf (by rfl)) (by rfl) (by rfl)) (pe_bltT blt_tuple (by rfl) H.n_tuple (by rfl) (by decide) (pa_cons (pe_bltB (blt_sorted false) (by rfl) H.n_sorted (by rfl) (by decide) (pa_cons (pe_lcG false (pi_gen (pgn_callF (ok_inside H 10) (r.mono (Nat.zero_le _)) (by rfl) H.g_inside H.q_inside (pa_cons (pe_att (k := 0) (pe_var (by rfl) (visOf (by rfl)) (by rfl) (by rfl)) (attF ⟨H.k_Tree, H.na_Tree_top⟩ attN) (r.mono (by first | decide | omega)) (by rfl)) pa_nil (by rfl)) (by rfl) (by rfl) (by rfl)) (r.mono (by first | decide | omega))) (Blk.of (by rfl)) (cells_fn (by rfl)) (fun cl C => run1 (PG.r (pg_name (by rfl) (locOf (by rfl)))) (pts_one (pt_plain (pe_bltB (blt_isi H.isi) (by rfl) H.n_isinstance (by rfl) (by decide) (pa_cons (pe_var (by rfl) (visOf (by rfl)) (by rfl) (by rfl)) (pa_cons (pe_gfn (by rfl) H.c_Group (by rfl)) pa_nil (by rfl)) (by rfl)) (by rfl) (by rfl) (by rfl)) (fun _ => rfl))) (pe_att (k := 0) (pe_var (by rfl) (visOf (by rfl)) (by rfl) (by rfl)) (attF ⟨H.k_User, H.na_User_name⟩ (attF ⟨H.k_Group, H.na_Group_name⟩ attN)) (r.mono (by first | decide | omega)) (by rfl))) (fun _ => rfl)) pa_nil (by rfl)) (by rfl) (by rfl) (by rfl)) pa_nil (by rfl)) (by rfl) (by rfl) (by rfl)) (by rfl)) pss_nil)))))
noncomputable def b__law_draw (ad : Ad) : SS := (sCons (sAsg (eOp (dAdd false) (eOp dIx (eVar 0) (eC (.int 2))) (eC (.int 1))) (gSub (eVar 0) (eC (.int 2)))) (sCons (sAsg (eOp dIx (eVar 0) (eC (.int 0))) (gName 2)) (sCons (sAsg (eOp dMod (eOp (dAdd false) (eOp (dAdd false) (eOp (dMul false) (eVar 2) (eOp (dAdd false) (eOp dMod (eVar 2) (eC (.int 46007))) (eC (.int 20011)))) (eOp (dMul false) (eC (.int 60013)) (eOp dIx (eVar 0) (eC (.int 2))))) (eC (.int 5))) (eC (.int 1000000007))) (gSub (eVar 0) (eC (.int 0)))) (sCons (sIf (tOf (eOp (dCmp .gt) (eOp dIx (eVar 0) (eC (.int 1))) (eC (.int 0)))) (sCons (sAsg (eBlt bDivmod (aCons (eOp dIx (eVar 0) (eC (.int 1))) (aCons (eVar 1) aNil))) (gTup 2 (gCons (gSub (eVar 0) (eC (.int 1))) (gCons (gName 3) gNil)))) (sCons (sRet (eVar 3)) sNil)) sNil) (sCons (sRet (eOp dMod (eOp dFdiv (eOp dIx (eVar 0) (eC (.int 0))) (eC (.int 32))) (eVar 1))) sNil)))))
noncomputable def f__law_draw (ad : Ad) : SF := fnS false 2 4 (b__law_draw ad)
theorem ok__law_draw {S : Stat} {ad : Ad} (H : Facts S ad) : FnK S 3 "_law_draw" (f__law_draw ad) := fnK_of (N := ["_law_pool_here", "_law_many", "_law_state", "_law_digit"]) (ps := ["_law_pool_here", "_law_many"]) (k := 2) H.d__law_draw ⟨by rfl, by rfl, by rfl, by decide +kernel, by rfl, by decide +kernel, by decide +kernel⟩ (fun _ _ _ _ _ _ us hl => match us, hl with | [_, _], _ => rfl) fun A L f cd hr => by
  have r : Rm 1 (cxFn S ["_law_pool_here", "_law_many", "_law_state", "_law_digit"] "_law_draw" (L2.defScope (top 37)) L f cd A).A := hr.deeper _
  exact (pss_cons (ps_asg (pe_op (op_add false) (pe_ix (pe_var (by rfl) (visOf (by rfl)) (by rfl) (by rfl)) pe_int (fun _ _ => rfl)) pe_int) (pg_sub (pe_var (by rfl) (visOf (by rfl)) (by rfl) (by rfl)) pe_int (fun _ => rfl)) (by rfl) (by rfl) (by rfl)) (pss_cons (ps_set (by rfl) (locOf (by rfl)) (pe_ix (pe_var (by rfl) (visOf (by rfl)) (by rfl) (by rfl)) pe_int (fun _ _ => rfl)) (by rfl)) (pss_cons (ps_asg (pe_op op_mod (pe_op (op_add false) (pe_op (op_add false) (pe_op (op_mul false) (pe_var (by rfl) (visOf (by rfl)) (by rfl) (by rfl)) (pe_op (op_add false) (pe_op op_mod (pe_var (by rfl) (visOf (by rfl)) (by rfl) (by rfl)) pe_int) pe_int)) (pe_op (op_mul false) pe_int (pe_ix (pe_var (by rfl) (visOf (by rfl)) (by rfl) (by rfl)) pe_int (fun _ _ => rfl)))) pe_int) pe_int) (pg_sub (pe_var (by rfl) (visOf (by rfl)) (by rfl) (by rfl)) pe_int (fun _ => rfl)) (by rfl) (by rfl) (by rfl)) (pss_cons (ps_if (pt_cmp (op_cmp .gt) (pe_ix (pe_var (by rfl) (visOf (by rfl)) (by rfl) (by rfl)) pe_int (fun _ _ => rfl)) pe_int (by rfl)) (pss_cons (ps_asg (pe_bltB blt_divmod (by rfl) H.n_divmod (by rfl) (by decide) (pa_cons (pe_ix (pe_var (by rfl) (visOf (by rfl)) (by rfl) (by rfl)) pe_int (fun _ _ => rfl)) (pa_cons (pe_var (by rfl) (visOf (by rfl)) (by rfl) (by rfl)) pa_nil (by rfl)) (by rfl)) (by rfl) (by rfl) (by rfl)) (pg_tup (pgs_cons (pg_sub (pe_var (by rfl) (visOf (by rfl)) (by rfl) (by rfl)) pe_int (fun _ => rfl)) (pgs_cons (pg_name (by rfl) (locOf (by rfl))) pgs_nil (by rfl)) (by rfl)) (by rfl) (by rfl)) (by rfl) (by rfl) (by rfl)) (pss_cons (ps_ret (pe_var (by rfl) (visOf (by rfl)) (by rfl) (by rfl))) pss_nil)) pss_nil) (pss_cons (ps_ret (pe_op op_mod (pe_op op_fdiv (pe_ix (pe_var (by rfl) (visOf (by rfl)) (by rfl) (by rfl)) pe_int (fun _ _ => rfl)) pe_int) (pe_var (by rfl) (visOf (by rfl)) (by rfl) (by rfl)))) pss_nil)))))
noncomputable def b__law_big (ad : Ad) : SS := (sCons (sIf (tOf (eOp (dCmp .gt) (eVar 1) (eC (.int 0)))) (sCons (sRet (eCall (f__law_draw ad) [] (aCons (eVar 0) (aCons (eOp (dAdd false) (eVar 1) (eC (.int 1))) aNil)))) sNil) sNil) (sCons (sRet (eOp dIx (eLst false (aCons (eCall (f__law_draw ad) [] (aCons (eVar 0) (aCons (eC (.int 30)) aNil))) (aCons (eOp (dAdd false) (eC (.int 1)) (eCall (f__law_draw ad) [] (aCons (eVar 0) (aCons (eOp dPow (eC (.int 10)) (eC (.int 30))) aNil)))) (aCons (eOp dPow (eC (.int 10)) (eC (.int 30))) aNil)))) (eCall (f__law_draw ad) [] (aCons (eVar 0) (aCons (eC (.int 3)) aNil))))) sNil))
noncomputable def f__law_big (ad : Ad) : SF := fnS false 2 2 (b__law_big ad)
theorem ok__law_big {S : Stat} {ad : Ad} (H : Facts S ad) : FnK S 5 "_law_big" (f__law_big ad) := fnK_of (N := ["_law_pool_here", "_law_high_here"]) (ps := ["_law_pool_here", "_law_high_here"]) (k := 4) H.d__law_big ⟨by rfl, by rfl, by rfl, by decide +kernel, by rfl, by decide +kernel, by decide +kernel⟩ (fun _ _ _ _ _ _ us hl => match us, hl with | [_, _], _ => rfl) fun A L f cd hr => by
  have r : Rm 3 (cxFn S ["_law_pool_here", "_law_high_here"] "_law_big" (L2.defScope (top 39)) L f cd A).A := hr.deeper _
  exact (pss_cons (ps_if (pt_cmp (op_cmp .gt) (pe_var (by rfl) (visOf (by rfl)) (by rfl) (by rfl)) pe_int (by rfl)) (pss_cons (ps_ret (pe_callF (ok__law_draw H) (r.mono (by first | decide | omega)) (by rfl) (pa_cons (pe_var (by rfl) (visOf (by rfl)) (by rfl) (by rfl)) (pa_cons (pe_op (op_add false) (pe_var (by rfl) (visOf (by rfl)) (by rfl) (by rfl)) pe_int) pa_nil (by rfl)) (by rfl)) (by rfl) (by rfl) (by rfl))) pss_nil) pss_nil) (pss_cons (ps_ret (pe_ix (pe_lst false (pa_cons (pe_callF (ok__law_draw H) (r.mono (by first | decide | omega)) (by rfl) (pa_cons (pe_var (by rfl) (visOf (by rfl)) (by rfl) (by rfl)) (pa_cons pe_int pa_nil (by rfl)) (by rfl)) (by rfl) (by rfl) (by rfl)) (pa_cons (pe_op (op_add false) pe_int (pe_callF (ok__law_draw H) (r.mono (by first | decide | omega)) (by rfl) (pa_cons (pe_var (by rfl) (visOf (by rfl)) (by rfl) (by rfl)) (pa_cons (pe_op op_pow pe_int pe_int) pa_nil (by rfl)) (by rfl)) (by rfl) (by rfl) (by rfl))) (pa_cons (pe_op op_pow pe_int pe_int) pa_nil (by rfl)) (by rfl)) (by rfl))) (pe_callF (ok__law_draw H) (r.mono (by first | decide | omega)) (by rfl) (pa_cons (pe_var (by rfl) (visOf (by rfl)) (by rfl) (by rfl)) (pa_cons pe_int pa_nil (by rfl)) (by rfl)) (by rfl) (by rfl) (by rfl)) (fun _ _ => rfl))) pss_nil))
noncomputable def b__law_cap (ad : Ad) : SS := (sCons (sAsg (eCall (f__law_draw ad) [] (aCons (eVar 0) (aCons (eC (.int 9)) aNil))) (gName 2)) (sCons (sRet (eIf (tOf (eOp (dCmp .lt) (eVar 2) (eC (.int 3)))) (eC .non) (eIf (tOf (eOp (dEq false) (eVar 2) (eC (.int 3)))) (eC (.int 0)) (eOp (dAdd false) (eC (.int 1)) (eCall (f__law_big ad) [] (aCons (eVar 0) (aCons (eVar 1) aNil))))))) sNil))
noncomputable def f__law_cap (ad : Ad) : SF := fnS false 2 3 (b__law_cap ad)
theorem ok__law_cap {S : Stat} {ad : Ad} (H : Facts S ad) : FnK S 7 "_law_cap" (f__law_cap ad) := fnK_of (N := ["_law_pool_here", "_law_high_here", "_law_way"]) (ps := ["_law_pool_here", "_law_high_here"]) (k := 6) H.d__law_cap ⟨by rfl, by rfl, by rfl, by decide +kernel, by rfl, by decide +kernel, by decide +kernel⟩ (fun _ _ _ _ _ _ us hl => match us, hl with | [_, _], _ => rfl) fun A L f cd hr => by
  have r : Rm 5 (cxFn S ["_law_pool_here", "_law_high_here", "_law_way"] "_law_cap" (L2.defScope (top 40)) L f cd A).A := hr.deeper _
  exact (pss_cons (ps_set (by rfl) (locOf (by rfl)) (pe_callF (ok__law_draw H) (r.mono (by first | decide | omega)) (by rfl) (pa_cons (pe_var (by rfl) (visOf (by rfl)) (by rfl) (by rfl)) (pa_cons pe_int pa_nil (by rfl)) (by rfl)) (by rfl) (by rfl) (by rfl)) (by rfl)) (pss_cons (ps_ret (pe_ifExp (pt_cmp (op_cmp .lt) (pe_var (by rfl) (visOf (by rfl)) (by rfl) (by rfl)) pe_int (by rfl)) pe_non (pe_ifExp (pt_cmp (op_eq (Roomy.of r)) (pe_var (by rfl) (visOf (by rfl)) (by rfl) (by rfl)) pe_int (by rfl)) pe_int (pe_op (op_add false) pe_int (pe_callF (ok__law_big H) (r.mono (by first | decide | omega)) (by rfl) (pa_cons (pe_var (by rfl) (visOf (by rfl)) (by rfl) (by rfl)) (pa_cons (pe_var (by rfl) (visOf (by rfl)) (by rfl) (by rfl)) pa_nil (by rfl)) (by rfl)) (by rfl) (by rfl) (by rfl)))))) pss_nil))
noncomputable def b__law_high (ad : Ad) (self : SF) : SS := (sCons (sRet (eBlt bMax (aCons (eOp (dAdd false) (eLC false [1] (iSeq (eVar 0)) (lc1 (gName 1) tYes (eIf (tOf (eOp (dEq false) (eBlt bLen (aCons (eVar 1) aNil)) (eC (.int 3)))) (eOp (dAdd false) (eC (.int 1)) (eCall self [] (aCons (eOp dIx (eVar 1) (eC (.int 2))) aNil))) (eC (.int 0))))) (eLst false (aCons (eC (.int 0)) aNil))) aNil))) sNil)
noncomputable def f__law_high (ad : Ad) : Nat → SF
  | 0 => fnBad
  | n + 1 => fnS false 1 2 (b__law_high ad (f__law_high ad n))
theorem ok__law_high {S : Stat} {ad : Ad} (H : Facts S ad) : ∀ n, FnK S (1 + 2 * n) "_law_high" (f__law_high ad n)
  | 0 => fnK_bad (ps := ["_law_pieces"]) H.d__law_high (fun _ _ _ _ _ _ us hl => match us, hl with | [_], _ => rfl)
  | n + 1 => (fnK_of (N := ["_law_pieces", "_law_piece"]) (ps := ["_law_pieces"]) (k := 1 + 2 * n + 1) H.d__law_high ⟨by rfl, by rfl, by rfl, by decide +kernel, by rfl, by decide +kernel, by decide +kernel⟩ (fun _ _ _ _ _ _ us hl => match us, hl with | [_], _ => rfl) fun A L f cd hr => by
    have ih := ok__law_high H n
    have r : Rm (1 + 2 * n) (cxFn S ["_law_pieces", "_law_piece"] "_law_high" (L2.defScope (top 41)) L f cd A).A := hr.deeper _
    exact (pss_cons (ps_ret (pe_bltB blt_max (by rfl) H.n_max (by rfl) (by decide) (pa_cons (pe_op (op_add false) (pe_lcG false (pi_seq (pe_var (by rfl) (visOf (by rfl)) (by rfl) (by rfl))) (Blk.of (by rfl)) (cells_fn (by rfl)) (fun cl C => run1 (PG.r (pg_name (by rfl) (locOf (by rfl)))) pts_nil (pe_ifExp (pt_cmp (op_eq (Roomy.of r)) (pe_bltB blt_len (by rfl) H.n_len (by rfl) (by decide) (pa_cons (pe_var (by rfl) (visOf (by rfl)) (by rfl) (by rfl)) pa_nil (by rfl)) (by rfl) (by rfl) (by rfl)) pe_int (by rfl)) (pe_op (op_add false) pe_int (pe_callF ih (r.mono (by first | decide | omega)) (by rfl) (pa_cons (pe_ix (pe_var (by rfl) (visOf (by rfl)) (by rfl) (by rfl)) pe_int (fun _ _ => rfl)) pa_nil (by rfl)) (by rfl) (by rfl) (by rfl))) pe_int)) (fun _ => rfl)) (pe_lst false (pa_cons pe_int pa_nil (by rfl)))) pa_nil (by rfl)) (by rfl) (by rfl) (by rfl))) pss_nil)).mono (by omega)
noncomputable def b__law_scheme (ad : Ad) : SS := (sCons (sSetLC false [5] (iSeq (eVar 1)) (lc1 (gName 5) tYes (eTup (aCons (eVar 5) (aCons (eCall (f__law_cap ad) [] (aCons (eVar 0) (aCons (eVar 3) aNil))) aNil)))) 4) (sCons (sFor (iSeq (eSl (dSl false) (eVar 2) (oSome (eC (.int 1))) oNone)) (gName 6) (sCons (sPar 7 8 (aCons (eCall (f__law_draw ad) [] (aCons (eVar 0) (aCons (eBlt bLen (aCons (eVar 4) aNil)) aNil))) (aCons (eOp (dAdd false) (eC (.int 1)) (eCall (f__law_draw ad) [] (aCons (eVar 0) (aCons (eBlt bLen (aCons (eVar 4) aNil)) aNil)))) aNil))) (sCons (sAsg (eBlt bTuple (aCons (eSl (dSl false) (eVar 4) (oSome (eVar 7)) (oSome (eOp (dAdd false) (eVar 7) (eVar 8)))) aNil)) (gName 9)) (sCons (sIf (tOf (eOp (dCmp .lt) (eCall (f__law_high ad 10) [] (aCons (eVar 9) aNil)) (eC (.int 5)))) (sCons (sAsg (eOp (dAdd false) (eOp (dAdd false) (eSl (dSl false) (eVar 4) oNone (oSome (eVar 7))) (eLst false (aCons (eTup (aCons (eVar 6) (aCons (eCall (f__law_cap ad) [] (aCons (eVar 0) (aCons (eVar 3) aNil))) (aCons (eVar 9) aNil)))) aNil))) (eSl (dSl false) (eVar 4) (oSome (eOp (dAdd false) (eVar 7) (eVar 8))) oNone)) (gName 4)) sNil) sNil) sNil)))) (sCons (sRet (eTup (aCons (eOp dIx (eVar 2) (eC (.int 0))) (aCons (eCall (f__law_cap ad) [] (aCons (eVar 0) (aCons (eVar 3) aNil))) (aCons (eBlt bTuple (aCons (eVar 4) aNil)) aNil))))) sNil)))
noncomputable def f__law_scheme (ad : Ad) : SF := fnS false 4 10 (b__law_scheme ad)
theorem ok__law_scheme {S : Stat} {ad : Ad} (H : Facts S ad) : FnK S 23 "_law_scheme" (f__law_scheme ad) := fnK_of (N := ["_law_pool_here", "_law_words_here", "_law_heads", "_law_high_here", "_law_pieces", "_law_word", "_law_head", "_law_at", "_law_size", "_law_inner"]) (ps := ["_law_pool_here", "_law_words_here", "_law_heads", "_law_high_here"]) (k := 22) H.d__law_scheme ⟨by rfl, by rfl, by rfl, by decide +kernel, by rfl, by decide +kernel, by decide +kernel⟩ (fun _ _ _ _ _ _ us hl => match us, hl with | [_, _, _, _], _ => rfl) fun A L f cd hr => by
  have r : Rm 21 (cxFn S ["_law_pool_here", "_law_words_here", "_law_heads", "_law_high_here", "_law_pieces", "_law_word", "_law_head", "_law_at", "_law_size", "_law_inner"] "_law_scheme" (L2.defScope (top 42)) L f cd A).A := hr.deeper _
  exact (pss_cons (ps_setLC false (by rfl) (by rfl) (by rfl) (pi_seq (pe_var (by rfl) (visOf (by rfl)) (by rfl) (by rfl))) (Blk.of (by rfl)) (cells_fn (by rfl)) (fun cl C => run1 (PG.r (pg_name (by rfl) (locOf (by rfl)))) pts_nil (pe_tup (pa_cons (pe_var (by rfl) (visOf (by rfl)) (by rfl) (by rfl)) (pa_cons (pe_callF (ok__law_cap H) (r.mono (by first | decide | omega)) (by rfl) (pa_cons (pe_var (by rfl) (visOf (by rfl)) (by rfl) (by rfl)) (pa_cons (pe_var (by rfl) (visOf (by rfl)) (by rfl) (by rfl)) pa_nil (by rfl)) (by rfl)) (by rfl) (by rfl) (by rfl)) pa_nil (by rfl)) (by rfl)))) (fun _ => rfl)) (pss_cons (ps_for (pi_seq (pe_slice (sl_any false) (pe_var (by rfl) (visOf (by rfl)) (by rfl) (by rfl)) (po_some pe_int) po_none (fun _ _ => rfl))) (PG.r (pg_name (by rfl) (locOf (by rfl)))) (pss_cons (ps_par (by rfl) (by rfl) (locOf (by rfl)) (locOf (by rfl)) (pa_cons (pe_callF (ok__law_draw H) (r.mono (by first | decide | omega)) (by rfl) (pa_cons (pe_var (by rfl) (visOf (by rfl)) (by rfl) (by rfl)) (pa_cons (pe_bltB blt_len (by rfl) H.n_len (by rfl) (by decide) (pa_cons (pe_var (by rfl) (visOf (by rfl)) (by rfl) (by rfl)) pa_nil (by rfl)) (by rfl) (by rfl) (by rfl)) pa_nil (by rfl)) (by rfl)) (by rfl) (by rfl) (by rfl)) (pa_cons (pe_op (op_add false) pe_int (pe_callF (ok__law_draw H) (r.mono (by first | decide | omega)) (by rfl) (pa_cons (pe_var (by rfl) (visOf (by rfl)) (by rfl) (by rfl)) (pa_cons (pe_bltB blt_len (by rfl) H.n_len (by rfl) (by decide) (pa_cons (pe_var (by rfl) (visOf (by rfl)) (by rfl) (by rfl)) pa_nil (by rfl)) (by rfl) (by rfl) (by rfl)) pa_nil (by rfl)) (by rfl)) (by rfl) (by rfl) (by rfl))) pa_nil (by rfl)) (by rfl)) (by rfl) (by rfl)) (pss_cons (ps_set (by rfl) (locOf (by rfl)) (pe_bltT blt_tuple (by rfl) H.n_tuple (by rfl) (by decide) (pa_cons (pe_slice (sl_any false) (pe_var (by rfl) (visOf (by rfl)) (by rfl) (by rfl)) (po_some (pe_var (by rfl) (visOf (by rfl)) (by rfl) (by rfl))) (po_some (pe_op (op_add false) (pe_var (by rfl) (visOf (by rfl)) (by rfl) (by rfl)) (pe_var (by rfl) (visOf (by rfl)) (by rfl) (by rfl)))) (fun _ _ => rfl)) pa_nil (by rfl)) (by rfl) (by rfl) (by rfl)) (by rfl)) (pss_cons (ps_if (pt_cmp (op_cmp .lt) (pe_callF (ok__law_high H 10) (r.mono (by first | decide | omega)) (by rfl) (pa_cons (pe_var (by rfl) (visOf (by rfl)) (by rfl) (by rfl)) pa_nil (by rfl)) (by rfl) (by rfl) (by rfl)) pe_int (by rfl)) (pss_cons (ps_set (by rfl) (locOf (by rfl)) (pe_op (op_add false) (pe_op (op_add false) (pe_slice (sl_any false) (pe_var (by rfl) (visOf (by rfl)) (by rfl) (by rfl)) po_none (po_some (pe_var (by rfl) (visOf (by rfl)) (by rfl) (by rfl))) (fun _ _ => rfl)) (pe_lst false (pa_cons (pe_tup (pa_cons (pe_var (by rfl) (visOf (by rfl)) (by rfl) (by rfl)) (pa_cons (pe_callF (ok__law_cap H) (r.mono (by first | decide | omega)) (by rfl) (pa_cons (pe_var (by rfl) (visOf (by rfl)) (by rfl) (by rfl)) (pa_cons (pe_var (by rfl) (visOf (by rfl)) (by rfl) (by rfl)) pa_nil (by rfl)) (by rfl)) (by rfl) (by rfl) (by rfl)) (pa_cons (pe_var (by rfl) (visOf (by rfl)) (by rfl) (by rfl)) pa_nil (by rfl)) (by rfl)) (by rfl))) pa_nil (by rfl)))) (pe_slice (sl_any false) (pe_var (by rfl) (visOf (by rfl)) (by rfl) (by rfl)) (po_some (pe_op (op_add false) (pe_var (by rfl) (visOf (by rfl)) (by rfl) (by rfl)) (pe_var (by rfl) (visOf (by rfl)) (by rfl) (by rfl)))) po_none (fun _ _ => rfl))) (by rfl)) pss_nil) pss_nil) pss_nil))) (fun _ => rfl)) (pss_cons (ps_ret (pe_tup (pa_cons (pe_ix (pe_var (by rfl) (visOf (by rfl)) (by rfl) (by rfl)) pe_int (fun _ _ => rfl)) (pa_cons (pe_callF (ok__law_cap H) (r.mono (by first | decide | omega)) (by rfl) (pa_cons (pe_var (by rfl) (visOf (by rfl)) (by rfl) (by rfl)) (pa_cons (pe_var (by rfl) (visOf (by rfl)) (by rfl) (by rfl)) pa_nil (by rfl)) (by rfl)) (by rfl) (by rfl) (by rfl)) (pa_cons (pe_bltT blt_tuple (by rfl) H.n_tuple (by rfl) (by decide) (pa_cons (pe_var (by rfl) (visOf (by rfl)) (by rfl) (by rfl)) pa_nil (by rfl)) (by rfl) (by rfl) (by rfl)) pa_nil (by rfl)) (by rfl)) (by rfl)))) pss_nil)))
noncomputable def b__law_words (ad : Ad) : SS := (sCons (sAsg (eC (.str "abcdefghijklmnopqrstuvwxyz")) (gName 2)) (sCons (sAsg (eLst false (aCons (eC (.str "same")) (aCons (eC (.str "more")) (aCons (eC (.str "moved")) (aCons (eC (.str "limit")) (aCons (eC (.str "short")) (aCons (eC (.str "cut")) (aCons (eC (.str "demand")) (aCons (eC (.str "request")) (aCons (eC (.str "release")) (aCons (eC (.str "tree")) (aCons (eC (.str "unlimit")) (aCons (eC (.str "ok")) aNil))))))))))))) (gName 3)) (sCons (sAsg (eOp (dAdd false) (eVar 3) (eLst false (aCons (eC (.str "all")) (aCons (eC (.str "ga")) (aCons (eC (.str "gb")) (aCons (eC (.str "a")) (aCons (eC (.str "b")) (aCons (eC (.str "x")) (aCons (eC (.str "core")) (aCons (eC (.str "tight")) (aCons (eC (.str "slack")) (aCons (eC (.str "undo")) (aCons (eC (.str "used")) (aCons (eC (.str "total")) aNil)))))))))))))) (gName 3)) (sCons (sAsg (eTup (aCons (eCall (f__law_draw ad) [] (aCons (eVar 0) (aCons (eC (.int 3)) aNil))) (aCons (eCall (f__law_draw ad) [] (aCons (eVar 0) (aCons (eC (.int 24)) aNil))) aNil))) (gTup 2 (gCons (gName 4) (gCons (gName 5) gNil)))) (sCons (sIf (tOf (eOp (dEq false) (eVar 4) (eC (.int 0)))) (sCons (sRet (eLC false [6] (iRng1 (aCons (eVar 1) aNil)) (lc1 (gName 6) tYes (eOp dIx (eVar 3) (eOp dMod (eOp (dAdd false) (eVar 5) (eOp (dMul false) (eC (.int 5)) (eVar 6))) (eC (.int 24))))))) sNil) sNil) (sCons (sIf (tOf (eOp (dEq false) (eVar 4) (eC (.int 1)))) (sCons (sRet (eLC false [6] (iRng1 (aCons (eVar 1) aNil)) (lc1 (gName 6) tYes (eOp dMulS (eOp dIx (eVar 2) (eOp dMod (eOp (dAdd false) (eVar 5) (eOp (dMul false) (eC (.int 7)) (eVar 6))) (eC (.int 26)))) (eOp (dAdd false) (eC (.int 1)) (eOp dMod (eVar 6) (eC (.int 8)))))))) sNil) sNil) (sCons (sAsg (eSm1 mJoin (eC (.str "")) (eLC false [6] (iRng1 (aCons (eCall (f__law_draw ad) [] (aCons (eVar 0) (aCons (eC (.int 8)) aNil))) aNil)) (lc1 (gName 6) tYes (eOp dIx (eVar 2) (eCall (f__law_draw ad) [] (aCons (eVar 0) (aCons (eC (.int 26)) aNil))))))) (gName 7)) (sCons (sAsg (eCall (f__law_draw ad) [] (aCons (eVar 0) (aCons (eOp (dAdd false) (eBlt bLen (aCons (eVar 7) aNil)) (eC (.int 1))) aNil))) (gName 8)) (sCons (sRet (eLC false [6] (iRng1 (aCons (eVar 1) aNil)) (lc1 (gName 6) tYes (eOp (dAdd false) (eOp (dAdd false) (eSl (dSl false) (eVar 7) oNone (oSome (eVar 8))) (eOp dIx (eVar 2) (eOp dMod (eOp (dAdd false) (eVar 5) (eOp (dMul false) (eC (.int 5)) (eVar 6))) (eC (.int 26))))) (eSl (dSl false) (eVar 7) (oSome (eVar 8)) oNone))))) sNil)))))))))
noncomputable def f__law_words (ad : Ad) : SF := fnS false 2 9 (b__law_words ad)
theorem ok__law_words {S : Stat} {ad : Ad} (H : Facts S ad) : FnK S 5 "_law_words" (f__law_words ad) := fnK_of (N := ["_law_pool_here", "_law_many", "_law_letters", "_law_menu", "_law_way", "_law_begin", "_law_k", "_law_stem", "_law_at"]) (ps := ["_law_pool_here", "_law_many"]) (k := 4) H.d__law_words ⟨by rfl, by rfl, by rfl, by decide +kernel, by rfl, by decide +kernel, by decide +kernel⟩ (fun _ _ _ _ _ _ us hl => match us, hl with | [_, _], _ => rfl) fun A L f cd hr => by
  have r : Rm 3 (cxFn S ["_law_pool_here", "_law_many", "_law_letters", "_law_menu", "_law_way", "_law_begin", "_law_k", "_law_stem", "_law_at"] "_law_words" (L2.defScope (top 38)) L f cd A).A := hr.deeper _
  exact (pss_cons (ps_set (by rfl) (locOf (by rfl)) pe_str (by rfl)) (pss_cons (ps_set (by rfl) (locOf (by rfl)) (pe_lst false (pa_cons pe_str (pa_cons pe_str (pa_cons pe_str (pa_cons pe_str (pa_cons pe_str (pa_cons pe_str (pa_cons pe_str (pa_cons pe_str (pa_cons pe_str (pa_cons pe_str (pa_cons pe_str (pa_cons pe_str pa_nil (by rfl)) (by rfl)) (by rfl)) (by rfl)) (by rfl)) (by rfl)) (by rfl)) (by rfl)) (by rfl)) (by rfl)) (by rfl)) (by rfl))) (by rfl)) (pss_cons (ps_set (by rfl) (locOf (by rfl)) (pe_op (op_add false) (pe_var (by rfl) (visOf (by rfl)) (by rfl) (by rfl)) (pe_lst false (pa_cons pe_str (pa_cons pe_str (pa_cons pe_str (pa_cons pe_str (pa_cons pe_str (pa_cons pe_str (pa_cons pe_str (pa_cons pe_str (pa_cons pe_str (pa_cons pe_str (pa_cons pe_str (pa_cons pe_str pa_nil (by rfl)) (by rfl)) (by rfl)) (by rfl)) (by rfl)) (by rfl)) (by rfl)) (by rfl)) (by rfl)) (by rfl)) (by rfl)) (by rfl)))) (by rfl)) (pss_cons (ps_asg (pe_tup (pa_cons (pe_callF (ok__law_draw H) (r.mono (by first | decide | omega)) (by rfl) (pa_cons (pe_var (by rfl) (visOf (by rfl)) (by rfl) (by rfl)) (pa_cons pe_int pa_nil (by rfl)) (by rfl)) (by rfl) (by rfl) (by rfl)) (pa_cons (pe_callF (ok__law_draw H) (r.mono (by first | decide | omega)) (by rfl) (pa_cons (pe_var (by rfl) (visOf (by rfl)) (by rfl) (by rfl)) (pa_cons pe_int pa_nil (by rfl)) (by rfl)) (by rfl) (by rfl) (by rfl)) pa_nil (by rfl)) (by rfl))) (pg_tup (pgs_cons (pg_name (by rfl) (locOf (by rfl))) (pgs_cons (pg_name (by rfl) (locOf (by rfl))) pgs_nil (by rfl)) (by rfl)) (by rfl) (by rfl)) (by rfl) (by rfl) (by rfl)) (pss_cons (ps_if (pt_cmp (op_eq (Roomy.of r)) (pe_var (by rfl) (visOf (by rfl)) (by rfl) (by rfl)) pe_int (by rfl)) (pss_cons (ps_ret (pe_lcG false (pi_range1 (by rfl) H.n_range (pa_cons (pe_var (by rfl) (visOf (by rfl)) (by rfl) (by rfl)) pa_nil (by rfl)) (by rfl)) (Blk.of (by rfl)) (cells_fn (by rfl)) (fun cl C => run1 (PG.r (pg_name (by rfl) (locOf (by rfl)))) pts_nil (pe_ix (pe_var (by rfl) (visOf (by rfl)) (by rfl) (by rfl)) (pe_op op_mod (pe_op (op_add false) (pe_var (by rfl) (visOf (by rfl)) (by rfl) (by rfl)) (pe_op (op_mul false) pe_int (pe_var (by rfl) (visOf (by rfl)) (by rfl) (by rfl)))) pe_int) (fun _ _ => rfl))) (fun _ => rfl))) pss_nil) pss_nil) (pss_cons (ps_if (pt_cmp (op_eq (Roomy.of r)) (pe_var (by rfl) (visOf (by rfl)) (by rfl) (by rfl)) pe_int (by rfl)) (pss_cons (ps_ret (pe_lcG false (pi_range1 (by rfl) H.n_range (pa_cons (pe_var (by rfl) (visOf (by rfl)) (by rfl) (by rfl)) pa_nil (by rfl)) (by rfl)) (Blk.of (by rfl)) (cells_fn (by rfl)) (fun cl C => run1 (PG.r (pg_name (by rfl) (locOf (by rfl)))) pts_nil (pe_op op_mulS (pe_ix (pe_var (by rfl) (visOf (by rfl)) (by rfl) (by rfl)) (pe_op op_mod (pe_op (op_add false) (pe_var (by rfl) (visOf (by rfl)) (by rfl) (by rfl)) (pe_op (op_mul false) pe_int (pe_var (by rfl) (visOf (by rfl)) (by rfl) (by rfl)))) pe_int) (fun _ _ => rfl)) (pe_op (op_add false) pe_int (pe_op op_mod (pe_var (by rfl) (visOf (by rfl)) (by rfl) (by rfl)) pe_int)))) (fun _ => rfl))) pss_nil) pss_nil) (pss_cons (ps_set (by rfl) (locOf (by rfl)) (pe_sm1 F.slot_str_join (by rfl) mt_join pe_str (pe_lcG false (pi_range1 (by rfl) H.n_range (pa_cons (pe_callF (ok__law_draw H) (r.mono (by first | decide | omega)) (by rfl) (pa_cons (pe_var (by rfl) (visOf (by rfl)) (by rfl) (by rfl)) (pa_cons pe_int pa_nil (by rfl)) (by rfl)) (by rfl) (by rfl) (by rfl)) pa_nil (by rfl)) (by rfl)) (Blk.of (by rfl)) (cells_fn (by rfl)) (fun cl C => run1 (PG.r (pg_name (by rfl) (locOf (by rfl)))) pts_nil (pe_ix (pe_var (by rfl) (visOf (by rfl)) (by rfl) (by rfl)) (pe_callF (ok__law_draw H) (r.mono (by first | decide | omega)) (by rfl) (pa_cons (pe_var (by rfl) (visOf (by rfl)) (by rfl) (by rfl)) (pa_cons pe_int pa_nil (by rfl)) (by rfl)) (by rfl) (by rfl) (by rfl)) (fun _ _ => rfl))) (fun _ => rfl)) (by rfl) (by rfl) (by rfl)) (by rfl)) (pss_cons (ps_set (by rfl) (locOf (by rfl)) (pe_callF (ok__law_draw H) (r.mono (by first | decide | omega)) (by rfl) (pa_cons (pe_var (by rfl) (visOf (by rfl)) (by rfl) (by rfl)) (pa_cons (pe_op (op_add false) (pe_bltB blt_len (by rfl) H.n_len (by rfl) (by decide) (pa_cons (pe_var (by rfl) (visOf (by rfl)) (by rfl) (by rfl)) pa_nil (by rfl)) (by rfl) (by rfl) (by rfl)) pe_int) pa_nil (by rfl)) (by rfl)) (by rfl) (by rfl) (by rfl)) (by rfl)) (pss_cons (ps_ret (pe_lcG false (pi_range1 (by rfl) H.n_range (pa_cons (pe_var (by rfl) (visOf (by rfl)) (by rfl) (by rfl)) pa_nil (by rfl)) (by rfl)) (Blk.of (by rfl)) (cells_fn (by rfl)) (fun cl C => run1 (PG.r (pg_name (by rfl) (locOf (by rfl)))) pts_nil (pe_op (op_add false) (pe_op (op_add false) (pe_slice (sl_any false) (pe_var (by rfl) (visOf (by rfl)) (by rfl) (by rfl)) po_none (po_some (pe_var (by rfl) (visOf (by rfl)) (by rfl) (by rfl))) (fun _ _ => rfl)) (pe_ix (pe_var (by rfl) (visOf (by rfl)) (by rfl) (by rfl)) (pe_op op_mod (pe_op (op_add false) (pe_var (by rfl) (visOf (by rfl)) (by rfl) (by rfl)) (pe_op (op_mul false) pe_int (pe_var (by rfl) (visOf (by rfl)) (by rfl) (by rfl)))) pe_int) (fun _ _ => rfl))) (pe_slice (sl_any false) (pe_var (by rfl) (visOf (by rfl)) (by rfl) (by rfl)) (po_some (pe_var (by rfl) (visOf (by rfl)) (by rfl) (by rfl))) po_none (fun _ _ => rfl)))) (fun _ => rfl))) pss_nil)))))))))
noncomputable def b__law_drawn (ad : Ad) : SS := (sCons (sAsg (eCall (f__law_words ad) [] (aCons (eVar 0) (aCons (eC (.int 24)) aNil))) (gName 2)) (sCons (sRet (eCall (f__law_scheme ad) [] (aCons (eVar 0) (aCons (eSl (dSl false) (eVar 2) oNone (oSome (eOp (dAdd false) (eC (.int 1)) (eCall (f__law_draw ad) [] (aCons (eVar 0) (aCons (eC (.int 12)) aNil)))))) (aCons (eSl (dSl false) (eVar 2) (oSome (eC (.int 12))) (oSome (eOp (dAdd false) (eC (.int 13)) (eCall (f__law_draw ad) [] (aCons (eVar 0) (aCons (eC (.int 12)) aNil)))))) (aCons (eVar 1) aNil)))))) sNil))
noncomputable def f__law_drawn (ad : Ad) : SF := fnS false 2 3 (b__law_drawn ad)
theorem ok__law_drawn {S : Stat} {ad : Ad} (H : Facts S ad) : FnK S 25 "_law_drawn" (f__law_drawn ad) := fnK_of (N := ["_law_pool_here", "_law_high_here", "_law_words_here"]) (ps := ["_law_pool_here", "_law_high_here"]) (k := 24) H.d__law_drawn ⟨by rfl, by rfl, by rfl, by decide +kernel, by rfl, by decide +kernel, by decide +kernel⟩ (fun _ _ _ _ _ _ us hl => match us, hl with | [_, _], _ => rfl) fun A L f cd hr => by
  have r : Rm 23 (cxFn S ["_law_pool_here", "_law_high_here", "_law_words_here"] "_law_drawn" (L2.defScope (top 46)) L f cd A).A := hr.deeper _
  exact (pss_cons (ps_set (by rfl) (locOf (by rfl)) (pe_callF (ok__law_words H) (r.mono (by first | decide | omega)) (by rfl) (pa_cons (pe_var (by rfl) (visOf (by rfl)) (by rfl) (by rfl)) (pa_cons pe_int pa_nil (by rfl)) (by rfl)) (by rfl) (by rfl) (by rfl)) (by rfl)) (pss_cons (ps_ret (pe_callF (ok__law_scheme H) (r.mono (by first | decide | omega)) (by rfl) (pa_cons (pe_var (by rfl) (visOf (by rfl)) (by rfl) (by rfl)) (pa_cons (pe_slice (sl_any false) (pe_var (by rfl) (visOf (by rfl)) (by rfl) (by rfl)) po_none (po_some (pe_op (op_add false) pe_int (pe_callF (ok__law_draw H) (r.mono (by first | decide | omega)) (by rfl) (pa_cons (pe_var (by rfl) (visOf (by rfl)) (by rfl) (by rfl)) (pa_cons pe_int pa_nil (by rfl)) (by rfl)) (by rfl) (by rfl) (by rfl)))) (fun _ _ => rfl)) (pa_cons (pe_slice (sl_any false) (pe_var (by rfl) (visOf (by rfl)) (by rfl) (by rfl)) (po_some pe_int) (po_some (pe_op (op_add false) pe_int (pe_callF (ok__law_draw H) (r.mono (by first | decide | omega)) (by rfl) (pa_cons (pe_var (by rfl) (visOf (by rfl)) (by rfl) (by rfl)) (pa_cons pe_int pa_nil (by rfl)) (by rfl)) (by rfl) (by rfl) (by rfl)))) (fun _ _ => rfl)) (pa_cons (pe_var (by rfl) (visOf (by rfl)) (by rfl) (by rfl)) pa_nil (by rfl)) (by rfl)) (by rfl)) (by rfl)) (by rfl) (by rfl) (by rfl))) pss_nil))
noncomputable def b__law_right (ad : Ad) : SS := (sCons (sAsg (eMake true ad.Tree (f_Tree___init__ ad) [] (aCons (eCall (f__law_drawn ad) [] (aCons (eVar 0) (aCons (eC (.int 9)) aNil))) aNil)) (gName 1)) (sCons (sAsg (eListG false (gMeth "walk" (gT ad.Tree (f_Tree_walk ad)) (eVar 1) aNil)) (gName 2)) (sCons (sAsg (eBlt (bSorted false) (aCons (eLC false [4] (iSeq (eVar 2)) (lc1 (gName 4) (tOf (eBlt (bIsi ad.it) (aCons (eVar 4) (aCons (eC (.fn ad.Group)) aNil)))) (eAtt "name" (aT ad.User .fld (aT ad.Group .fld aN)) (eVar 4)))) aNil)) (gName 3)) (sCons (sAsg (eBlt (bSorted false) (aCons (eLC false [4] (iSeq (eVar 2)) (lc1 (gName 4) (tNot (tOf (eBlt (bIsi ad.it) (aCons (eVar 4) (aCons (eC (.fn ad.Group)) aNil))))) (eAtt "name" (aT ad.User .fld (aT ad.Group .fld aN)) (eVar 4)))) aNil)) (gName 5)) (sCons (sIf (tOr (tOf (eOp (dEq true) (eAtt "users" (aT ad.Tree (.prop (f_Tree_users ad)) aN) (eVar 1)) (eBlt bTuple (aCons (eVar 5) aNil)))) (tOr (tOf (eOp (dEq true) (eAtt "groups" (aT ad.Tree (.prop (f_Tree_groups ad)) aN) (eVar 1)) (eBlt bTuple (aCons (eVar 3) aNil)))) (tOf (eOp (dEq true) (eLenO (mT ad.Tree (f_Tree___len__ ad) mN) (aCons (eVar 1) aNil)) (eBlt bLen (aCons (eVar 5) aNil)))))) (sCons (sRet (eC (.bl false))) sNil) sNil) (sCons (sIf (tOr (tOf (eOp (dEq true) (eAtt "members" (aT ad.User (.prop (f_Node_members ad)) (aT ad.Group (.prop (f_Group_members ad 10)) aN)) (eAtt "root" (aT ad.Tree (.prop (f_Tree_root ad)) aN) (eVar 1))) (eAtt "users" (aT ad.Tree (.prop (f_Tree_users ad)) aN) (eVar 1)))) (tOr (tOf (eOp (dEq true) (eAtt "depth" (aT ad.User (.prop (f_Node_depth ad)) (aT ad.Group (.prop (f_Node_depth ad)) aN)) (eAtt "root" (aT ad.Tree (.prop (f_Tree_root ad)) aN) (eVar 1))) (eC (.int 1)))) (tOf (eOp (dEq true) (eAtt "name" (aT ad.User .fld (aT ad.Group .fld aN)) (eOp dIx (eVar 2) (eC (.int 0)))) (eAtt "name" (aT ad.User .fld (aT ad.Group .fld aN)) (eAtt "root" (aT ad.Tree (.prop (f_Tree_root ad)) aN) (eVar 1))))))) (sCons (sRet (eC (.bl false))) sNil) sNil) (sCons (sIf (tNot (tOf (eBlt bAll (aCons (eLC false [6] (iSeq (eVar 5)) (lc1 (gName 6) tYes (eCall (f__law_user_right ad) [] (aCons (eVar 1) (aCons (eVar 6) (aCons (eVar 2) aNil)))))) aNil)))) (sCons (sRet (eC (.bl false))) sNil) sNil) (sCons (sRet (eBlt bAll (aCons (eLC false [4] (iSeq (eVar 2)) (lc1 (gName 4) (tOf (eBlt (bIsi ad.it) (aCons (eVar 4) (aCons (eC (.fn ad.Group)) aNil)))) (eCall (f__law_group_right ad) [] (aCons (eVar 4) aNil)))) aNil))) sNil))))))))
noncomputable def f__law_right (ad : Ad) : SF := fnS false 1 7 (b__law_right ad)
theorem ok__law_right {S : Stat} {ad : Ad} (H : Facts S ad) : FnK S 45 "_law_right" (f__law_right ad) := fnK_of (N := ["_law_pool_here", "_law_made", "_law_nodes", "_law_heads", "_law_each", "_law_words_here", "_law_word"]) (ps := ["_law_pool_here"]) (k := 44) H.d__law_right ⟨by rfl, by rfl, by rfl, by decide +kernel, by rfl, by decide +kernel, by decide +kernel⟩ (fun _ _ _ _ _ _ us hl => match us, hl with | [_], _ => rfl) fun A L f cd hr => by
  have r : Rm 43 (cxFn S ["_law_pool_here", "_law_made", "_law_nodes", "_law_heads", "_law_each", "_law_words_here", "_law_word"] "_law_right" (L2.defScope (top 47)) L f cd A).A := hr.deeper _
  exact (pss_cons (ps_set (by rfl) (locOf (by rfl)) (pe_makeF (fz := true) ⟨ad.Tree___init__, H.mk_Tree, (ok_Tree___init__ H)⟩ (r.mono (by first | decide | omega)) (by rfl) H.c_Tree (pa_cons (pe_callF (ok__law_drawn H) (r.mono (by first | decide | omega)) (by rfl) (pa_cons (pe_var (by rfl) (visOf (by rfl)) (by rfl) (by rfl)) (pa_cons pe_int pa_nil (by rfl)) (by rfl)) (by rfl) (by rfl) (by rfl)) pa_nil (by rfl)) (by rfl) (by rfl) (by rfl)) (by rfl)) (pss_cons (ps_set (by rfl) (locOf (by rfl)) (pe_listg false (pgn_meth0 (pe_var (by rfl) (visOf (by rfl)) (by rfl) (by rfl)) (gmet ⟨H.k_Tree, H.me_Tree_walk⟩ (ok_Tree_walk H)) (r.mono (Nat.zero_le _)) (by rfl) (by rfl) (by rfl)) (r.mono (by first | decide | omega)) (by rfl) H.n_list (by rfl)) (by rfl)) (pss_cons (ps_set (by rfl) (locOf (by rfl)) (pe_bltB (blt_sorted false) (by rfl) H.n_sorted (by rfl) (by decide) (pa_cons (pe_lcG false (pi_seq (pe_var (by rfl) (visOf (by rfl)) (by rfl) (by rfl))) (Blk.of (by rfl)) (cells_fn (by rfl)) (fun cl C => run1 (PG.r (pg_name (by rfl) (locOf (by rfl)))) (pts_one (pt_plain (pe_bltB (blt_isi H.isi) (by rfl) H.n_isinstance (by rfl) (by decide) (pa_cons (pe_var (by rfl) (visOf (by rfl)) (by rfl) (by rfl)) (pa_cons (pe_gfn (by rfl) H.c_Group (by rfl)) pa_nil (by rfl)) (by rfl)) (by rfl) (by rfl) (by rfl)) (fun _ => rfl))) (pe_att (k := 0) (pe_var (by rfl) (visOf (by rfl)) (by rfl) (by rfl)) (attF ⟨H.k_User, H.na_User_name⟩ (attF ⟨H.k_Group, H.na_Group_name⟩ attN)) (r.mono (by first | decide | omega)) (by rfl))) (fun _ => rfl)) pa_nil (by rfl)) (by rfl) (by rfl) (by rfl)) (by rfl)) (pss_cons (ps_set (by rfl) (locOf (by rfl)) (pe_bltB (blt_sorted false) (by rfl) H.n_sorted (by rfl) (by decide) (pa_cons (pe_lcG false (pi_seq (pe_var (by rfl) (visOf (by rfl)) (by rfl) (by rfl))) (Blk.of (by rfl)) (cells_fn (by rfl)) (fun cl C => run1 (PG.r (pg_name (by rfl) (locOf (by rfl)))) (pts_one (pt_not (pt_plain (pe_bltB (blt_isi H.isi) (by rfl) H.n_isinstance (by rfl) (by decide) (pa_cons (pe_var (by rfl) (visOf (by rfl)) (by rfl) (by rfl)) (pa_cons (pe_gfn (by rfl) H.c_Group (by rfl)) pa_nil (by rfl)) (by rfl)) (by rfl) (by rfl) (by rfl)) (fun _ => rfl)))) (pe_att (k := 0) (pe_var (by rfl) (visOf (by rfl)) (by rfl) (by rfl)) (attF ⟨H.k_User, H.na_User_name⟩ (attF ⟨H.k_Group, H.na_Group_name⟩ attN)) (r.mono (by first | decide | omega)) (by rfl))) (fun _ => rfl)) pa_nil (by rfl)) (by rfl) (by rfl) (by rfl)) (by rfl)) (pss_cons (ps_if (PW.pt (pw_or (pt_cmp (op_ne (Roomy.of r)) (pe_att (k := 36) (pe_var (by rfl) (visOf (by rfl)) (by rfl) (by rfl)) (attP H.p_Tree_users ((ok_Tree_users H).mono (by first | decide | omega)) attN) (r.mono (by first | decide | omega)) (by rfl)) (pe_bltT blt_tuple (by rfl) H.n_tuple (by rfl) (by decide) (pa_cons (pe_var (by rfl) (visOf (by rfl)) (by rfl) (by rfl)) pa_nil (by rfl)) (by rfl) (by rfl) (by rfl)) (by rfl)) (pw_or (pt_cmp (op_ne (Roomy.of r)) (pe_att (k := 3) (pe_var (by rfl) (visOf (by rfl)) (by rfl) (by rfl)) (attP H.p_Tree_groups ((ok_Tree_groups H).mono (by first | decide | omega)) attN) (r.mono (by first | decide | omega)) (by rfl)) (pe_bltT blt_tuple (by rfl) H.n_tuple (by rfl) (by decide) (pa_cons (pe_var (by rfl) (visOf (by rfl)) (by rfl) (by rfl)) pa_nil (by rfl)) (by rfl) (by rfl) (by rfl)) (by rfl)) (pw_or1 (pt_cmp (op_ne (Roomy.of r)) (pe_lenO (metC ⟨H.k_Tree, H.me_Tree___len__⟩ (ok_Tree___len__ H) metN) (r.mono (by first | decide | omega)) (by rfl) H.n_len (pa_cons (pe_var (by rfl) (visOf (by rfl)) (by rfl) (by rfl)) pa_nil (by rfl)) (by rfl)) (pe_bltB blt_len (by rfl) H.n_len (by rfl) (by decide) (pa_cons (pe_var (by rfl) (visOf (by rfl)) (by rfl) (by rfl)) pa_nil (by rfl)) (by rfl) (by rfl) (by rfl)) (by rfl)))))) (pss_cons (ps_ret pe_bl) pss_nil) pss_nil) (pss_cons (ps_if (PW.pt (pw_or (pt_cmp (op_ne (Roomy.of r)) (pe_att (k := 33) (pe_att (k := 3) (pe_var (by rfl) (visOf (by rfl)) (by rfl) (by rfl)) (attP H.p_Tree_root ((ok_Tree_root H).mono (by first | decide | omega)) attN) (r.mono (by first | decide | omega)) (by rfl)) (attP H.p_User_members ((ok_Node_members H).mono (by first | decide | omega)) (attP H.p_Group_members ((ok_Group_members H 10).mono (by first | decide | omega)) attN)) (r.mono (by first | decide | omega)) (by rfl)) (pe_att (k := 36) (pe_var (by rfl) (visOf (by rfl)) (by rfl) (by rfl)) (attP H.p_Tree_users ((ok_Tree_users H).mono (by first | decide | omega)) attN) (r.mono (by first | decide | omega)) (by rfl)) (by rfl)) (pw_or (pt_cmp (op_ne (Roomy.of r)) (pe_att (k := 3) (pe_att (k := 3) (pe_var (by rfl) (visOf (by rfl)) (by rfl) (by rfl)) (attP H.p_Tree_root ((ok_Tree_root H).mono (by first | decide | omega)) attN) (r.mono (by first | decide | omega)) (by rfl)) (attP H.p_User_depth ((ok_Node_depth H).mono (by first | decide | omega)) (attP H.p_Group_depth ((ok_Node_depth H).mono (by first | decide | omega)) attN)) (r.mono (by first | decide | omega)) (by rfl)) pe_int (by rfl)) (pw_or1 (pt_cmp (op_ne (Roomy.of r)) (pe_att (k := 0) (pe_ix (pe_var (by rfl) (visOf (by rfl)) (by rfl) (by rfl)) pe_int (fun _ _ => rfl)) (attF ⟨H.k_User, H.na_User_name⟩ (attF ⟨H.k_Group, H.na_Group_name⟩ attN)) (r.mono (by first | decide | omega)) (by rfl)) (pe_att (k := 0) (pe_att (k := 3) (pe_var (by rfl) (visOf (by rfl)) (by rfl) (by rfl)) (attP H.p_Tree_root ((ok_Tree_root H).mono (by first | decide | omega)) attN) (r.mono (by first | decide | omega)) (by rfl)) (attF ⟨H.k_User, H.na_User_name⟩ (attF ⟨H.k_Group, H.na_Group_name⟩ attN)) (r.mono (by first | decide | omega)) (by rfl)) (by rfl)))))) (pss_cons (ps_ret pe_bl) pss_nil) pss_nil) (pss_cons (ps_if (pt_not (pt_plain (pe_bltB blt_all (by rfl) H.n_all (by rfl) (by decide) (pa_cons (pe_lcG false (pi_seq (pe_var (by rfl) (visOf (by rfl)) (by rfl) (by rfl))) (Blk.of (by rfl)) (cells_fn (by rfl)) (fun cl C => run1 (PG.r (pg_name (by rfl) (locOf (by rfl)))) pts_nil (pe_callF (ok__law_user_right H) (r.mono (by first | decide | omega)) (by rfl) (pa_cons (pe_var (by rfl) (visOf (by rfl)) (by rfl) (by rfl)) (pa_cons (pe_var (by rfl) (visOf (by rfl)) (by rfl) (by rfl)) (pa_cons (pe_var (by rfl) (visOf (by rfl)) (by rfl) (by rfl)) pa_nil (by rfl)) (by rfl)) (by rfl)) (by rfl) (by rfl) (by rfl))) (fun _ => rfl)) pa_nil (by rfl)) (by rfl) (by rfl) (by rfl)) (fun _ => rfl))) (pss_cons (ps_ret pe_bl) pss_nil) pss_nil) (pss_cons (ps_ret (pe_bltB blt_all (by rfl) H.n_all (by rfl) (by decide) (pa_cons (pe_lcG false (pi_seq (pe_var (by rfl) (visOf (by rfl)) (by rfl) (by rfl))) (Blk.of (by rfl)) (cells_fn (by rfl)) (fun cl C => run1 (PG.r (pg_name (by rfl) (locOf (by rfl)))) (pts_one (pt_plain (pe_bltB (blt_isi H.isi) (by rfl) H.n_isinstance (by rfl) (by decide) (pa_cons (pe_var (by rfl) (visOf (by rfl)) (by rfl) (by rfl)) (pa_cons (pe_gfn (by rfl) H.c_Group (by rfl)) pa_nil (by rfl)) (by rfl)) (by rfl) (by rfl) (by rfl)) (fun _ => rfl))) (pe_callF (ok__law_group_right H) (r.mono (by first | decide | omega)) (by rfl) (pa_cons (pe_var (by rfl) (visOf (by rfl)) (by rfl) (by rfl)) pa_nil (by rfl)) (by rfl) (by rfl) (by rfl))) (fun _ => rfl)) pa_nil (by rfl)) (by rfl) (by rfl) (by rfl))) pss_nil))))))))
noncomputable def b_law (ad : Ad) : SS := (sCons (sRet (eBlt bAll (aCons (eLC false [1] (iRng1 (aCons (eBlt bMax (aCons (eC (.int 2)) (aCons (eBlt bMin (aCons (eBlt bLen (aCons (eVar 0) aNil)) (aCons (eC (.int 5)) aNil))) aNil))) aNil)) (lc1 (gName 1) tYes (eCall (f__law_right ad) [] (aCons (eCall (f__law_pool ad) [] (aCons (eCall (f__law_cell ad) [] (aCons (eVar 0) (aCons (eVar 1) aNil))) aNil)) aNil)))) aNil))) sNil)
noncomputable def f_law (ad : Ad) : SF := fnS false 1 2 (b_law ad)
theorem ok_law {S : Stat} {ad : Ad} (H : Facts S ad) : FnK S 47 "law" (f_law ad) := fnK_of (N := ["_law_script", "_law_k"]) (ps := ["_law_script"]) (k := 46) H.d_law ⟨by rfl, by rfl, by rfl, by decide +kernel, by rfl, by decide +kernel, by decide +kernel⟩ (fun _ _ _ _ _ _ us hl => match us, hl with | [_], _ => rfl) fun A L f cd hr => by
  have r : Rm 45 (cxFn S ["_law_script", "_law_k"] "law" (L2.defScope (top 48)) L f cd A).A := hr.deeper _
  exact (pss_cons (ps_ret (pe_bltB blt_all (by rfl) H.n_all (by rfl) (by decide) (pa_cons (pe_lcG false (pi_range1 (by rfl) H.n_range (pa_cons (pe_bltB blt_max (by rfl) H.n_max (by rfl) (by decide) (pa_cons pe_int (pa_cons (pe_bltB blt_min (by rfl) H.n_min (by rfl) (by decide) (pa_cons (pe_bltB blt_len (by rfl) H.n_len (by rfl) (by decide) (pa_cons (pe_var (by rfl) (visOf (by rfl)) (by rfl) (by rfl)) pa_nil (by rfl)) (by rfl) (by rfl) (by rfl)) (pa_cons pe_int pa_nil (by rfl)) (by rfl)) (by rfl) (by rfl) (by rfl)) pa_nil (by rfl)) (by rfl)) (by rfl) (by rfl) (by rfl)) pa_nil (by rfl)) (by rfl)) (Blk.of (by rfl)) (cells_fn (by rfl)) (fun cl C => run1 (PG.r (pg_name (by rfl) (locOf (by rfl)))) pts_nil (pe_callF (ok__law_right H) (r.mono (by first | decide | omega)) (by rfl) (pa_cons (pe_callF (ok__law_pool H) (r.mono (by first | decide | omega)) (by rfl) (pa_cons (pe_callF (ok__law_cell H) (r.mono (by first | decide | omega)) (by rfl) (pa_cons (pe_var (by rfl) (visOf (by rfl)) (by rfl) (by rfl)) (pa_cons (pe_var (by rfl) (visOf (by rfl)) (by rfl) (by rfl)) pa_nil (by rfl)) (by rfl)) (by rfl) (by rfl) (by rfl)) pa_nil (by rfl)) (by rfl) (by rfl) (by rfl)) pa_nil (by rfl)) (by rfl) (by rfl) (by rfl))) (fun _ => rfl)) pa_nil (by rfl)) (by rfl) (by rfl) (by rfl))) pss_nil)
end Qo
-- M1
set_option maxRecDepth 100000
set_option maxHeartbeats 1000000
namespace Qo
open PySem
structure IsF (ad : Ad) : Prop where
  i0 : ad.it (.ty "int") (.ty "int") = some true
  i1 : ad.it (.ty "int") (.ty "bool") = some false
  i2 : ad.it (.ty "str") (.ty "str") = some true
  i3 : ad.it (.ty "tuple") (.ty "tuple") = some true
  i4 : ad.it (.own ad.User) (.own ad.Group) = some false
  i5 : ad.it (.own ad.Group) (.own ad.Group) = some true
  i6 : ad.it (.own ad.Tree) (.own ad.Tree) = some true
  dis : ad.User ≠ ad.Group ∧ ad.Tree ≠ ad.Group ∧ ad.Tree ≠ ad.User
/-- the cells stand by themselves -/
def Clo (hs : Hs) : Prop := hs.all (fun c => cloC hs.length c.2) = true
section
variable {σ : St} {hs : Hs} {a b : SE} {d : D}
@[simp] theorem x_C : eC d σ hs = .ok d hs := rfl
@[simp] theorem x_Var {i : Nat} : eVar i σ hs = match σ[i]? with | some (some d) => .ok d hs | _ => .bad := rfl
@[simp] theorem x_Op {f : D → D → Hs → Res D} : eOp f a b σ hs = (a σ hs).bind fun x h => (b σ h).bind fun y h => f x y h := rfl
@[simp] theorem x_And : eAnd a b σ hs = (a σ hs).bind fun x h => (truR x h).bind fun c h => if c = true then b σ h else .ok x h := rfl
@[simp] theorem x_Or : eOr a b σ hs = (a σ hs).bind fun x h => (truR x h).bind fun c h => if c = true then .ok x h else b σ h := rfl
@[simp] theorem x_Not : eNot a σ hs = (a σ hs).bind fun x h => (truR x h).bind fun c h => .ok (.bl (!c)) h := rfl
@[simp] theorem x_If {t : ST} : eIf t a b σ hs = (t σ hs).bind fun c h => if c = true then a σ h else b σ h := rfl
@[simp] theorem x_Nil : aNil σ hs = .ok [] hs := rfl
@[simp] theorem x_Cons {m : SA} : aCons a m σ hs = (a σ hs).bind fun x h => (m σ h).bind fun xs h => .ok (x :: xs) h := rfl
@[simp] theorem x_Blt {f : SF} {m : SA} : eBlt f m σ hs = (m σ hs).bind fun ds h => f ds h := rfl
@[simp] theorem x_Call {f : SF} {dd : List D} {m : SA} : eCall f dd m σ hs = (m σ hs).bind fun ds h => f (ds ++ dd) h := rfl
@[simp] theorem x_Tup {m : SA} : eTup m σ hs = (m σ hs).bind fun xs h => mkT xs h := rfl
@[simp] theorem x_Lst {c : Bool} {m : SA} : eLst c m σ hs = (m σ hs).bind fun xs h => mkL c xs h := rfl
@[simp] theorem t_Of : tOf a σ hs = (a σ hs).bind fun d h => truR d h := rfl
@[simp] theorem t_And {t u : ST} : tAnd t u σ hs = (t σ hs).bind fun c h => if c = true then u σ h else .ok false h := rfl
@[simp] theorem t_Or {t u : ST} : tOr t u σ hs = (t σ hs).bind fun c h => if c = true then .ok true h else u σ h := rfl
@[simp] theorem t_Not {t : ST} : tNot t σ hs = (t σ hs).bind fun c h => .ok (!c) h := rfl
@[simp] theorem t_bl {c : Bool} : truR (.bl c) hs = .ok c hs := rfl
@[simp] theorem t_non : truR .non hs = .ok false hs := rfl
@[simp] theorem t_int {i : Int} : truR (.int i) hs = .ok (i != 0) hs := rfl
@[simp] theorem u_Nil : sNil σ hs = .ok (.nx, σ) hs := rfl
@[simp] theorem u_Ret : sRet a σ hs = (a σ hs).bind fun d h => .ok (.rt d, σ) h := rfl
@[simp] theorem u_If {t : ST} {p q : SS} : sIf t p q σ hs = (t σ hs).bind fun c h => if c = true then p σ h else q σ h := rfl
@[simp] theorem u_Asg {g : SG} : sAsg a g σ hs = (a σ hs).bind fun d h => (g d σ h).bind fun σ1 h => .ok (.nx, σ1) h := rfl
@[simp] theorem g_Name {i : Nat} : gName i d σ hs = .ok (σ.set i (some d)) hs := rfl
@[simp] theorem v_start {n : Nat} {ds : List D} : startS n ds = ds.map some ++ List.replicate (n - ds.length) none := rfl
@[simp] theorem u_Cons {p q : SS} : sCons p q σ hs = (p σ hs).bind fun r h => match r.1 with | .nx => q r.2 h | _ => .ok r h := by
  unfold sCons
  cases p σ hs with
  | ok r h => obtain ⟨fl, σ'⟩ := r; cases fl <;> rfl
  | exc x h => rfl
  | bad => rfl
end
theorem fin_at {hs : Hs} {d : D} (h : Clo hs) (w : frz hs hs.length d = some d) : finR false hs.length d hs = .ok d hs := by
  unfold finR
  rw [if_neg Bool.false_ne_true, w]
  simp only [List.take_length]
  exact grd_pos h
@[simp] theorem frz_bl {hs : Hs} {b : Nat} {x : Bool} : frz hs b (.bl x) = some (.bl x) := rfl
@[simp] theorem frz_int {hs : Hs} {b : Nat} {x : Int} : frz hs b (.int x) = some (.int x) := rfl
@[simp] theorem frz_non {hs : Hs} {b : Nat} : frz hs b .non = some .non := rfl
@[simp] theorem frz_str {hs : Hs} {b : Nat} {x : Str} : frz hs b (.str x) = some (.str x) := rfl
theorem fin_bl {hs : Hs} {x : Bool} (h : Clo hs) : finR false hs.length (.bl x) hs = .ok (.bl x) hs := fin_at h rfl
theorem fin_int {hs : Hs} {x : Int} (h : Clo hs) : finR false hs.length (.int x) hs = .ok (.int x) hs := fin_at h rfl
theorem fin_non {hs : Hs} (h : Clo hs) : finR false hs.length .non hs = .ok .non hs := fin_at h rfl
theorem fin_str {hs : Hs} {x : Str} (h : Clo hs) : finR false hs.length (.str x) hs = .ok (.str x) hs := fin_at h rfl
@[simp] theorem eq_int {n : Bool} {i j : Int} {hs : Hs} : dEq n (.int i) (.int j) hs = .ok (.bl (n != decide (i = j))) hs := by
  have e : (PyData.int i).eqv (PyData.int j) = decide (i = j) := by
    by_cases h : i = j
    · subst h; simp [PyData.eqv]
    · simp [PyData.eqv, h]
  show grd (okPy (.int i) = true ∧ okPy (.int j) = true) _ = _
  rw [grd_pos ⟨rfl, rfl⟩, e]
@[simp] theorem lt_int {c : Cmp} {i j : Int} {hs : Hs} : dCmp c (.int i) (.int j) hs = .ok (.bl (cmpI c i j)) hs := rfl
section
variable {ad : Ad} (I : IsF ad) {hs : Hs} (C : Clo hs)
include I C
theorem s_is_whole {i : Int} : f_is_whole ad [.int i] hs = .ok (.bl true) hs := by
  simp [f_is_whole, b_is_whole, fnS, grd, bIsi, tyN, clsN, I.i0, I.i1, fin_bl C]
theorem s_is_from {i j : Int} : f_is_from ad [.int i, .int j] hs = .ok (.bl (decide (j ≤ i))) hs := by
  simp [f_is_from, b_is_from, fnS, grd, s_is_whole I C, cmpI, fin_bl C]
theorem s_is_limit_n : f_is_limit ad [.non] hs = .ok (.bl true) hs := by
  simp [f_is_limit, b_is_limit, fnS, grd, dIs, isNon, fin_bl C]
theorem s_is_limit_i {i : Int} (h : 0 ≤ i) : f_is_limit ad [.int i] hs = .ok (.bl true) hs := by
  simp [f_is_limit, b_is_limit, fnS, grd, dIs, isNon, fin_bl C, s_is_from I C, h]
theorem s_is_group {xs : List D} : f_is_group ad [.tup xs] hs = .ok (.bl (decide ((xs.length : Int) = 3))) hs := by
  simp [f_is_group, b_is_group, fnS, grd, bLen, dLen, fin_bl C]
end
end Qo
-- M2
set_option maxRecDepth 100000
set_option maxHeartbeats 1000000
namespace Qo
open PySem
/-- the pool -/
def c3 (t : Int × Int × Int) : Bool × Cell := (false, .lst [.int t.1, .int t.2.1, .int t.2.2])
@[simp] theorem x_sub {mo mi : SE} {v : D} {σ : St} {hs : Hs} : gSub mo mi v σ hs = (mo σ hs).bind fun o h => (mi σ h).bind fun i h => (setC o i v h).bind fun _ h => .ok σ h := rfl
@[simp] theorem ix_ref {p : Nat} {i : Int} {hs : Hs} : dIx (.ref p) (.int i) hs = match asL hs (.ref p) with | some xs => (match atI xs i with | some d => .ok d hs | none => .bad) | none => .bad := rfl
@[simp] theorem add_int {c : Bool} {i j : Int} {hs : Hs} : dAdd c (.int i) (.int j) hs = .ok (.int (i + j)) hs := rfl
@[simp] theorem sub_int {i j : Int} {hs : Hs} : dSub (.int i) (.int j) hs = .ok (.int (i - j)) hs := rfl
theorem mul_int {c : Bool} {i j : Int} {hs : Hs} (h : mulOk i j) : dMul c (.int i) (.int j) hs = .ok (.int (i * j)) hs := grd_pos h
theorem mod_int {i j : Int} {hs : Hs} (h : 0 < j) : dMod (.int i) (.int j) hs = .ok (.int (i % j)) hs := grd_pos h
theorem fdiv_int {i j : Int} {hs : Hs} (h : dvOk j) : dFdiv (.int i) (.int j) hs = .ok (.int (i / j)) hs := grd_pos h
@[simp] theorem g_tup {n : Nat} {g : SGs} {xs : List D} {σ : St} {hs : Hs} : gTup n g (.tup xs) σ hs = grd (xs.length = n) (g xs σ hs) := rfl
@[simp] theorem g_cons {a : SG} {b : SGs} {d : D} {ds : List D} {σ : St} {hs : Hs} : gCons a b (d :: ds) σ hs = (a d σ hs).bind fun σ1 h => b ds σ1 h := rfl
@[simp] theorem g_nil {σ : St} {hs : Hs} : gNil [] σ hs = .ok σ hs := rfl
theorem clo_set {hs : Hs} {p : Nat} {t : Int × Int × Int} (C : Clo hs) : Clo (hs.set p (c3 t)) := by
  unfold Clo at *
  rw [List.length_set, List.all_eq_true] at *
  intro x hx
  rcases List.mem_or_eq_of_mem_set hx with h | h
  · exact C x h
  · subst h; rfl
theorem fin_set {hs : Hs} {p : Nat} {t : Int × Int × Int} {x : Int} (C : Clo hs) : finR false hs.length (.int x) (hs.set p (c3 t)) = .ok (.int x) (hs.set p (c3 t)) := by
  have := fin_int (x := x) (clo_set (p := p) (t := t) C)
  rw [List.length_set] at this
  exact this
/-- a draw -/
def mixA (t : Int × Int × Int) : Int := (t.1 * (t.1 % 46007 + 20011) + 60013 * (t.2.2 + 1) + 5) % 1000000007
def drawn (m : Int) (t : Int × Int × Int) : Int × Int × Int × Int := if 0 < t.2.1 then (t.2.1 % m, mixA t, t.2.1 / m, t.2.2 + 1) else (mixA t / 32 % m, mixA t, t.2.1, t.2.2 + 1)
theorem s_draw' {ad : Ad} {hs : Hs} {p : Nat} {t : Int × Int × Int} {m : Int} (C : Clo hs) (hp : hs[p]? = some (c3 t)) (hm : dvOk m) : f__law_draw ad [.ref p, .int m] hs = .ok (.int (drawn m t).1) (hs.set p (c3 (drawn m t).2)) := by
  obtain ⟨a, b, c⟩ := t
  have m0 : 0 < m := hm.1
  have lt : p < hs.length := (List.getElem?_eq_some_iff.mp hp).1
  have hst : ∀ x : Bool × Cell, (hs.set p x)[p]? = some x := fun x => List.getElem?_set_self lt
  have hl : ∀ x : Bool × Cell, (hs.set p x).length = hs.length := fun x => List.length_set
  clear lt
  have k1 : mulOk a (a % 46007 + 20011) := .inl (.inr (by omega))
  have k2 : ∀ i, mulOk 60013 i := fun i => .inl (.inl (by decide))
  have k3 : dvOk 32 := by decide
  by_cases hb : 0 < b
  · have e : drawn m (a, b, c) = (b % m, mixA (a, b, c), b / m, c + 1) := if_pos hb
    rw [e]
    have F := fin_set (p := p) (t := (mixA (a, b, c), b / m, c + 1)) (x := b % m) C
    simp only [c3, mixA] at F
    simp only [c3] at hp
    simp [-List.getElem?_set, -List.getElem?_eq_getElem, f__law_draw, b__law_draw, fnS, grd, asL, hp, hst, c3, L2.atI, setC, L2.ixN, mul_int k1, mul_int (k2 _), mod_int, cmpI, hb, bDivmod, hm, mixA, F]
  · have e : drawn m (a, b, c) = (mixA (a, b, c) / 32 % m, mixA (a, b, c), b, c + 1) := if_neg hb
    rw [e]
    have F := fin_set (p := p) (t := (mixA (a, b, c), b, c + 1)) (x := mixA (a, b, c) / 32 % m) C
    simp only [c3, mixA] at F
    simp only [c3] at hp
    simp [-List.getElem?_set, -List.getElem?_eq_getElem, f__law_draw, b__law_draw, fnS, grd, asL, hp, hst, c3, L2.atI, setC, L2.ixN, mul_int k1, mul_int (k2 _), mod_int m0, mod_int, fdiv_int k3, cmpI, hb, mixA, F]
theorem drawn_range {m : Int} {t : Int × Int × Int} (m0 : 0 < m) : 0 ≤ (drawn m t).1 ∧ (drawn m t).1 < m := by
  unfold drawn
  split
  · exact ⟨Int.emod_nonneg _ (by omega), Int.emod_lt_of_pos _ m0⟩
  · exact ⟨Int.emod_nonneg _ (by omega), Int.emod_lt_of_pos _ m0⟩
end Qo
-- M3
set_option maxRecDepth 100000
set_option maxHeartbeats 1000000
namespace Qo
open PySem
mutual
/-- no cell is named -/
def noRef : D → Bool
  | .ref _ => false
  | .tup xs => noRefs xs
  | .lst xs => noRefs xs
  | .dct _ vs => noRefs vs
  | .obj _ _ vs => noRefs vs
  | _ => true
def noRefs : List D → Bool
  | [] => true
  | d :: ds => noRef d && noRefs ds
end
mutual
theorem wk_pure {f : Nat → Option D} : ∀ d : D, noRef d = true → wk f d = some d
  | .ref _, h => by rw [noRef] at h; cases h
  | .tup xs, h => by rw [noRef] at h; rw [wk, wks_pure xs h]; rfl
  | .lst xs, h => by rw [noRef] at h; rw [wk, wks_pure xs h]; rfl
  | .dct ks vs, h => by rw [noRef] at h; rw [wk, wks_pure vs h]; rfl
  | .obj c ns vs, h => by rw [noRef] at h; rw [wk, wks_pure vs h]; rfl
  | .non, _ => by rw [wk]
  | .bl _, _ => by rw [wk]
  | .int _, _ => by rw [wk]
  | .str _, _ => by rw [wk]
  | .fn _, _ => by rw [wk]
  | .ty _, _ => by rw [wk]
theorem wks_pure {f : Nat → Option D} : ∀ ds : List D, noRefs ds = true → wks f ds = some ds
  | [], _ => by rw [wks]
  | d :: ds, h => by
    rw [noRefs, Bool.and_eq_true] at h
    rw [wks, wk_pure d h.1, wks_pure ds h.2]
end
theorem noRefs_iff : ∀ ds : List D, noRefs ds = true ↔ ∀ d ∈ ds, noRef d = true
  | [] => by simp [noRefs]
  | d :: ds => by rw [noRefs, Bool.and_eq_true, noRefs_iff ds]; simp
abbrev T3 : Type := Int × Int × Int
abbrev At (hs : Hs) (p : Nat) (t : T3) : Hs := hs.set p (c3 t)
theorem fin_pure {hs : Hs} {d : D} (C : Clo hs) (n : noRef d = true) : finR false hs.length d hs = .ok d hs := fin_at C (wk_pure d n)
section
variable {ad : Ad} {hs : Hs} {p : Nat}
theorem at_at {t u : T3} : (At hs p t).set p (c3 u) = At hs p u := List.set_set _
theorem draw_at {t : T3} {m : Int} (C : Clo hs) (lt : p < hs.length) (hm : dvOk m) : f__law_draw ad [.ref p, .int m] (At hs p t) = .ok (.int (drawn m t).1) (At hs p (drawn m t).2) := by
  have := s_draw' (ad := ad) (clo_set (p := p) (t := t) C) (List.getElem?_set_self lt) hm
  rw [at_at] at this
  exact this
end
/-! ### comprehensions -/
def runL {S : Type} (F : D → S → D × S) : List D → S → List D × S
  | [], s => ([], s)
  | d :: ds, s => ((F d s).1 :: (runL F ds (F d s).2).1, (runL F ds (F d s).2).2)
theorem runL_len {S : Type} {F : D → S → D × S} : ∀ (ds : List D) (s : S), (runL F ds s).1.length = ds.length
  | [], _ => rfl
  | d :: ds, s => by simp [runL, runL_len ds]
theorem runL_pure {f : D → D} : ∀ (ds : List D) (s : Unit), (runL (fun d s => (f d, s)) ds s).1 = ds.map f
  | [], _ => rfl
  | d :: ds, s => by simp [runL, runL_pure ds]
theorem lc_run {S : Type} {H : S → Hs} {ok : Hs → Prop} {i : Nat} {el : SE} {σ : St} {F : D → S → D × S} (hok : ∀ s, ok (H s)) : ∀ (ds : List D), (∀ d ∈ ds, ∀ s, el (σ.set i (some d)) (H s) = .ok (F d s).1 (H (F d s).2)) → ∀ (xs : List D) (σ1 : St), (∀ d, σ1.set i (some d) = σ.set i (some d)) → ∀ s : S,
    ∃ σ', lcGo ok (gName i) tYes el ds xs σ1 (H s) = .ok (xs ++ (runL F ds s).1, σ') (H (runL F ds s).2)
  | [], _, xs, σ1, _, s => ⟨σ1, by simp [lcGo, runL]⟩
  | d :: ds, he, xs, σ1, h1, s => by
    obtain ⟨σ', ih⟩ := lc_run hok ds (fun d h => he d (List.mem_cons_of_mem _ h)) (xs ++ [(F d s).1]) (σ.set i (some d)) (fun d' => List.set_set _) (F d s).2
    refine ⟨σ', ?_⟩
    rw [lcGo]
    simp only [g_Name, Res.bind_ok, h1, tYes, if_true, he d List.mem_cons_self s]
    rw [chk_pos (hok _), ih]
    simp [runL]
theorem x_LC {S : Type} {H : S → Hs} {ok : Hs → Prop} {i : Nat} {own : List Nat} {m : SI} {el : SE} {σ : St} {F : D → S → D × S} {ds : List D} {h0 : Hs} {s : S} (hm : m σ h0 = .ok (ds, ok) (H s)) (hok : ∀ s, ok (H s)) (hz : ds.length ≤ sizeLine) (he : ∀ d ∈ ds, ∀ s, el ((wipe σ own).set i (some d)) (H s) = .ok (F d s).1 (H (F d s).2)) :
    eLC false own m (lc1 (gName i) tYes el) σ h0 = .ok (.lst (runL F ds s).1) (H (runL F ds s).2) := by
  obtain ⟨σ', e⟩ := lc_run hok ds he [] (wipe σ own) (fun _ => rfl) s
  unfold eLC rawLC lc1
  rw [hm]
  simp only [Res.bind_ok]
  rw [grd_pos (by simpa using hz), e]
  simp only [Res.bind_ok, List.nil_append]
  unfold mkL
  rw [grd_pos (by rw [runL_len]; exact hz)]
  rfl
/-- the same where nothing changes -/
theorem x_LCp {ok : Hs → Prop} {i : Nat} {own : List Nat} {m : SI} {el : SE} {σ : St} {f : D → D} {ds : List D} {h0 hs : Hs} (hm : m σ h0 = .ok (ds, ok) hs) (hok : ok hs) (hz : ds.length ≤ sizeLine) (he : ∀ d ∈ ds, el ((wipe σ own).set i (some d)) hs = .ok (f d) hs) :
    eLC false own m (lc1 (gName i) tYes el) σ h0 = .ok (.lst (ds.map f)) hs := by
  have := x_LC (S := Unit) (H := fun _ => hs) (F := fun d s => (f d, s)) (s := ()) hm (fun _ => hok) hz (fun d h _ => he d h)
  rw [runL_pure] at this
  exact this
theorem at_in {α : Type} {xs : List α} {i : Int} (h0 : 0 ≤ i) (h1 : i < xs.length) : ∃ h : i.toNat < xs.length, L2.atI xs i = some xs[i.toNat] := by
  have h : i.toNat < xs.length := by omega
  refine ⟨h, ?_⟩
  unfold L2.atI L2.ixN
  rw [if_pos h0, if_pos h1]
  simp
end Qo
-- M4
set_option maxRecDepth 100000
set_option maxHeartbeats 1000000
namespace Qo
open PySem
theorem fin_at2 {hs : Hs} {p : Nat} {t : T3} {d : D} (C : Clo hs) (n : noRef d = true) : finR false hs.length d (At hs p t) = .ok d (At hs p t) := by
  have := fin_pure (clo_set (p := p) (t := t) C) n
  rw [List.length_set] at this
  exact this
def limD : Option Int → D
  | none => .non
  | some i => .int i
def capT (t : T3) : Option Int × T3 := if (drawn 9 t).1 < 3 then (none, (drawn 9 t).2) else if (drawn 9 t).1 = 3 then (some 0, (drawn 9 t).2) else (some (1 + (drawn 10 (drawn 9 t).2).1), (drawn 10 (drawn 9 t).2).2)
theorem capT_ok {t : T3} : ∀ i, (capT t).1 = some i → 0 ≤ i := fun i h => by
  unfold capT at h
  split at h
  · cases h
  · split at h
    · cases h; omega
    · have := (drawn_range (m := 10) (t := (drawn 9 t).2) (by omega)).1
      cases h; omega
section
variable {ad : Ad} {hs : Hs} {p : Nat} (C : Clo hs) (lt : p < hs.length)
include C lt
theorem s_big {t : T3} : f__law_big ad [.ref p, .int 9] (At hs p t) = .ok (.int (drawn 10 t).1) (At hs p (drawn 10 t).2) := by
  have h := draw_at (ad := ad) (t := t) (m := 10) C lt (by decide)
  have f := fin_at2 (p := p) (t := (drawn 10 t).2) (d := .int (drawn 10 t).1) C rfl
  simp only [At] at h f
  simp [f__law_big, b__law_big, fnS, grd, cmpI, h, f]
theorem s_cap {t : T3} : f__law_cap ad [.ref p, .int 9] (At hs p t) = .ok (limD (capT t).1) (At hs p (capT t).2) := by
  have h := draw_at (ad := ad) (t := t) (m := 9) C lt (by decide)
  have b := s_big (ad := ad) C lt (t := (drawn 9 t).2)
  have f := fun (u : T3) (x : Int) => fin_at2 (p := p) (t := u) (d := .int x) C rfl
  have f0 := fun (u : T3) => fin_at2 (p := p) (t := u) (d := .non) C rfl
  simp only [At] at h b f f0
  by_cases h1 : (drawn 9 t).1 < 3
  · simp [f__law_cap, b__law_cap, fnS, grd, cmpI, h, h1, capT, limD, f0]
  · by_cases h2 : (drawn 9 t).1 = 3
    · simp [f__law_cap, b__law_cap, fnS, grd, cmpI, h, h1, h2, capT, limD, f]
    · simp [f__law_cap, b__law_cap, fnS, grd, cmpI, h, h1, h2, capT, limD, f, b]
end
end Qo
-- M5
set_option maxRecDepth 100000
set_option maxHeartbeats 1000000
namespace Qo
open PySem
abbrev abc : Str := "abcdefghijklmnopqrstuvwxyz"
/-- a name -/
def NameOk (x : Str) : Prop := 0 < x.cps.toList.length ∧ x.cps.toList.length < 9 ∧ ∀ c ∈ x.cps.toList, c ∈ abc.cps.toList
theorem in_abc : ∀ c ∈ abc.cps.toList, inS ⟨#[c]⟩ abc = true := by decide +kernel
theorem bls_true {α : Type} : ∀ xs : List α, blsOf (xs.map fun _ => D.bl true) = some (xs.map fun _ => true)
  | [] => rfl
  | x :: xs => by simp [blsOf, bls_true xs]
theorem s_is_name {ad : Ad} (I : IsF ad) {hs : Hs} (C : Clo hs) {x : Str} (h : NameOk x) : f_is_name ad [.str x] hs = .ok (.bl true) hs := by
  obtain ⟨h1, h2, h3⟩ := h
  have hl : x.length = x.cps.toList.length := by simp [Str.length]
  have e : eLC false [1] (iSeq (eVar 0)) (lc1 (gName 1) tYes (eOp (dIn false) (eVar 1) (eC (.str "abcdefghijklmnopqrstuvwxyz")))) [some (.str x), none] hs = .ok (.lst ((chars x).map fun _ => .bl true)) hs := by
    refine x_LCp (ok := fun _ => True) (by simp [iSeq]) trivial (by rw [sizeLine_eq, chars, List.length_map]; omega) fun d hd => ?_
    obtain ⟨c, hc, rfl⟩ := List.mem_map.mp hd
    simp [wipe, dIn, in_abc c (h3 c hc)]
  have z : x.cps.size ≤ sizeLine := by rw [sizeLine_eq]; simp at h2; omega
  have c1 : 0 < x.cps.size := by simpa using h1
  have c2 : (x.cps.size : Int) < 9 := by simp only [Array.length_toList] at h2; omega
  have c3' : x.cps.size < 9 := by simpa using h2
  have b := bls_true (chars x)
  have f := fin_bl (x := true) C
  have a : ((chars x).all fun _ => true) = true := by simp
  simp [f_is_name, b_is_name, fnS, grd, bIsi, tyN, clsN, I.i2, eChain, bLen, dLen, z, cmpI, hl, c1, c2, c3', e, bAll, asL, b, a, f]
end Qo
-- M6
set_option maxRecDepth 100000
set_option maxHeartbeats 1000000
namespace Qo
open PySem
/-! ### == and in, of texts -/
abbrev sD (xs : List Str) : List D := xs.map D.str
theorem toPys_s : ∀ xs : List Str, toPys (sD xs) = some (xs.map PyData.str)
  | [] => rfl
  | x :: xs => by
    show toPys (.str x :: sD xs) = _
    simp only [toPys, toPy, toPys_s xs, List.map_cons]
theorem toPys_i : ∀ xs : List Int, toPys (xs.map D.int) = some (xs.map PyData.int)
  | [] => rfl
  | x :: xs => by
    show toPys (.int x :: xs.map D.int) = _
    simp only [toPys, toPy, toPys_i xs, List.map_cons]
theorem depS : ∀ xs : List Str, PyData.depthAll (xs.map PyData.str) = 0
  | [] => by simp [PyData.depthAll]
  | x :: xs => by simp [PyData.depthAll, PyData.depth, depS xs]
/-- texts -/
def SOk (xs : List Str) : Prop := ∀ x ∈ xs, PyData.strOk x = true
theorem strOk_of {x : Str} (h : NameOk x) : PyData.strOk x = true := by
  have a : ∀ c ∈ abc.cps.toList, c < 0x110000 := by decide +kernel
  unfold PyData.strOk
  rw [← Array.all_toList, List.all_eq_true]
  intro c hc
  simpa using a c (h.2.2 c hc)
theorem SOk.of {xs : List Str} (h : ∀ x ∈ xs, NameOk x) : SOk xs := fun x hx => strOk_of (h x hx)
theorem layS : ∀ xs : List Str, SOk xs → PyData.canLayAll0 (xs.map PyData.str) = true
  | [], _ => by simp [PyData.canLayAll0]
  | x :: xs, h => by
    have h1 := h x List.mem_cons_self
    have h2 := layS xs fun y hy => h y (List.mem_cons_of_mem _ hy)
    simp [PyData.canLayAll0, PyData.canLay0, h1, h2]
theorem depI : ∀ xs : List Int, PyData.depthAll (xs.map PyData.int) = 0
  | [] => by simp [PyData.depthAll]
  | x :: xs => by simp [PyData.depthAll, PyData.depth, depI xs]
theorem layI : ∀ xs : List Int, PyData.canLayAll0 (xs.map PyData.int) = true
  | [] => by simp [PyData.canLayAll0]
  | x :: xs => by simp [PyData.canLayAll0, PyData.canLay0, layI xs]
theorem okS {xs : List Str} (h : SOk xs) : okPy (.tuple (xs.map PyData.str)) = true := by simp [okPy, SeqAt.shaped, PyData.canLay0, PyData.depth, depS, layS xs h]
theorem okSl {xs : List Str} (h : SOk xs) : okPy (.list (xs.map PyData.str)) = true := by simp [okPy, SeqAt.shaped, PyData.canLay0, PyData.depth, depS, layS xs h]
theorem okI (xs : List Int) : okPy (.tuple (xs.map PyData.int)) = true := by simp [okPy, SeqAt.shaped, PyData.canLay0, PyData.depth, depI, layI]
theorem ok1 {x : Str} (h : PyData.strOk x = true) : okPy (.str x) = true := by simp [okPy, SeqAt.shaped, PyData.canLay0, PyData.depth, h]
theorem eq_strs {n : Bool} {xs ys : List Str} {hs : Hs} (hx : SOk xs) (hy : SOk ys) : dEq n (.tup (sD xs)) (.tup (sD ys)) hs = .ok (.bl (n != decide (xs = ys))) hs := by
  have e : (PyData.tuple (xs.map .str)).eqv (.tuple (ys.map .str)) = decide (xs = ys) := by rw [PyData.eqv]; exact PySem.W.eqvAll_map xs ys
  unfold dEq
  simp only [pyOf, toPy, toPys_s, Option.map_some]
  rw [grd_pos ⟨okS hx, okS hy⟩, e]
theorem eq_ints {n : Bool} {xs ys : List Int} {hs : Hs} : dEq n (.tup (xs.map D.int)) (.tup (ys.map D.int)) hs = .ok (.bl (n != decide (xs = ys))) hs := by
  have e : (PyData.tuple (xs.map .int)).eqv (.tuple (ys.map .int)) = decide (xs = ys) := by rw [PyData.eqv]; exact PySem.W.eqvAll_map xs ys
  unfold dEq
  simp only [pyOf, toPy, toPys_i, Option.map_some]
  rw [grd_pos ⟨okI xs, okI ys⟩, e]
theorem eq_str {n : Bool} {x y : Str} {hs : Hs} (hx : PyData.strOk x = true) (hy : PyData.strOk y = true) : dEq n (.str x) (.str y) hs = .ok (.bl (n != decide (x = y))) hs := by
  unfold dEq
  simp only [pyOf, toPy]
  rw [grd_pos ⟨ok1 hx, ok1 hy⟩]
  have e : (PyData.str x).eqv (.str y) = decide (x = y) := PySem.W.Datum.eqv x y
  rw [e]
@[simp] theorem eq_bool {n : Bool} {x y : Bool} {hs : Hs} : dEq n (.bl x) (.bl y) hs = .ok (.bl (n != decide (x = y))) hs := by
  unfold dEq
  simp only [pyOf, toPy]
  rw [grd_pos ⟨by rfl, by rfl⟩]
  have e : (PyData.bool x).eqv (.bool y) = decide (x = y) := PySem.W.Datum.eqv x y
  rw [e]
theorem any_s (xs : List Str) (x : Str) : ((xs.map PyData.str).any fun b => b.eqv (.str x)) = decide (x ∈ xs) := PySem.W.any_datum xs x
theorem in_strs {n : Bool} {x : Str} {xs : List Str} {hs : Hs} (hx : PyData.strOk x = true) (hxs : SOk xs) : dIn n (.str x) (.tup (sD xs)) hs = .ok (.bl (n != decide (x ∈ xs))) hs := by
  unfold dIn
  simp only [pyOf, toPy, toPys_s, Option.map_some]
  rw [grd_pos ⟨ok1 hx, okS hxs⟩, any_s]
theorem in_cell {n b : Bool} {x : Str} {xs : List Str} {i : Nat} {hs : Hs} (hx : PyData.strOk x = true) (hxs : SOk xs) (h : hs[i]? = some (b, .lst (sD xs))) : dIn n (.str x) (.ref i) hs = .ok (.bl (n != decide (x ∈ xs))) hs := by
  unfold dIn
  simp only [pyOf, toPy, h, toPys_s, Option.map_some]
  rw [grd_pos ⟨ok1 hx, okSl hxs⟩, any_s]
theorem strs_s : ∀ xs : List Str, strsOf (sD xs) = some xs
  | [] => rfl
  | x :: xs => by
    show (strsOf (sD xs)).map (x :: ·) = _
    rw [strs_s xs]; rfl
/-! ### the order of texts -/
theorem str_ext {x y : Str} (h : x.cps.toList = y.cps.toList) : x = y := by
  cases x; cases y
  simp only at h
  rw [Array.toList_inj] at h
  rw [h]
theorem sortS_perm {xs : List Str} : (sortS xs).Perm xs := List.mergeSort_perm _ _
theorem leS_tr : ∀ a b c : Str, leS a b = true → leS b c = true → leS a c = true := fun a b c h1 h2 => by
  simp only [leS, decide_eq_true_eq] at *
  exact List.le_trans h1 h2
theorem leS_tot : ∀ a b : Str, (leS a b || leS b a) = true := fun a b => by
  simp only [leS, Bool.or_eq_true, decide_eq_true_eq]
  exact List.le_total _ _
theorem sortS_eq {xs ys : List Str} (h : xs.Perm ys) : sortS xs = sortS ys := by
  have p : (sortS xs).Perm (sortS ys) := (sortS_perm.trans h).trans sortS_perm.symm
  refine List.Perm.eq_of_pairwise (le := fun a b => leS a b = true) ?_ (List.pairwise_mergeSort leS_tr leS_tot xs) (List.pairwise_mergeSort leS_tr leS_tot ys) p
  intro a b _ _ h1 h2
  simp only [leS, decide_eq_true_eq] at h1 h2
  exact str_ext (List.le_antisymm h1 h2)
theorem sortS_len {xs : List Str} : (sortS xs).length = xs.length := sortS_perm.length_eq
theorem sortS_mem {xs : List Str} {x : Str} : x ∈ sortS xs ↔ x ∈ xs := sortS_perm.mem_iff
theorem b_sorted {xs : List Str} {hs : Hs} (h : xs.length < 64) : bSorted false [.lst (sD xs)] hs = .ok (.lst (sD (sortS xs))) hs := by
  unfold bSorted
  simp only [asL, strs_s]
  rw [grd_pos (by simpa using h)]
  unfold mkL
  rw [grd_pos (by rw [sizeLine_eq, List.length_map, sortS_len]; omega)]
  rfl
end Qo
-- M7
set_option maxRecDepth 100000
set_option maxHeartbeats 1000000
namespace Qo
open PySem
inductive Two (R : D → D → Prop) : List D → List D → Prop
  | nil : Two R [] []
  | cons {d x : D} {ds xs : List D} : R d x → Two R ds xs → Two R (d :: ds) (x :: xs)
theorem lc_e {P ok : Hs → Prop} {R : D → D → Prop} {i : Nat} {el : SE} {σ : St} (hok : ∀ h, P h → ok h) : ∀ (ds : List D), (∀ d ∈ ds, ∀ h, P h → ∃ x h', el (σ.set i (some d)) h = .ok x h' ∧ R d x ∧ P h') → ∀ (xs : List D) (σ1 : St), (∀ d, σ1.set i (some d) = σ.set i (some d)) → ∀ h, P h →
    ∃ ys σ' h', lcGo ok (gName i) tYes el ds xs σ1 h = .ok (xs ++ ys, σ') h' ∧ Two R ds ys ∧ P h'
  | [], _, xs, σ1, _, h, hP => ⟨[], σ1, h, by simp [lcGo], .nil, hP⟩
  | d :: ds, he, xs, σ1, h1, h, hP => by
    obtain ⟨x, h2, e1, r, hP2⟩ := he d List.mem_cons_self h hP
    obtain ⟨ys, σ', h', e2, w, hP3⟩ := lc_e hok ds (fun d hd => he d (List.mem_cons_of_mem _ hd)) (xs ++ [x]) (σ.set i (some d)) (fun d' => List.set_set _) h2 hP2
    refine ⟨x :: ys, σ', h', ?_, .cons r w, hP3⟩
    rw [lcGo]
    simp only [g_Name, Res.bind_ok, h1, tYes, if_true, e1]
    rw [chk_pos (hok _ hP2), e2]
    simp
theorem Two.len {R : D → D → Prop} {ds xs : List D} (h : Two R ds xs) : xs.length = ds.length := by
  induction h with
  | nil => rfl
  | cons _ _ ih => simp [ih]
theorem x_LCe {P ok : Hs → Prop} {R : D → D → Prop} {i : Nat} {own : List Nat} {m : SI} {el : SE} {σ : St} {ds : List D} {h0 h1 : Hs} (hm : m σ h0 = .ok (ds, ok) h1) (hP : P h1) (hok : ∀ h, P h → ok h) (hz : ds.length ≤ sizeLine) (he : ∀ d ∈ ds, ∀ h, P h → ∃ x h', el ((wipe σ own).set i (some d)) h = .ok x h' ∧ R d x ∧ P h') :
    ∃ xs h', eLC false own m (lc1 (gName i) tYes el) σ h0 = .ok (.lst xs) h' ∧ Two R ds xs ∧ P h' := by
  obtain ⟨ys, σ', h', e, w, hP2⟩ := lc_e hok ds he [] (wipe σ own) (fun _ => rfl) h1 hP
  refine ⟨ys, h', ?_, w, hP2⟩
  unfold eLC rawLC lc1
  rw [hm]
  simp only [Res.bind_ok]
  rw [grd_pos (by simpa using hz), e]
  simp only [Res.bind_ok, List.nil_append]
  unfold mkL
  rw [grd_pos (by rw [w.len]; exact hz)]
  rfl
theorem lc_f {ok : Hs → Prop} {i : Nat} {t : ST} {el : SE} {σ : St} {c : D → Bool} {f : D → D} {hs : Hs} (hok : ok hs) : ∀ (ds : List D), (∀ d ∈ ds, t (σ.set i (some d)) hs = .ok (c d) hs ∧ (c d = true → el (σ.set i (some d)) hs = .ok (f d) hs)) → ∀ (xs : List D) (σ1 : St), (∀ d, σ1.set i (some d) = σ.set i (some d)) →
    ∃ σ', lcGo ok (gName i) t el ds xs σ1 hs = .ok (xs ++ (ds.filter c).map f, σ') hs
  | [], _, xs, σ1, _ => ⟨σ1, by simp [lcGo]⟩
  | d :: ds, he, xs, σ1, h1 => by
    obtain ⟨e1, e2⟩ := he d List.mem_cons_self
    rw [lcGo]
    simp only [g_Name, Res.bind_ok, h1, e1]
    by_cases hc : c d = true
    · obtain ⟨σ', e⟩ := lc_f hok ds (fun d hd => he d (List.mem_cons_of_mem _ hd)) (xs ++ [f d]) (σ.set i (some d)) (fun d' => List.set_set _)
      refine ⟨σ', ?_⟩
      rw [if_pos hc, e2 hc, Res.bind_ok, chk_pos hok, e]
      simp [hc]
    · obtain ⟨σ', e⟩ := lc_f hok ds (fun d hd => he d (List.mem_cons_of_mem _ hd)) xs (σ.set i (some d)) (fun d' => List.set_set _)
      refine ⟨σ', ?_⟩
      rw [if_neg hc, chk_pos hok, e]
      simp [hc]
/-- a comprehension with a test, where nothing changes -/
theorem x_LCf {ok : Hs → Prop} {i : Nat} {own : List Nat} {m : SI} {t : ST} {el : SE} {σ : St} {c : D → Bool} {f : D → D} {ds : List D} {h0 hs : Hs} (hm : m σ h0 = .ok (ds, ok) hs) (hok : ok hs) (hz : ds.length ≤ sizeLine) (he : ∀ d ∈ ds, t ((wipe σ own).set i (some d)) hs = .ok (c d) hs ∧ (c d = true → el ((wipe σ own).set i (some d)) hs = .ok (f d) hs)) :
    eLC false own m (lc1 (gName i) t el) σ h0 = .ok (.lst ((ds.filter c).map f)) hs := by
  obtain ⟨σ', e⟩ := lc_f hok ds he [] (wipe σ own) (fun _ => rfl)
  unfold eLC rawLC lc1
  rw [hm]
  simp only [Res.bind_ok]
  rw [grd_pos (by simpa using hz), e]
  simp only [Res.bind_ok, List.nil_append]
  unfold mkL
  rw [grd_pos (by rw [List.length_map]; exact Nat.le_trans (List.length_filter_le _ _) hz)]
  rfl
theorem smallN {n : Nat} (l : n ≤ 1000) : smallI (n : Int) := by
  unfold smallI
  constructor
  · have := Int.natCast_nonneg n
    exact Int.le_trans (by decide) this
  · refine Int.lt_of_lt_of_le (b := 1001) ?_ (by decide)
    exact Int.ofNat_lt.mpr (Nat.lt_succ_of_le l)
theorem rng0 {h : Hs} {n : Nat} (s : smallI (n : Int)) : (grd (smallI (n : Int)) (.ok (rangeD 0 ((n : Int) - 0).toNat, fun _ => True) h) : Res (List D × (Hs → Prop))) = .ok (rangeD 0 n, fun _ => True) h := by
  unfold grd
  rw [if_pos s, Int.sub_zero, Int.toNat_natCast]
theorem rng1 {a : SE} {σ : St} {h h' : Hs} {n : Nat} (e : a σ h = .ok (.int n) h') (l : n ≤ 1000) : iRng1 (aCons a aNil) σ h = .ok (rangeD 0 n, fun _ => True) h' := by
  have e2 : aCons a aNil σ h = .ok [.int n] h' := by rw [x_Cons, e]; rfl
  unfold iRng1
  rw [e2, Res.bind_ok]
  exact rng0 (smallN l)
theorem mem_rng {n : Nat} {d : D} (h : d ∈ rangeD 0 n) : ∃ k : Nat, k < n ∧ d = .int k := by
  unfold rangeD at h
  obtain ⟨k, hk, rfl⟩ := List.mem_map.mp h
  exact ⟨k, List.mem_range.mp hk, by simp⟩
theorem len_rng {n : Nat} : (rangeD 0 n).length = n := by simp [rangeD]
theorem map_rng {n : Nat} {f : D → D} : (rangeD 0 n).map f = (List.range n).map fun k : Nat => f (.int k) := by simp [rangeD]
/-! ### the words -/
abbrev menu : List Str := ["same", "more", "moved", "limit", "short", "cut", "demand", "request", "release", "tree", "unlimit", "ok", "all", "ga", "gb", "a", "b", "x", "core", "tight", "slack", "undo", "used", "total"]
def let1 (i : Nat) : Str := ⟨#[97 + i % 26]⟩
def ch1 (i : Nat) : Nat := 97 + i % 26
def w0 (b k : Nat) : Str := menu.getD ((b + 5 * k) % 24) ""
def w1 (b k : Nat) : Str := repS (let1 (b + 7 * k)) (1 + (k % 8 : Nat))
def w2 (a z : List Nat) (b k : Nat) : Str := ⟨(a ++ ch1 (b + 5 * k) :: z).toArray⟩
def nameB (x : Str) : Bool := decide (0 < x.cps.toList.length) && decide (x.cps.toList.length < 9) && x.cps.toList.all fun c => decide (97 ≤ c) && decide (c < 123)
theorem abc_mem {c : Nat} : c ∈ abc.cps.toList ↔ 97 ≤ c ∧ c < 123 := by
  have e : abc.cps.toList = (List.range 26).map (97 + ·) := by decide +kernel
  rw [e, List.mem_map]
  constructor
  · rintro ⟨k, hk, rfl⟩
    have := List.mem_range.mp hk
    omega
  · intro h
    exact ⟨c - 97, List.mem_range.mpr (by omega), by omega⟩
theorem nameB_iff {x : Str} : nameB x = true ↔ NameOk x := by
  unfold nameB NameOk
  simp only [Bool.and_eq_true, decide_eq_true_eq, List.all_eq_true, abc_mem]
  constructor
  · rintro ⟨⟨a, b⟩, c⟩; exact ⟨a, b, c⟩
  · rintro ⟨a, b, c⟩; exact ⟨⟨a, b⟩, c⟩
def nodB : List Str → Bool
  | [] => true
  | x :: xs => !xs.contains x && nodB xs
theorem nodB_iff : ∀ {xs : List Str}, nodB xs = true → xs.Nodup
  | [], _ => List.nodup_nil
  | x :: xs, h => by
    simp only [nodB, Bool.and_eq_true, Bool.not_eq_true', List.contains_eq_mem, decide_eq_false_iff_not] at h
    exact List.nodup_cons.mpr ⟨h.1, nodB_iff h.2⟩
structure Wds (n : Nat) (ws : List Str) : Prop where
  len : ws.length = n
  nod : ws.Nodup
  ok : ∀ x ∈ ws, NameOk x
theorem wds0 : ∀ b, b < 24 → Wds 24 ((List.range 24).map (w0 b)) := by
  have h : ∀ b ∈ List.range 24, nodB ((List.range 24).map (w0 b)) = true ∧ (((List.range 24).map (w0 b)).all nameB) = true := by decide +kernel
  intro b hb
  obtain ⟨h1, h2⟩ := h b (List.mem_range.mpr hb)
  exact ⟨by simp, nodB_iff h1, fun x hx => nameB_iff.mp (List.all_eq_true.mp h2 x hx)⟩
theorem wds1 : ∀ b, b < 24 → Wds 24 ((List.range 24).map (w1 b)) := by
  have h : ∀ b ∈ List.range 24, nodB ((List.range 24).map (w1 b)) = true ∧ (((List.range 24).map (w1 b)).all nameB) = true := by decide +kernel
  intro b hb
  obtain ⟨h1, h2⟩ := h b (List.mem_range.mpr hb)
  exact ⟨by simp, nodB_iff h1, fun x hx => nameB_iff.mp (List.all_eq_true.mp h2 x hx)⟩
theorem wds2 {a z : List Nat} {b : Nat} (hl : a.length + z.length < 8) (h : ∀ c ∈ a ++ z, c ∈ abc.cps.toList) : Wds 24 ((List.range 24).map (w2 a z b)) := by
  refine ⟨by simp, ?_, ?_⟩
  · refine List.pairwise_map.mpr (List.Pairwise.imp_of_mem ?_ List.nodup_range)
    intro i j hi hj ne e
    have hi := List.mem_range.mp hi
    have hj := List.mem_range.mp hj
    have e2 : (a ++ ch1 (b + 5 * i) :: z) = (a ++ ch1 (b + 5 * j) :: z) := by
      have := congrArg (fun s : Str => s.cps.toList) e
      simpa [w2] using this
    have e3 : ch1 (b + 5 * i) = ch1 (b + 5 * j) := by
      have := List.append_cancel_left e2
      exact (List.cons.inj this).1
    unfold ch1 at e3
    exact ne (by omega)
  · intro x hx
    obtain ⟨k, hk, rfl⟩ := List.mem_map.mp hx
    refine ⟨by simp [w2]; omega, by simp [w2]; omega, fun c hc => ?_⟩
    simp only [w2, List.mem_append, List.mem_cons] at hc
    rcases hc with hc | rfl | hc
    · exact h c (List.mem_append_left _ hc)
    · rw [abc_mem]; unfold ch1; omega
    · exact h c (List.mem_append_right _ hc)
theorem abc_at {i : Nat} (h : i < 26) : L2.atI abc.cps.toList (i : Int) = some (97 + i) := by
  have : ∀ i ∈ List.range 26, L2.atI abc.cps.toList (i : Int) = some (97 + i) := by decide +kernel
  exact this i (List.mem_range.mpr h)
theorem menu_at {i : Nat} (h : i < 24) : L2.atI (sD menu) (i : Int) = some (.str (menu.getD i "")) := by
  obtain ⟨l, e⟩ := at_in (xs := sD menu) (i := i) (by omega) (by simp; omega)
  rw [e]
  simp only [Option.some.injEq, sD, Int.toNat_natCast, List.getElem_map, D.str.injEq]
  have l' : i < menu.length := by simpa using h
  simp [List.getD, List.getElem?_eq_getElem l']
end Qo
-- M8
set_option maxRecDepth 100000
set_option maxHeartbeats 1000000
namespace Qo
open PySem
@[simp] theorem eC_nil {σ : St} {hs : Hs} {d : D} : eC d σ hs = .ok d hs := rfl
theorem abcZ : abc.length ≤ sizeLine := by rw [sizeLine_eq]; decide
/-- a letter -/
theorem ix_abc {i : Nat} {hs : Hs} (h : i < 26) : dIx (.str abc) (.int i) hs = .ok (.str ⟨#[97 + i]⟩) hs := by
  show (match atI abc.cps.toList (i : Int) with | some c => grd (abc.length ≤ sizeLine) (Res.ok (D.str ⟨#[c]⟩) hs) | none => .bad) = _
  have e : atI abc.cps.toList (i : Int) = some (97 + i) := abc_at h
  rw [e]
  exact grd_pos abcZ
theorem ix_menu {i : Nat} {hs : Hs} (h : i < 24) : dIx (.lst (sD menu)) (.int i) hs = .ok (.str (menu.getD i "")) hs := by
  have e : atI (sD menu) (i : Int) = some (.str (menu.getD i "")) := menu_at h
  show (match asL hs (.lst (sD menu)) with | some xs => (match atI xs (i : Int) with | some d => Res.ok d hs | none => .bad) | none => .bad) = _
  simp only [asL, e]
def pickF (w : Nat → Nat → Str) (b : Nat) : D → D
  | .int k => .str (w b k.toNat)
  | _ => .non
theorem pick_map {w : Nat → Nat → Str} {b n : Nat} : (rangeD 0 n).map (pickF w b) = sD ((List.range n).map (w b)) := by
  rw [map_rng, sD, List.map_map]
  rfl
theorem cps_app (x y : Str) : (x ++ y).cps.toList = x.cps.toList ++ y.cps.toList := by
  show (x.cps ++ y.cps).toList = _
  exact Array.toList_append
theorem len_app (x y : Str) : (x ++ y).length = x.length + y.length := by
  show (x.cps ++ y.cps).size = _
  exact Array.size_append
theorem mod_nat {i : Nat} {m : Nat} {hs : Hs} (h : 0 < m) : dMod (.int (i : Int)) (.int (m : Int)) hs = .ok (.int ((i % m : Nat) : Int)) hs := by
  rw [mod_int (by omega)]
  rfl
theorem line0 {σ : St} {hs : Hs} {b : Nat} (h1 : σ[1]? = some (some (.int 24))) (h3 : σ[3]? = some (some (.lst (sD menu)))) (h5 : σ[5]? = some (some (.int b))) (l6 : 6 < σ.length) :
    eLC false [6] (iRng1 (aCons (eVar 1) aNil)) (lc1 (gName 6) tYes (eOp dIx (eVar 3) (eOp dMod (eOp (dAdd false) (eVar 5) (eOp (dMul false) (eC (.int 5)) (eVar 6))) (eC (.int 24))))) σ hs = .ok (.lst (sD ((List.range 24).map (w0 b)))) hs := by
  rw [← pick_map]
  refine x_LCp (ok := fun _ => True) (rng1 (by simp [h1]) (by decide)) trivial (by rw [len_rng, sizeLine_eq]; decide) fun d hd => ?_
  obtain ⟨k, hk, rfl⟩ := mem_rng hd
  have m : mulOk 5 (k : Int) := .inl (.inl (by decide))
  have e : ((b : Int) + 5 * (k : Int)) = ((b + 5 * k : Nat) : Int) := by omega
  have q := mod_nat (i := b + 5 * k) (m := 24) (hs := hs) (by decide)
  simp only [wipe, x_Op, x_Var, List.getElem?_set, h3, h5, l6, List.length_set, Res.bind_ok, eC_nil, mul_int m, add_int, if_true, if_false, Nat.reduceEqDiff, reduceIte, e]
  rw [show (24 : Int) = ((24 : Nat) : Int) from rfl, q, Res.bind_ok, ix_menu (by omega)]
  rfl
theorem mulS {x : Str} {n : Nat} {hs : Hs} (h0 : 1 ≤ n) (h1 : n ≤ 8) (h2 : x.length = 1) : dMulS (.str x) (.int n) hs = .ok (.str (repS x n)) hs := by
  show grd _ _ = _
  have := sizeLine_eq
  exact grd_pos ⟨by omega, by rw [h2, sizeLine_eq, Int.toNat_natCast]; omega, by rw [sizeLine_eq]; omega⟩
theorem line1 {σ : St} {hs : Hs} {b : Nat} (h1 : σ[1]? = some (some (.int 24))) (h2 : σ[2]? = some (some (.str abc))) (h5 : σ[5]? = some (some (.int b))) (l6 : 6 < σ.length) :
    eLC false [6] (iRng1 (aCons (eVar 1) aNil)) (lc1 (gName 6) tYes (eOp dMulS (eOp dIx (eVar 2) (eOp dMod (eOp (dAdd false) (eVar 5) (eOp (dMul false) (eC (.int 7)) (eVar 6))) (eC (.int 26)))) (eOp (dAdd false) (eC (.int 1)) (eOp dMod (eVar 6) (eC (.int 8)))))) σ hs = .ok (.lst (sD ((List.range 24).map (w1 b)))) hs := by
  rw [← pick_map]
  refine x_LCp (ok := fun _ => True) (rng1 (by simp [h1]) (by decide)) trivial (by rw [len_rng, sizeLine_eq]; decide) fun d hd => ?_
  obtain ⟨k, hk, rfl⟩ := mem_rng hd
  have m : mulOk 7 (k : Int) := .inl (.inl (by decide))
  have e : ((b : Int) + 7 * (k : Int)) = ((b + 7 * k : Nat) : Int) := by omega
  have q := mod_nat (i := b + 7 * k) (m := 26) (hs := hs) (by decide)
  have q8 := mod_nat (i := k) (m := 8) (hs := hs) (by decide)
  simp only [wipe, x_Op, x_Var, List.getElem?_set, h2, h5, l6, List.length_set, Res.bind_ok, eC_nil, mul_int m, add_int, if_true, if_false, Nat.reduceEqDiff, reduceIte, e]
  rw [show (26 : Int) = ((26 : Nat) : Int) from rfl, q, Res.bind_ok, ix_abc (by omega), Res.bind_ok]
  rw [show (8 : Int) = ((8 : Nat) : Int) from rfl, q8, Res.bind_ok, add_int, Res.bind_ok]
  have e3 : (1 : Int) + ((k % 8 : Nat) : Int) = ((1 + k % 8 : Nat) : Int) := by omega
  rw [e3, mulS (by omega) (by omega) rfl]
  rfl
theorem line2 {σ : St} {hs : Hs} {b a : Nat} {cs : List Nat} (h1 : σ[1]? = some (some (.int 24))) (h2 : σ[2]? = some (some (.str abc))) (h5 : σ[5]? = some (some (.int b))) (h7 : σ[7]? = some (some (.str ⟨cs.toArray⟩))) (h8 : σ[8]? = some (some (.int a))) (l6 : 6 < σ.length) (lc : cs.length < 8) (la : a ≤ cs.length) :
    eLC false [6] (iRng1 (aCons (eVar 1) aNil)) (lc1 (gName 6) tYes (eOp (dAdd false) (eOp (dAdd false) (eSl (dSl false) (eVar 7) oNone (oSome (eVar 8))) (eOp dIx (eVar 2) (eOp dMod (eOp (dAdd false) (eVar 5) (eOp (dMul false) (eC (.int 5)) (eVar 6))) (eC (.int 26))))) (eSl (dSl false) (eVar 7) (oSome (eVar 8)) oNone))) σ hs = .ok (.lst (sD ((List.range 24).map (w2 (cs.take a) (cs.drop a) b)))) hs := by
  rw [← pick_map]
  refine x_LCp (ok := fun _ => True) (rng1 (by simp [h1]) (by decide)) trivial (by rw [len_rng, sizeLine_eq]; decide) fun d hd => ?_
  obtain ⟨k, hk, rfl⟩ := mem_rng hd
  have m : mulOk 5 (k : Int) := .inl (.inl (by decide))
  have e : ((b : Int) + 5 * (k : Int)) = ((b + 5 * k : Nat) : Int) := by omega
  have q := mod_nat (i := b + 5 * k) (m := 26) (hs := hs) (by decide)
  have z : (⟨cs.toArray⟩ : Str).length = cs.length := by simp [Str.length]
  have s1 : dSl false (.str ⟨cs.toArray⟩) none (some (a : Int)) hs = .ok (.str ⟨(cs.take a).toArray⟩) hs := by
    show grd _ _ = _
    rw [grd_pos (by rw [z, sizeLine_eq]; omega)]
    simp only [L2.cutS, HT.sIx_nat, HT.sIx_none, z, Nat.sub_zero, List.drop_zero, Nat.min_eq_left la]
  have s2 : dSl false (.str ⟨cs.toArray⟩) (some (a : Int)) none hs = .ok (.str ⟨(cs.drop a).toArray⟩) hs := by
    show grd _ _ = _
    rw [grd_pos (by rw [z, sizeLine_eq]; omega)]
    have t : ((cs.drop a).take (cs.length - a)) = cs.drop a := List.take_of_length_le (by simp)
    simp only [L2.cutS, HT.sIx_nat, HT.sIx_none, z, Nat.min_eq_left la, t]
  have p1 : ∀ {x y : Str}, x.length + y.length ≤ 100 → dAdd false (.str x) (.str y) hs = .ok (.str (x ++ y)) hs := fun h => grd_pos (by rw [sizeLine_eq]; omega)
  simp only [wipe, x_Op, x_Var, eSl, oNone, oSome, List.getElem?_set, h2, h5, h7, h8, l6, List.length_set, Res.bind_ok, eC_nil, mul_int m, add_int, if_true, if_false, Nat.reduceEqDiff, reduceIte, e, s1, s2]
  rw [show (26 : Int) = ((26 : Nat) : Int) from rfl, q, Res.bind_ok, ix_abc (by omega), Res.bind_ok, p1 (by simp [Str.length]; omega), Res.bind_ok, s2, Res.bind_ok, p1 ?_]
  · simp only [pickF, w2, ch1, Int.toNat_natCast]
    congr 2
    apply str_ext
    rw [cps_app, cps_app]
    simp
  · rw [len_app]
    simp only [Str.length, List.size_toArray, List.length_take, List.length_drop]
    show _ + 1 + _ ≤ 100
    omega
theorem stem_str : ∀ cs : List Nat, strsOf (cs.map fun c => D.str ⟨#[c]⟩) = some (cs.map fun c => (⟨#[c]⟩ : Str))
  | [] => rfl
  | c :: cs => by
    show (strsOf (cs.map fun c => D.str ⟨#[c]⟩)).map _ = _
    rw [stem_str cs]; rfl
theorem glue : ∀ cs : List Nat, Txt.join "" (cs.map fun c => (⟨#[c]⟩ : Str)) = ⟨cs.toArray⟩ := by
  have j : ∀ cs : List Nat, (Str.join "" (cs.map fun c => (⟨#[c]⟩ : Str))).cps.toList = cs := by
    intro cs
    induction cs with
    | nil => rfl
    | cons c cs ih =>
      cases cs with
      | nil => rfl
      | cons d cs =>
        show ((⟨#[c]⟩ : Str) ++ "" ++ Str.join "" ((d :: cs).map fun c => (⟨#[c]⟩ : Str))).cps.toList = _
        rw [cps_app, cps_app, ih]
        rfl
  intro cs
  show Builtin.Str.glued _ _ = _
  rw [StrLaws.glued_eq_join]
  exact str_ext (j cs)
/-- the stem -/
theorem stem {ad : Ad} {hs : Hs} {p : Nat} (C : Clo hs) (lt : p < hs.length) {σ : St} {t : T3} (h0 : σ[0]? = some (some (.ref p))) (h2 : σ[2]? = some (some (.str abc))) (l6 : 6 < σ.length) :
    ∃ cs t', eSm1 mJoin (eC (.str "")) (eLC false [6] (iRng1 (aCons (eCall (f__law_draw ad) [] (aCons (eVar 0) (aCons (eC (.int 8)) aNil))) aNil)) (lc1 (gName 6) tYes (eOp dIx (eVar 2) (eCall (f__law_draw ad) [] (aCons (eVar 0) (aCons (eC (.int 26)) aNil)))))) σ (At hs p t) = .ok (.str ⟨List.toArray cs⟩) (At hs p t') ∧ cs.length < 8 ∧ ∀ c ∈ cs, c ∈ abc.cps.toList := by
  have dr := draw_at (ad := ad) (t := t) (m := 8) C lt (by decide)
  obtain ⟨r0, r1⟩ := drawn_range (m := 8) (t := t) (by decide)
  obtain ⟨n, hn⟩ := Int.eq_ofNat_of_zero_le r0
  rw [hn] at dr r1
  obtain ⟨xs, h', e, w, t', rfl⟩ := x_LCe (P := fun h => ∃ t', h = At hs p t') (ok := fun _ => True) (R := fun _ x => ∃ c, c ∈ abc.cps.toList ∧ x = .str ⟨#[c]⟩) (i := 6) (own := [6]) (el := eOp dIx (eVar 2) (eCall (f__law_draw ad) [] (aCons (eVar 0) (aCons (eC (.int 26)) aNil)))) (σ := σ) (h0 := At hs p t)
    (rng1 (n := n) (a := eCall (f__law_draw ad) [] (aCons (eVar 0) (aCons (eC (.int 8)) aNil))) (h' := At hs p (drawn 8 t).2) (by simp only [x_Call, x_Cons, x_Var, h0, Res.bind_ok, eC_nil, x_Nil, List.append_nil, dr]) (by omega)) ⟨_, rfl⟩ (fun _ _ => trivial) (by rw [len_rng, sizeLine_eq]; omega) (by
      rintro d hd _ ⟨u, rfl⟩
      have dr := draw_at (ad := ad) (t := u) (m := 26) C lt (by decide)
      obtain ⟨r0, r1⟩ := drawn_range (m := 26) (t := u) (by decide)
      obtain ⟨k, hk⟩ := Int.eq_ofNat_of_zero_le r0
      rw [hk] at dr r1
      refine ⟨.str ⟨#[97 + k]⟩, At hs p (drawn 26 u).2, ?_, ⟨97 + k, by rw [abc_mem]; omega, rfl⟩, (drawn 26 u).2, rfl⟩
      simp only [wipe, x_Op, x_Call, x_Cons, x_Var, List.getElem?_set, h0, h2, l6, List.length_set, Nat.reduceEqDiff, reduceIte, Res.bind_ok, eC_nil, x_Nil, List.append_nil, dr, ix_abc (show k < 26 by omega)])
  have q : ∀ {ds xs : List D}, Two (fun _ x => ∃ c, c ∈ abc.cps.toList ∧ x = .str ⟨#[c]⟩) ds xs → ∃ cs : List Nat, xs = (cs.map fun c => D.str ⟨#[c]⟩) ∧ cs.length = ds.length ∧ ∀ c ∈ cs, c ∈ abc.cps.toList := by
    intro ds xs w
    induction w with
    | nil => exact ⟨[], rfl, rfl, fun _ h => nomatch h⟩
    | cons h _ ih =>
      obtain ⟨c, hc, rfl⟩ := h
      obtain ⟨cs, rfl, l, a⟩ := ih
      exact ⟨c :: cs, rfl, by simp [l], fun x hx => by
        rcases List.mem_cons.mp hx with rfl | hx
        · exact hc
        · exact a x hx⟩
  obtain ⟨cs, rfl, l, a⟩ := q w
  rw [len_rng] at l
  refine ⟨cs, t', ?_, by omega, a⟩
  have sm : (cs.map fun c => (⟨#[c]⟩ : Str).length).sum = cs.length := by
    have : ∀ cs : List Nat, (cs.map fun c => (⟨#[c]⟩ : Str).length).sum = cs.length := by
      intro cs
      induction cs with
      | nil => rfl
      | cons c cs ih => simp only [List.map_cons, List.sum_cons, ih, List.length_cons]; show 1 + _ = _; omega
    exact this cs
  unfold eSm1
  simp only [eC_nil, Res.bind_ok, e, mJoin, asSq, asL, stem_str, glue]
  rw [grd_pos]
  rw [List.map_map]
  show (cs.map fun c => (⟨#[c]⟩ : Str).length).sum + _ * 0 ≤ _
  rw [sm]; omega
end Qo
-- M9
set_option maxRecDepth 100000
set_option maxHeartbeats 1000000
namespace Qo
open PySem
theorem nr_strs : ∀ xs : List Str, noRefs (sD xs) = true
  | [] => rfl
  | x :: xs => by
    show (noRef (.str x) && noRefs (sD xs)) = true
    rw [nr_strs xs]; rfl
theorem add_lst {xs ys : List D} {hs : Hs} (h : xs.length + ys.length ≤ sizeLine) : dAdd false (.lst xs) (.lst ys) hs = .ok (.lst (xs ++ ys)) hs := by
  show mkL false (xs ++ ys) hs = _
  unfold mkL
  rw [grd_pos (by rw [List.length_append]; exact h)]
  rfl
theorem mkL_lst {xs : List D} {hs : Hs} (h : xs.length ≤ sizeLine) : mkL false xs hs = .ok (.lst xs) hs := by
  unfold mkL
  rw [grd_pos h]
  rfl
theorem mkT_tup {xs : List D} {hs : Hs} (h : xs.length ≤ sizeLine) : mkT xs hs = .ok (.tup xs) hs := grd_pos h
theorem fn_rt {m : Bool} {np n : Nat} {b : SS} {ds : List D} {hs h1 h2 : Hs} {d d' : D} {σ' : St} (l : ds.length = np) (e : b (startS n ds) hs = .ok (.rt d, σ') h1) (f : finR m hs.length d h1 = .ok d' h2) : fnS m np n b ds hs = .ok d' h2 := by
  unfold fnS
  rw [grd_pos l, e]
  exact f
theorem fn_nx {m : Bool} {np n : Nat} {b : SS} {ds : List D} {hs h1 h2 : Hs} {d' : D} {σ' : St} (l : ds.length = np) (e : b (startS n ds) hs = .ok (.nx, σ') h1) (f : finR m hs.length .non h1 = .ok d' h2) : fnS m np n b ds hs = .ok d' h2 := by
  unfold fnS
  rw [grd_pos l, e]
  exact f
theorem szK {n : Nat} (h : n ≤ 1000) : n ≤ sizeLine := by rw [sizeLine_eq]; omega
theorem mkL_s {xs : List D} {hs : Hs} (h : xs.length ≤ 1000) : mkL false xs hs = .ok (.lst xs) hs := mkL_lst (szK h)
theorem mkT_s {xs : List D} {hs : Hs} (h : xs.length ≤ 1000) : mkT xs hs = .ok (.tup xs) hs := mkT_tup (szK h)
theorem add_s {xs ys : List D} {hs : Hs} (h : xs.length + ys.length ≤ 1000) : dAdd false (.lst xs) (.lst ys) hs = .ok (.lst (xs ++ ys)) hs := add_lst (szK h)
theorem grd_t {α : Type} {r : Res α} : grd True r = r := grd_pos trivial
theorem z_int : (((0 : Nat) : Int) = 0) = True := by simp
theorem o_int : (((1 : Nat) : Int) = 1) = True := by simp
theorem o_z : (((1 : Nat) : Int) = 0) = False := by simp
theorem t_z : (((2 : Nat) : Int) = 0) = False := by simp
theorem t_o : (((2 : Nat) : Int) = 1) = False := by simp
theorem tw_int : (((2 : Nat) : Int) = 2) = True := by simp
theorem dv_small {n : Nat} (h : n ≤ 99) : dvOk ((n + 1 : Nat) : Int) := by
  have : ∀ n ∈ List.range 100, dvOk ((n + 1 : Nat) : Int) := by decide +kernel
  exact this n (List.mem_range.mpr (by omega))
theorem sz12 : 12 ≤ sizeLine := by rw [sizeLine_eq]; decide
theorem sz24 : 24 ≤ sizeLine := by rw [sizeLine_eq]; decide
theorem sz2 : 2 ≤ sizeLine := by rw [sizeLine_eq]; decide
theorem s_words {ad : Ad} {hs : Hs} {p : Nat} (C : Clo hs) (lt : p < hs.length) {t : T3} :
    ∃ ws t', f__law_words ad [.ref p, .int 24] (At hs p t) = .ok (.lst (sD ws)) (At hs p t') ∧ Wds 24 ws := by
  have d3 := draw_at (ad := ad) (t := t) (m := 3) C lt (by decide)
  have d24 := draw_at (ad := ad) (t := (drawn 3 t).2) (m := 24) C lt (by decide)
  obtain ⟨q0, q1⟩ := drawn_range (m := 3) (t := t) (by decide)
  obtain ⟨r0, r1⟩ := drawn_range (m := 24) (t := (drawn 3 t).2) (by decide)
  obtain ⟨w, hw⟩ := Int.eq_ofNat_of_zero_le q0
  obtain ⟨b, hb⟩ := Int.eq_ofNat_of_zero_le r0
  rw [hw] at d3 q1
  rw [hb] at d24 r1
  generalize ht : (drawn 24 (drawn 3 t).2).2 = u at d24
  have fin : ∀ (xs : List Str) (v : T3), finR false (At hs p t).length (.lst (sD xs)) (At hs p v) = .ok (.lst (sD xs)) (At hs p v) := fun xs v => by
    rw [show (At hs p t).length = hs.length from List.length_set]
    exact fin_at2 C (by rw [noRef]; exact nr_strs xs)
  have lw : w = 0 ∨ w = 1 ∨ w = 2 := by omega
  have run : ∃ ws σ' v, b__law_words ad (startS 9 [.ref p, .int 24]) (At hs p t) = .ok (.rt (.lst (sD ws)), σ') (At hs p v) ∧ Wds 24 ws := by
    unfold b__law_words
    rcases lw with rfl | rfl | rfl
    · refine ⟨_, ?_, u, ?_, wds0 b (by omega)⟩
      rotate_left
      · simp only [u_Cons, u_Asg, u_If, u_Ret, x_C, x_Op, x_Lst, x_Cons, x_Nil, x_Var, x_Tup, x_Call, g_Name, g_tup, g_cons, g_nil, t_Of, v_start, Res.bind_ok, List.map_cons, List.map_nil, List.length_cons, List.length_nil, List.replicate, List.nil_append, List.cons_append, List.set_cons_zero, List.set_cons_succ, List.getElem?_cons_zero, List.getElem?_cons_succ, List.append_nil, d3, d24, mkL_s, mkT_s, add_s, Nat.reduceLeDiff, Nat.reduceAdd, Nat.reduceSub, eq_int, t_bl, grd_t, u_Nil, z_int, bne, decide_true, Bool.not_true, Bool.not_false, Bool.false_beq, Bool.true_beq, reduceIte, if_true]
        rw [line0 (b := b) rfl rfl rfl (by simp)]
        rfl
    · refine ⟨_, ?_, u, ?_, wds1 b (by omega)⟩
      rotate_left
      · simp only [u_Cons, u_Asg, u_If, u_Ret, x_C, x_Op, x_Lst, x_Cons, x_Nil, x_Var, x_Tup, x_Call, g_Name, g_tup, g_cons, g_nil, t_Of, v_start, Res.bind_ok, List.map_cons, List.map_nil, List.length_cons, List.length_nil, List.replicate, List.nil_append, List.cons_append, List.set_cons_zero, List.set_cons_succ, List.getElem?_cons_zero, List.getElem?_cons_succ, List.append_nil, d3, d24, mkL_s, mkT_s, add_s, Nat.reduceLeDiff, Nat.reduceAdd, Nat.reduceSub, eq_int, t_bl, grd_t, u_Nil, o_int, bne, decide_true, Bool.not_true, Bool.not_false, Bool.false_beq, Bool.true_beq, reduceIte, if_true, if_false, u_Nil, Res.bind_ok, o_z, decide_false, Bool.false_eq_true]
        rw [line1 (b := b) rfl rfl rfl (by simp)]
        rfl
    · obtain ⟨cs, v, e, lc, ac⟩ := stem (ad := ad) C lt (t := u) (σ := [some (.ref p), some (.int 24), some (.str abc), some (.lst [.str "same", .str "more", .str "moved", .str "limit", .str "short", .str "cut", .str "demand", .str "request", .str "release", .str "tree", .str "unlimit", .str "ok", .str "all", .str "ga", .str "gb", .str "a", .str "b", .str "x", .str "core", .str "tight", .str "slack", .str "undo", .str "used", .str "total"]), some (.int (2 : Nat)), some (.int b), none, none, none]) rfl rfl (by simp)
      have z : (⟨cs.toArray⟩ : Str).length = cs.length := by simp [Str.length]
      have dl := draw_at (ad := ad) (t := v) (m := (cs.length + 1 : Nat)) C lt (dv_small (by omega))
      obtain ⟨s0, s1⟩ := drawn_range (m := (cs.length + 1 : Nat)) (t := v) (by omega)
      obtain ⟨a, ha⟩ := Int.eq_ofNat_of_zero_le s0
      rw [ha] at dl s1
      refine ⟨_, ?_, (drawn (cs.length + 1 : Nat) v).2, ?_, wds2 (a := cs.take a) (z := cs.drop a) (b := b) (by simp; omega) (by rw [List.take_append_drop]; exact ac)⟩
      rotate_left
      · simp only [u_Cons, u_Asg, u_If, u_Ret, x_C, x_Op, x_Lst, x_Cons, x_Nil, x_Var, x_Tup, x_Call, g_Name, g_tup, g_cons, g_nil, t_Of, v_start, Res.bind_ok, List.map_cons, List.map_nil, List.length_cons, List.length_nil, List.replicate, List.nil_append, List.cons_append, List.set_cons_zero, List.set_cons_succ, List.getElem?_cons_zero, List.getElem?_cons_succ, List.append_nil, d3, d24, mkL_s, mkT_s, add_s, Nat.reduceLeDiff, Nat.reduceAdd, Nat.reduceSub, eq_int, t_bl, grd_t, u_Nil, tw_int, bne, decide_true, Bool.not_true, Bool.not_false, Bool.false_beq, Bool.true_beq, reduceIte, if_true, if_false, u_Nil, Res.bind_ok, t_z, t_o, decide_false, Bool.false_eq_true]
        rw [e]
        have ln : bLen [.str ⟨cs.toArray⟩] (At hs p v) = .ok (.int (cs.length : Nat)) (At hs p v) := by
          show grd _ _ = _
          rw [grd_pos (by rw [z]; exact szK (by omega)), z]
        simp only [Res.bind_ok, x_Var, x_Blt, x_Nil, List.getElem?_cons_zero, List.getElem?_cons_succ, List.set_cons_zero, List.set_cons_succ, x_Cons, ln, add_int]
        rw [show (cs.length : Int) + 1 = ((cs.length + 1 : Nat) : Int) from rfl, dl]
        simp only [Res.bind_ok, List.set_cons_zero, List.set_cons_succ]
        rw [line2 (b := b) (a := a) (cs := cs) rfl rfl rfl rfl rfl (by simp) lc (by omega)]
        rfl
  obtain ⟨ws, σ', v, e, W⟩ := run
  exact ⟨ws, v, fn_rt rfl e (fin ws v), W⟩
end Qo
-- M10
set_option maxRecDepth 100000
set_option maxHeartbeats 1000000
namespace Qo
open PySem
/-! ### comprehensions over a list that is a picture of another -/
inductive Twa {α β : Type} (R : α → β → Prop) : List α → List β → Prop
  | nil : Twa R [] []
  | cons {d : α} {x : β} {ds : List α} {xs : List β} : R d x → Twa R ds xs → Twa R (d :: ds) (x :: xs)
theorem Twa.len {α β : Type} {R : α → β → Prop} {ds : List α} {xs : List β} (h : Twa R ds xs) : xs.length = ds.length := by
  induction h with
  | nil => rfl
  | cons _ _ ih => simp [ih]
theorem Twa.map {α β : Type} {f : α → β} {ds : List α} {xs : List β} (h : Twa (fun a x => x = f a) ds xs) : xs = ds.map f := by
  induction h with
  | nil => rfl
  | cons h _ ih => rw [h, ih]; rfl
theorem lc_a {α : Type} {g : α → D} {P ok : Hs → Prop} {R : α → D → Prop} {i : Nat} {el : SE} {σ : St} (hok : ∀ h, P h → ok h) : ∀ (as : List α), (∀ a ∈ as, ∀ h, P h → ∃ x h', el (σ.set i (some (g a))) h = .ok x h' ∧ R a x ∧ P h') → ∀ (xs : List D) (σ1 : St), (∀ d, σ1.set i (some d) = σ.set i (some d)) → ∀ h, P h →
    ∃ ys σ' h', lcGo ok (gName i) tYes el (as.map g) xs σ1 h = .ok (xs ++ ys, σ') h' ∧ Twa R as ys ∧ P h'
  | [], _, xs, σ1, _, h, hP => ⟨[], σ1, h, by simp [lcGo], .nil, hP⟩
  | a :: as, he, xs, σ1, h1, h, hP => by
    obtain ⟨x, h2, e1, r, hP2⟩ := he a List.mem_cons_self h hP
    obtain ⟨ys, σ', h', e2, w, hP3⟩ := lc_a hok as (fun d hd => he d (List.mem_cons_of_mem _ hd)) (xs ++ [x]) (σ.set i (some (g a))) (fun d' => List.set_set _) h2 hP2
    refine ⟨x :: ys, σ', h', ?_, .cons r w, hP3⟩
    rw [List.map_cons, lcGo]
    simp only [g_Name, Res.bind_ok, h1, tYes, if_true, e1]
    rw [chk_pos (hok _ hP2), e2]
    simp
theorem x_LCa {α : Type} {g : α → D} {P ok : Hs → Prop} {R : α → D → Prop} {i : Nat} {own : List Nat} {m : SI} {el : SE} {σ : St} {as : List α} {h0 h1 : Hs} (hm : m σ h0 = .ok (as.map g, ok) h1) (hP : P h1) (hok : ∀ h, P h → ok h) (hz : as.length ≤ 1000) (he : ∀ a ∈ as, ∀ h, P h → ∃ x h', el ((wipe σ own).set i (some (g a))) h = .ok x h' ∧ R a x ∧ P h') :
    ∃ xs h', eLC false own m (lc1 (gName i) tYes el) σ h0 = .ok (.lst xs) h' ∧ Twa R as xs ∧ P h' := by
  obtain ⟨ys, σ', h', e, w, hP2⟩ := lc_a hok as he [] (wipe σ own) (fun _ => rfl) h1 hP
  refine ⟨ys, h', ?_, w, hP2⟩
  unfold eLC rawLC lc1
  rw [hm]
  simp only [Res.bind_ok]
  rw [grd_pos (by rw [List.length_map]; exact szK (by simpa using hz)), e]
  simp only [Res.bind_ok, List.nil_append]
  exact mkL_s (by rw [w.len]; exact hz)
theorem lc_b {α : Type} {g : α → D} {ok : Hs → Prop} {i : Nat} {t : ST} {el : SE} {σ : St} {c : α → Bool} {f : α → D} {hs : Hs} (hok : ok hs) : ∀ (as : List α), (∀ a ∈ as, t (σ.set i (some (g a))) hs = .ok (c a) hs ∧ (c a = true → el (σ.set i (some (g a))) hs = .ok (f a) hs)) → ∀ (xs : List D) (σ1 : St), (∀ d, σ1.set i (some d) = σ.set i (some d)) →
    ∃ σ', lcGo ok (gName i) t el (as.map g) xs σ1 hs = .ok (xs ++ (as.filter c).map f, σ') hs
  | [], _, xs, σ1, _ => ⟨σ1, by simp [lcGo]⟩
  | a :: as, he, xs, σ1, h1 => by
    obtain ⟨e1, e2⟩ := he a List.mem_cons_self
    rw [List.map_cons, lcGo]
    simp only [g_Name, Res.bind_ok, h1, e1]
    by_cases hc : c a = true
    · obtain ⟨σ', e⟩ := lc_b hok as (fun d hd => he d (List.mem_cons_of_mem _ hd)) (xs ++ [f a]) (σ.set i (some (g a))) (fun d' => List.set_set _)
      refine ⟨σ', ?_⟩
      rw [if_pos hc, e2 hc, Res.bind_ok, chk_pos hok, e]
      simp [hc]
    · obtain ⟨σ', e⟩ := lc_b hok as (fun d hd => he d (List.mem_cons_of_mem _ hd)) xs (σ.set i (some (g a))) (fun d' => List.set_set _)
      refine ⟨σ', ?_⟩
      rw [if_neg hc, chk_pos hok, e]
      simp [hc]
theorem x_LCb {α : Type} {g : α → D} {ok : Hs → Prop} {i : Nat} {own : List Nat} {m : SI} {t : ST} {el : SE} {σ : St} {c : α → Bool} {f : α → D} {as : List α} {h0 hs : Hs} (hm : m σ h0 = .ok (as.map g, ok) hs) (hok : ok hs) (hz : as.length ≤ 1000) (he : ∀ a ∈ as, t ((wipe σ own).set i (some (g a))) hs = .ok (c a) hs ∧ (c a = true → el ((wipe σ own).set i (some (g a))) hs = .ok (f a) hs)) :
    eLC false own m (lc1 (gName i) t el) σ h0 = .ok (.lst ((as.filter c).map f)) hs := by
  obtain ⟨σ', e⟩ := lc_b hok as he [] (wipe σ own) (fun _ => rfl)
  unfold eLC rawLC lc1
  rw [hm]
  simp only [Res.bind_ok]
  rw [grd_pos (by rw [List.length_map]; exact szK (by simpa using hz)), e]
  simp only [Res.bind_ok, List.nil_append]
  exact mkL_s (by rw [List.length_map]; exact Nat.le_trans (List.length_filter_le _ _) hz)
theorem x_LCy {α : Type} {g : α → D} {ok : Hs → Prop} {i : Nat} {own : List Nat} {m : SI} {el : SE} {σ : St} {f : α → D} {as : List α} {h0 hs : Hs} (hm : m σ h0 = .ok (as.map g, ok) hs) (hok : ok hs) (hz : as.length ≤ 1000) (he : ∀ a ∈ as, el ((wipe σ own).set i (some (g a))) hs = .ok (f a) hs) :
    eLC false own m (lc1 (gName i) tYes el) σ h0 = .ok (.lst (as.map f)) hs := by
  have := x_LCb (c := fun _ => true) hm hok hz (fun a h => ⟨(rfl : tYes _ _ = _), fun _ => he a h⟩)
  rwa [List.filter_eq_self.mpr (fun _ _ => rfl)] at this
/-! ### trees -/
inductive Tr where
  | usr (x : Str) (l : Option Int)
  | grp (x : Str) (l : Option Int) (ps : List Tr)
def capOk (l : Option Int) : Prop := ∀ i, l = some i → 0 ≤ i
mutual
def toD : Tr → D
  | .usr x l => .tup [.str x, limD l]
  | .grp x l ps => .tup [.str x, limD l, .tup (toDs ps)]
def toDs : List Tr → List D
  | [] => []
  | t :: ts => toD t :: toDs ts
end
mutual
def users : Tr → List Str
  | .usr x _ => [x]
  | .grp _ _ ps => usersL ps
def usersL : List Tr → List Str
  | [] => []
  | t :: ts => users t ++ usersL ts
end
mutual
def groups : Tr → List Str
  | .usr _ _ => []
  | .grp x _ ps => x :: groupsL ps
def groupsL : List Tr → List Str
  | [] => []
  | t :: ts => groups t ++ groupsL ts
end
mutual
def hi : Tr → Nat
  | .usr _ _ => 0
  | .grp _ _ ps => 1 + hiL ps
def hiL : List Tr → Nat
  | [] => 0
  | t :: ts => max (hi t) (hiL ts)
end
mutual
def okT : Tr → Prop
  | .usr x l => NameOk x ∧ capOk l
  | .grp x l ps => NameOk x ∧ capOk l ∧ 0 < ps.length ∧ ps.length ≤ 24 ∧ okTs ps
def okTs : List Tr → Prop
  | [] => True
  | t :: ts => okT t ∧ okTs ts
end
theorem toDs_map : ∀ ps : List Tr, toDs ps = ps.map toD
  | [] => rfl
  | t :: ts => by rw [toDs, toDs_map ts]; rfl
theorem usersL_app : ∀ a b : List Tr, usersL (a ++ b) = usersL a ++ usersL b
  | [], b => rfl
  | t :: a, b => by rw [List.cons_append, usersL, usersL_app a b, usersL, List.append_assoc]
theorem groupsL_app : ∀ a b : List Tr, groupsL (a ++ b) = groupsL a ++ groupsL b
  | [], b => rfl
  | t :: a, b => by rw [List.cons_append, groupsL, groupsL_app a b, groupsL, List.append_assoc]
theorem hiL_app : ∀ a b : List Tr, hiL (a ++ b) = max (hiL a) (hiL b)
  | [], b => by rw [List.nil_append, hiL]; simp
  | t :: a, b => by rw [List.cons_append, hiL, hiL_app a b, hiL]; omega
theorem okTs_iff : ∀ ps : List Tr, okTs ps ↔ ∀ t ∈ ps, okT t
  | [] => by simp [okTs]
  | t :: ts => by rw [okTs, okTs_iff ts]; simp
theorem hiL_le : ∀ {ps : List Tr} {t : Tr}, t ∈ ps → hi t ≤ hiL ps
  | [], _, h => nomatch h
  | s :: ts, t, h => by
    rw [hiL]
    rcases List.mem_cons.mp h with rfl | h
    · omega
    · have := hiL_le h
      omega
mutual
theorem nr_toD : ∀ t : Tr, noRef (toD t) = true
  | .usr x l => by cases l <;> simp [toD, noRef, noRefs, limD]
  | .grp x l ps => by cases l <;> simp [toD, noRef, noRefs, limD, nr_toDs ps]
theorem nr_toDs : ∀ ts : List Tr, noRefs (toDs ts) = true
  | [] => rfl
  | t :: ts => by rw [toDs, noRefs, nr_toD t, nr_toDs ts]; rfl
end
/-! ### how high -/
theorem foldl_max : ∀ (ns : List Int) (a : Int), ns.foldl max a = max a (ns.foldl max 0) ∨ a < 0 ∨ ∃ n ∈ ns, n < 0
  | [], a => by simp only [List.foldl_nil]; omega
  | n :: ns, a => by
    by_cases h : 0 ≤ a
    · by_cases hn : 0 ≤ n
      · by_cases hr : ∃ n ∈ ns, n < 0
        · obtain ⟨m, hm, l⟩ := hr
          exact .inr (.inr ⟨m, List.mem_cons_of_mem _ hm, l⟩)
        · left
          simp only [List.foldl_cons]
          rcases foldl_max ns (max a n) with e | e | e
          · rcases foldl_max ns (max 0 n) with e2 | e2 | e2
            · omega
            · omega
            · exact absurd e2 hr
          · omega
          · exact absurd e hr
      · exact .inr (.inr ⟨n, List.mem_cons_self, by omega⟩)
    · exact .inr (.inl (by omega))
def hiI (t : Tr) : Int := (hi t : Nat)
theorem fold_hi : ∀ ps : List Tr, (ps.map hiI).foldl max 0 = (hiL ps : Nat)
  | [] => rfl
  | t :: ts => by
    rw [List.map_cons, List.foldl_cons, hiL]
    rcases foldl_max (ts.map hiI) (max 0 (hiI t)) with e | e | ⟨n, hn, l⟩
    · rw [e, fold_hi ts]
      unfold hiI
      omega
    · unfold hiI at e; omega
    · obtain ⟨s, _, rfl⟩ := List.mem_map.mp hn
      unfold hiI at l; omega
theorem ints_hi : ∀ ps : List Tr, intsOf (ps.map (fun t => D.int (hiI t)) ++ [.int 0]) = some (ps.map hiI ++ [0])
  | [] => rfl
  | t :: ts => by
    show (intsOf (ts.map (fun t => D.int (hiI t)) ++ [.int 0])).map (hiI t :: ·) = _
    rw [ints_hi ts]; rfl
theorem max_hi {ps : List Tr} {hs : Hs} : bMax [.lst (ps.map (fun t => D.int (hiI t)) ++ [.int 0])] hs = .ok (.int (hiL ps : Nat)) hs := by
  show (match asL hs (.lst _) with | some xs => (match intsOf xs with | some (n :: ns) => Res.ok (D.int (ns.foldl max n)) hs | _ => .bad) | none => .bad) = _
  simp only [asL, ints_hi]
  have e := fold_hi ps
  cases ps with
  | nil => rfl
  | cons t ts =>
    rw [List.map_cons, List.cons_append]
    simp only [Res.ok.injEq, D.int.injEq, and_true]
    rw [← e, List.map_cons, List.foldl_cons, List.foldl_append]
    have h0 : max 0 (hiI t) = hiI t := by unfold hiI; omega
    rw [h0]
    have : 0 ≤ (ts.map hiI).foldl max (hiI t) := by
      rcases foldl_max (ts.map hiI) (hiI t) with e | e | ⟨n, hn, l⟩
      · rw [e]; unfold hiI; omega
      · unfold hiI at e; omega
      · obtain ⟨s, _, rfl⟩ := List.mem_map.mp hn
        unfold hiI at l; omega
    simp only [List.foldl_cons, List.foldl_nil]
    omega
theorem tupIx {xs : List D} {k : Nat} {d : D} {hs : Hs} (h : xs[k]? = some d) : dIx (.tup xs) (.int (k : Int)) hs = .ok d hs := by
  have l : k < xs.length := (List.getElem?_eq_some_iff.mp h).1
  have e : atI xs (k : Int) = some d := by
    show (L2.ixN xs.length (k : Int)).bind (fun j => xs[j]?) = _
    unfold L2.ixN
    rw [if_pos (by omega), if_pos (by omega)]
    simpa using h
  show (match atI xs (k : Int) with | some d => Res.ok d hs | none => .bad) = _
  rw [e]
@[simp] theorem tup0 {a : D} {xs : List D} {hs : Hs} : dIx (.tup (a :: xs)) (.int 0) hs = .ok a hs := tupIx (k := 0) rfl
@[simp] theorem tup1 {a b : D} {xs : List D} {hs : Hs} : dIx (.tup (a :: b :: xs)) (.int 1) hs = .ok b hs := tupIx (k := 1) rfl
@[simp] theorem tup2 {a b c : D} {xs : List D} {hs : Hs} : dIx (.tup (a :: b :: c :: xs)) (.int 2) hs = .ok c hs := tupIx (k := 2) rfl
theorem seq_tup {a : SE} {σ : St} {h h' : Hs} {xs : List D} (e : a σ h = .ok (.tup xs) h') : iSeq a σ h = .ok (xs, fun _ => True) h' := by
  unfold iSeq
  rw [e]
  rfl
theorem len_toD {t : Tr} {hs : Hs} : bLen [toD t] hs = .ok (.int (match t with | .usr _ _ => 2 | .grp _ _ _ => 3)) hs := by
  cases t <;> rfl
theorem high_step {ad : Ad} {self : SF} {ps : List Tr} {hs : Hs} (C : Clo hs) (l : ps.length ≤ 24) (hself : ∀ x c qs, Tr.grp x c qs ∈ ps → self [.tup (toDs qs)] hs = .ok (.int (hiL qs : Nat)) hs) : fnS false 1 2 (b__law_high ad self) [.tup (toDs ps)] hs = .ok (.int (hiL ps : Nat)) hs := by
  refine fn_rt (σ' := [some (.tup (toDs ps)), none]) rfl ?_ (fin_int C)
  have lc : eLC false [1] (iSeq (eVar 0)) (lc1 (gName 1) tYes (eIf (tOf (eOp (dEq false) (eBlt bLen (aCons (eVar 1) aNil)) (eC (.int 3)))) (eOp (dAdd false) (eC (.int 1)) (eCall self [] (aCons (eOp dIx (eVar 1) (eC (.int 2))) aNil))) (eC (.int 0)))) [some (.tup (toDs ps)), none] hs = .ok (.lst (ps.map fun t => D.int (hiI t))) hs := by
    refine x_LCy (g := toD) (ok := fun _ => True) (seq_tup (by rw [toDs_map]; rfl)) trivial (by omega) fun t ht => ?_
    cases t with
    | usr x c => simp [wipe, len_toD, hiI, hi]
    | grp x c qs =>
      have e := hself x c qs ht
      simp [wipe, len_toD, hiI, hi, toD, e] 
      simp [bLen, dLen, e]
  unfold b__law_high
  simp only [u_Cons, u_Ret, x_Blt, x_Cons, x_Nil, x_Op, x_Lst, x_C, v_start, List.map_cons, List.map_nil, List.length_cons, List.length_nil, List.replicate, List.cons_append, List.nil_append, Nat.reduceAdd, Nat.reduceSub, lc, Res.bind_ok]
  rw [mkL_s (by simp), Res.bind_ok, add_s (by simp; omega), Res.bind_ok, Res.bind_ok, max_hi]
  rfl
theorem s_high {ad : Ad} : ∀ (n : Nat) (ps : List Tr) (hs : Hs), Clo hs → okTs ps → ps.length ≤ 24 → hiL ps ≤ n → f__law_high ad (n + 1) [.tup (toDs ps)] hs = .ok (.int (hiL ps : Nat)) hs := by
  intro n
  induction n with
  | zero =>
    intro ps hs C ok l h
    exact high_step C l fun x c qs hq => by
      have := hiL_le hq
      rw [hi] at this
      omega
  | succ n ih =>
    intro ps hs C ok l h
    refine high_step C l fun x c qs hq => ?_
    have := hiL_le hq
    rw [hi] at this
    have o := (okTs_iff ps).mp ok _ hq
    rw [okT] at o
    exact ih qs hs C o.2.2.2.2 o.2.2.2.1 (by omega)
end Qo
-- M11
set_option maxRecDepth 100000
set_option maxHeartbeats 1000000
namespace Qo
open PySem
structure Ln (us G gs : List Str) (line : List Tr) : Prop where
  ne : 0 < line.length
  le : line.length ≤ 12
  ok : okTs line
  hi : hiL line ≤ 5
  us : usersL line = us
  gn : (groupsL line).Nodup
  gd : ∀ g ∈ gs, g ∉ groupsL line
  gG : ∀ g ∈ groupsL line, g ∈ G
  cnt : (groupsL line).length + gs.length ≤ 11
theorem Ln.skip {us G gs : List Str} {x : Str} {line : List Tr} (h : Ln us G (x :: gs) line) : Ln us G gs line :=
  ⟨h.ne, h.le, h.ok, h.hi, h.us, h.gn, fun g hg => h.gd g (List.mem_cons_of_mem _ hg), h.gG, by have := h.cnt; simp at this; omega⟩
theorem Ln.put {us G gs : List Str} {x : Str} {c : Option Int} {a m z : List Tr} (h : Ln us G (x :: gs) (a ++ m ++ z)) (hm : 0 < m.length) (hG : x ∈ G) (nd : (x :: gs).Nodup) (nx : NameOk x) (cx : capOk c) (hh : hiL m < 5) : Ln us G gs (a ++ [Tr.grp x c m] ++ z) := by
  obtain ⟨ne, le, ok, hi5, hu, gn, gd, gG, cnt⟩ := h
  have pg : (groupsL (a ++ [Tr.grp x c m] ++ z)).Perm (x :: groupsL (a ++ m ++ z)) := by
    simp only [groupsL_app, groupsL, groups, List.append_nil, List.append_assoc, List.cons_append]
    exact List.perm_middle
  have nx' : x ∉ groupsL (a ++ m ++ z) := gd x List.mem_cons_self
  rw [okTs_iff] at ok
  refine ⟨by simp; omega, by simp at le ⊢; omega, ?_, ?_, ?_, ?_, ?_, ?_, ?_⟩
  · rw [okTs_iff]
    intro t ht
    simp only [List.mem_append, List.mem_singleton] at ht
    rcases ht with (ht | rfl) | ht
    · exact ok t (by simp [ht])
    · rw [okT]
      exact ⟨nx, cx, hm, by simp at le; omega, (okTs_iff m).mpr fun t ht => ok t (by simp [ht])⟩
    · exact ok t (by simp [ht])
  · simp only [hiL_app, hiL, Qo.hi] at hi5 ⊢
    omega
  · rw [← hu]
    simp only [usersL_app, usersL, users, List.append_nil]
  · exact pg.symm.nodup (List.nodup_cons.mpr ⟨nx', gn⟩)
  · intro g hg hg2
    rcases List.mem_cons.mp (pg.mem_iff.mp hg2) with rfl | h2
    · exact (List.nodup_cons.mp nd).1 hg
    · exact gd g (List.mem_cons_of_mem _ hg) h2
  · intro g hg
    rcases List.mem_cons.mp (pg.mem_iff.mp hg) with rfl | h2
    · exact hG
    · exact gG g h2
  · rw [pg.length_eq]
    simp only [List.length_cons] at cnt ⊢
    omega
@[simp] theorem lst0 {a : D} {xs : List D} {hs : Hs} : dIx (.lst (a :: xs)) (.int 0) hs = .ok a hs := by
  have e : atI (a :: xs) (0 : Int) = some a := by
    show (L2.ixN (xs.length + 1) (0 : Int)).bind (fun j => (a :: xs)[j]?) = _
    unfold L2.ixN
    rw [if_pos (by omega), if_pos (by omega)]
    rfl
  show (match asL hs (.lst (a :: xs)) with | some xs => (match atI xs (0 : Int) with | some d => Res.ok d hs | none => .bad) | none => .bad) = _
  simp only [asL, e]
theorem sl_n {xs : List D} {hs : Hs} (lo hi : Option Nat) (l : xs.length ≤ 1000) : dSl false (.lst xs) (lo.map fun n : Nat => (n : Int)) (hi.map fun n : Nat => (n : Int)) hs = .ok (.lst ((xs.drop (lo.elim 0 (min · xs.length))).take (hi.elim xs.length (min · xs.length) - lo.elim 0 (min · xs.length)))) hs := by
  show mkL false (cutD xs _ _) hs = _
  unfold cutD
  have e1 : HT.sIx xs.length 0 (lo.map fun n : Nat => (n : Int)) = lo.elim 0 (min · xs.length) := by cases lo <;> simp [HT.sIx_nat, HT.sIx_none]
  have e2 : HT.sIx xs.length xs.length (hi.map fun n : Nat => (n : Int)) = hi.elim xs.length (min · xs.length) := by cases hi <;> simp [HT.sIx_nat, HT.sIx_none]
  rw [e1, e2]
  exact mkL_s (by simp; omega)
noncomputable abbrev scB (ad : Ad) : SS := (sCons (sPar 7 8 (aCons (eCall (f__law_draw ad) [] (aCons (eVar 0) (aCons (eBlt bLen (aCons (eVar 4) aNil)) aNil))) (aCons (eOp (dAdd false) (eC (.int 1)) (eCall (f__law_draw ad) [] (aCons (eVar 0) (aCons (eBlt bLen (aCons (eVar 4) aNil)) aNil)))) aNil))) (sCons (sAsg (eBlt bTuple (aCons (eSl (dSl false) (eVar 4) (oSome (eVar 7)) (oSome (eOp (dAdd false) (eVar 7) (eVar 8)))) aNil)) (gName 9)) (sCons (sIf (tOf (eOp (dCmp .lt) (eCall (f__law_high ad 10) [] (aCons (eVar 9) aNil)) (eC (.int 5)))) (sCons (sAsg (eOp (dAdd false) (eOp (dAdd false) (eSl (dSl false) (eVar 4) oNone (oSome (eVar 7))) (eLst false (aCons (eTup (aCons (eVar 6) (aCons (eCall (f__law_cap ad) [] (aCons (eVar 0) (aCons (eVar 3) aNil))) (aCons (eVar 9) aNil)))) aNil))) (eSl (dSl false) (eVar 4) (oSome (eOp (dAdd false) (eVar 7) (eVar 8))) oNone)) (gName 4)) sNil) sNil) sNil)))
abbrev scS (p : Nat) (U Gd : D) (line : List Tr) (a b c d e : Option D) : St := [some (.ref p), some U, some Gd, some (.int 9), some (.lst (toDs line)), a, b, c, d, e]
theorem len_lst {xs : List D} {hs : Hs} : bLen [.lst xs] hs = .ok (.int (xs.length : Nat)) hs := rfl
theorem len_tup {xs : List D} {hs : Hs} : bLen [.tup xs] hs = .ok (.int (xs.length : Nat)) hs := rfl
theorem tuple_lst {xs : List D} {hs : Hs} (h : xs.length ≤ 1000) : bTuple [.lst xs] hs = .ok (.tup xs) hs := mkT_s h
theorem scStep {ad : Ad} {hs : Hs} {p : Nat} (C : Clo hs) (lt : p < hs.length) {t : T3} {U Gd : D} {us G gs : List Str} {x : Str} {line : List Tr} {a c d e : Option D} (L : Ln us G (x :: gs) line) (hG : x ∈ G) (nd : (x :: gs).Nodup) (nx : NameOk x) :
    ∃ line' a' b' c' d' e' t', scB ad (scS p U Gd line a (some (.str x)) c d e) (At hs p t) = .ok (.nx, scS p U Gd line' a' b' c' d' e') (At hs p t') ∧ Ln us G gs line' := by
  obtain ⟨n, hn⟩ : ∃ n, line.length = n + 1 := ⟨line.length - 1, by have := L.ne; omega⟩
  have n12 : n + 1 ≤ 12 := by have := L.le; omega
  have lD : (toDs line).length = n + 1 := by rw [toDs_map, List.length_map, hn]
  have d1 := draw_at (ad := ad) (t := t) (m := (n + 1 : Nat)) C lt (dv_small (by omega))
  have d2 := draw_at (ad := ad) (t := (drawn (n + 1 : Nat) t).2) (m := (n + 1 : Nat)) C lt (dv_small (by omega))
  obtain ⟨p0, p1⟩ := drawn_range (m := (n + 1 : Nat)) (t := t) (by omega)
  obtain ⟨q0, q1⟩ := drawn_range (m := (n + 1 : Nat)) (t := (drawn (n + 1 : Nat) t).2) (by omega)
  obtain ⟨i, hi⟩ := Int.eq_ofNat_of_zero_le p0
  obtain ⟨k, hk⟩ := Int.eq_ofNat_of_zero_le q0
  rw [hi] at d1 p1
  rw [hk] at d2 q1
  generalize ht : (drawn (n + 1 : Nat) (drawn (n + 1 : Nat) t).2).2 = u at d2
  obtain ⟨j, hj⟩ : ∃ j, j = i + (1 + k) := ⟨_, rfl⟩
  have eJ : (i : Int) + (1 + (k : Int)) = (j : Nat) := by omega
  obtain ⟨ll, hl⟩ : ∃ l, l = min j (n + 1) := ⟨_, rfl⟩
  have il : i < ll := by omega
  -- the parts
  have pa : dSl false (.lst (toDs line)) (some (i : Int)) (some (j : Int)) (At hs p u) = .ok (.lst (toDs ((line.drop i).take (ll - i)))) (At hs p u) := by
    have := sl_n (xs := toDs line) (hs := At hs p u) (some i) (some j) (by omega)
    simp only [Option.map_some, Option.elim_some, lD] at this
    rw [this, toDs_map, toDs_map, List.map_take, List.map_drop, Nat.min_eq_left (show i ≤ n + 1 by omega), ← hl]
  have pb : ∀ v, dSl false (.lst (toDs line)) none (some (i : Int)) (At hs p v) = .ok (.lst (toDs (line.take i))) (At hs p v) := fun v => by
    have := sl_n (xs := toDs line) (hs := At hs p v) none (some i) (by omega)
    simp only [Option.map_some, Option.elim_some, Option.map_none, Option.elim_none, lD, List.drop_zero, Nat.sub_zero] at this
    rw [this, toDs_map, toDs_map, List.map_take, Nat.min_eq_left (show i ≤ n + 1 by omega)]
  have pc : ∀ v, dSl false (.lst (toDs line)) (some (j : Int)) none (At hs p v) = .ok (.lst (toDs (line.drop ll))) (At hs p v) := fun v => by
    have := sl_n (xs := toDs line) (hs := At hs p v) (some j) none (by omega)
    simp only [Option.map_some, Option.elim_some, Option.map_none, Option.elim_none, lD] at this
    rw [this, toDs_map, toDs_map, List.map_drop, ← hl, List.take_of_length_le (by simp; omega)]
  obtain ⟨m, hm⟩ : ∃ m, m = (line.drop i).take (ll - i) := ⟨_, rfl⟩
  have split : line = line.take i ++ m ++ line.drop ll := by
    rw [hm, List.append_assoc]
    have : (line.drop i).take (ll - i) ++ line.drop ll = line.drop i := by
      conv => rhs; rw [← List.take_append_drop (ll - i) (line.drop i)]
      rw [List.drop_drop, show i + (ll - i) = ll by omega]
    rw [this, List.take_append_drop]
  have ml : 0 < m.length := by rw [hm]; simp; omega
  have mle : m.length ≤ 12 := by rw [hm]; simp; omega
  rw [← hm] at pa
  have ok := (okTs_iff line).mp L.ok
  have mok : okTs m := (okTs_iff m).mpr fun t ht => ok t (by rw [split]; simp [ht])
  have mhi : hiL m ≤ 5 := by
    have := L.hi
    rw [split, hiL_app, hiL_app] at this
    omega
  have mD : (toDs m).length ≤ 12 := by rw [toDs_map, List.length_map]; exact mle
  have hh := s_high (ad := ad) 9 m (At hs p u) (clo_set C) mok (by omega) (by omega)
  have cap := s_cap (ad := ad) C lt (t := u)
  have tl := tuple_lst (xs := toDs m) (hs := At hs p u) (by omega)
  by_cases h5 : hiL m < 5
  · refine ⟨line.take i ++ [Tr.grp x (capT u).1 m] ++ line.drop ll, a, some (.str x), some (.int i), some (.int ((1 + k : Nat) : Int)), some (.tup (toDs m)), (capT u).2, ?_, Ln.put (split ▸ L) ml hG nd nx capT_ok h5⟩
    have ek : (1 : Int) + (k : Int) = ((1 + k : Nat) : Int) := by omega
    have eJ2 : (i : Int) + ((1 + k : Nat) : Int) = (j : Nat) := by omega
    have h5' : ((hiL m : Nat) : Int) < 5 := by omega
    have e0 : toDs (line.take i ++ [Tr.grp x (capT u).1 m] ++ line.drop ll) = toDs (line.take i) ++ [.tup [.str x, limD (capT u).1, .tup (toDs m)]] ++ toDs (line.drop ll) := by
      simp only [toDs_map, List.map_append, List.map_cons, List.map_nil, toD]
    have s1 : ∀ v, dAdd false (.lst (toDs (line.take i))) (.lst [.tup [.str x, limD (capT u).1, .tup (toDs m)]]) (At hs p v) = .ok (.lst (toDs (line.take i) ++ [.tup [.str x, limD (capT u).1, .tup (toDs m)]])) (At hs p v) := fun v => add_s (by simp [toDs_map]; omega)
    have s2 : ∀ v, dAdd false (.lst (toDs (line.take i) ++ [.tup [.str x, limD (capT u).1, .tup (toDs m)]])) (.lst (toDs (line.drop ll))) (At hs p v) = .ok (.lst (toDs (line.take i) ++ [.tup [.str x, limD (capT u).1, .tup (toDs m)]] ++ toDs (line.drop ll))) (At hs p v) := fun v => add_s (by simp [toDs_map]; omega)
    unfold scB
    simp only [sPar, u_Cons, u_Asg, u_If, x_C, x_Op, x_Lst, x_Cons, x_Nil, x_Var, x_Tup, x_Call, x_Blt, g_Name, t_Of, eSl, oSome, oNone, Res.bind_ok, List.set_cons_zero, List.set_cons_succ, List.getElem?_cons_zero, List.getElem?_cons_succ, List.append_nil, len_lst, lD, d1, d2, add_int, ek, eJ2, pa, tl, hh, lt_int, cmpI, decide_eq_true_eq, h5', t_bl, decide_true, if_true, reduceIte, pb, pc, cap, mkT_s, mkL_s, List.length_cons, List.length_nil, Nat.reduceAdd, Nat.reduceLeDiff, s1, s2, u_Nil]
    simp only [scS, e0]
  · refine ⟨line, a, some (.str x), some (.int i), some (.int ((1 + k : Nat) : Int)), some (.tup (toDs m)), u, ?_, L.skip⟩
    have ek : (1 : Int) + (k : Int) = ((1 + k : Nat) : Int) := by omega
    have eJ2 : (i : Int) + ((1 + k : Nat) : Int) = (j : Nat) := by omega
    have h5' : ¬ ((hiL m : Nat) : Int) < 5 := by omega
    unfold scB
    simp only [sPar, u_Cons, u_Asg, u_If, x_C, x_Op, x_Lst, x_Cons, x_Nil, x_Var, x_Tup, x_Call, x_Blt, g_Name, t_Of, eSl, oSome, oNone, Res.bind_ok, List.set_cons_zero, List.set_cons_succ, List.getElem?_cons_zero, List.getElem?_cons_succ, List.append_nil, len_lst, lD, d1, d2, add_int, ek, eJ2, pa, tl, hh, lt_int, cmpI, decide_eq_true_eq, h5', t_bl, decide_false, if_false, reduceIte, Bool.false_eq_true, u_Nil]
theorem scLoop {ad : Ad} {hs : Hs} {p : Nat} (C : Clo hs) (lt : p < hs.length) {U Gd : D} {us G : List Str} {ok : Hs → Prop} (hok : ∀ h, ok h) : ∀ (gs : List Str) (t : T3) (line : List Tr) (a b c d e : Option D), Ln us G gs line → gs.Nodup → (∀ g ∈ gs, g ∈ G ∧ NameOk g) →
    ∃ line' a' b' c' d' e' t', forGo ok (gName 6) (scB ad) (sD gs) (scS p U Gd line a b c d e) (At hs p t) = .ok (.nx, scS p U Gd line' a' b' c' d' e') (At hs p t') ∧ Ln us G [] line'
  | [], t, line, a, b, c, d, e, L, _, _ => ⟨line, a, b, c, d, e, t, rfl, L⟩
  | x :: gs, t, line, a, b, c, d, e, L, nd, hg => by
    obtain ⟨line1, a1, b1, c1, d1, e1, t1, r1, L1⟩ := scStep (ad := ad) C lt (t := t) (U := U) (Gd := Gd) (a := a) (c := c) (d := d) (e := e) L (hg x List.mem_cons_self).1 nd (hg x List.mem_cons_self).2
    obtain ⟨line2, a2, b2, c2, d2, e2, t2, r2, L2⟩ := scLoop C lt hok gs t1 line1 a1 b1 c1 d1 e1 L1 (List.nodup_cons.mp nd).2 (fun g h => hg g (List.mem_cons_of_mem _ h))
    refine ⟨line2, a2, b2, c2, d2, e2, t2, ?_, L2⟩
    show (((gName 6 (.str x) (scS p U Gd line a b c d e) (At hs p t)).bind fun σ1 h1 => (scB ad σ1 h1).bind fun r h2 => match r.1 with
      | .nx => chk (ok h2) (forGo ok (gName 6) (scB ad) (sD gs) r.2 h2)
      | .ct => chk (ok h2) (forGo ok (gName 6) (scB ad) (sD gs) r.2 h2)
      | .bk => .ok (.nx, r.2) h2
      | .rt d => .ok (.rt d, r.2) h2)) = _
    rw [g_Name, Res.bind_ok]
    have : List.set (scS p U Gd line a b c d e) 6 (some (.str x)) = scS p U Gd line a (some (.str x)) c d e := rfl
    rw [this, r1, Res.bind_ok]
    exact (chk_pos (hok _)).trans r2
/-- what is drawn -/
structure Wf (t : Tr) : Prop where
  ok : okT t
  gr : ∃ x c ps, t = .grp x c ps
  nu : (users t).length ≤ 12
  n0 : 0 < (users t).length
  ng : (groups t).length ≤ 12
  hi : hi t ≤ 6
  nod : (users t ++ groups t).Nodup
theorem s_scheme {ad : Ad} {hs : Hs} {p : Nat} (C : Clo hs) (lt : p < hs.length) {t : T3} {us : List Str} {g : Str} {gs : List Str} (hu : us.length ≤ 12) (u0 : 0 < us.length) (hg : gs.length ≤ 11) (nd : (us ++ g :: gs).Nodup) (ok : ∀ x ∈ us ++ g :: gs, NameOk x) :
    ∃ T t', f__law_scheme ad [.ref p, .lst (sD us), .lst (sD (g :: gs)), .int 9] (At hs p t) = .ok (toD T) (At hs p t') ∧ Wf T := by
  have nds := List.nodup_append.mp nd
  obtain ⟨xs, h', e, w, v0, rfl⟩ := x_LCa (g := D.str) (P := fun h => ∃ t', h = At hs p t') (ok := fun _ => True) (R := fun (x : Str) d => ∃ l, capOk l ∧ d = toD (.usr x l)) (i := 5) (own := [5]) (el := eTup (aCons (eVar 5) (aCons (eCall (f__law_cap ad) [] (aCons (eVar 0) (aCons (eVar 3) aNil))) aNil))) (σ := startS 10 [.ref p, .lst (sD us), .lst (sD (g :: gs)), .int 9]) (h0 := At hs p t) (m := iSeq (eVar 1)) (as := us)
    (h1 := At hs p t) (by
      have e : iSeq (eVar 1) (startS 10 [.ref p, .lst (sD us), .lst (sD (g :: gs)), .int 9]) (At hs p t) = .ok (sD us, fun h' => asL h' (.lst (sD us)) = some (sD us)) (At hs p t) := rfl
      rw [e]
      simp [asL]) ⟨t, rfl⟩ (fun _ _ => trivial) (by omega) (by
      rintro x hx _ ⟨u, rfl⟩
      have cp := s_cap (ad := ad) C lt (t := u)
      refine ⟨toD (.usr x (capT u).1), At hs p (capT u).2, ?_, ⟨_, capT_ok, rfl⟩, (capT u).2, rfl⟩
      simp [wipe, cp, mkT_s, toD])
  have q : ∀ {us : List Str} {xs : List D}, Twa (fun (x : Str) d => ∃ l, capOk l ∧ d = toD (.usr x l)) us xs → (∀ x ∈ us, NameOk x) → ∃ line, xs = toDs line ∧ okTs line ∧ usersL line = us ∧ groupsL line = [] ∧ hiL line = 0 ∧ line.length = us.length := by
    intro us xs w
    induction w with
    | nil => exact fun _ => ⟨[], rfl, trivial, rfl, rfl, rfl, rfl⟩
    | cons h _ ih =>
      intro nk
      obtain ⟨l, hl, rfl⟩ := h
      obtain ⟨line, rfl, o, a, b, c, d⟩ := ih fun x hx => nk x (List.mem_cons_of_mem _ hx)
      exact ⟨.usr _ l :: line, rfl, ⟨⟨nk _ List.mem_cons_self, hl⟩, o⟩, by rw [usersL, a]; rfl, by rw [groupsL, b]; rfl, by rw [hiL, c]; rfl, by simp [d]⟩
  obtain ⟨line, rfl, o, lu, lg, lh, ll⟩ := q w fun x hx => ok x (List.mem_append_left _ hx)
  have L0 : Ln us gs gs line := ⟨by omega, by omega, o, by omega, lu, by rw [lg]; exact List.nodup_nil, by rw [lg]; simp, by rw [lg]; simp, by rw [lg]; simpa using hg⟩
  obtain ⟨line', a', b', c', d', e', t2, lp, L⟩ := scLoop (ad := ad) C lt (U := .lst (sD us)) (Gd := .lst (sD (g :: gs))) (ok := fun _ => True) (fun _ => trivial) gs v0 line none none none none none L0 (List.nodup_cons.mp nds.2.1).2 (fun x hx => ⟨hx, ok x (by simp [hx])⟩)
  have cp := s_cap (ad := ad) C lt (t := t2)
  refine ⟨.grp g (capT t2).1 line', (capT t2).2, ?_, ?_⟩
  · refine fn_rt (σ' := scS p (.lst (sD us)) (.lst (sD (g :: gs))) line' a' b' c' d' e') rfl ?_ (by
      rw [show (At hs p t).length = hs.length from List.length_set]
      exact fin_at2 C (nr_toD _))
    have sl : ∀ v, dSl false (.lst (sD (g :: gs))) (some (1 : Int)) none (At hs p v) = .ok (.lst (sD gs)) (At hs p v) := fun v => by
      have := sl_n (xs := sD (g :: gs)) (hs := At hs p v) (some 1) none (by simp; omega)
      simp only [Option.map_some, Option.elim_some, Option.map_none, Option.elim_none] at this
      rw [show (1 : Int) = ((1 : Nat) : Int) from rfl, this]
      simp
      exact List.take_of_length_le (by simp)
    have e1 : sSetLC false [5] (iSeq (eVar 1)) (lc1 (gName 5) tYes (eTup (aCons (eVar 5) (aCons (eCall (f__law_cap ad) [] (aCons (eVar 0) (aCons (eVar 3) aNil))) aNil)))) 4 (startS 10 [.ref p, .lst (sD us), .lst (sD (g :: gs)), .int 9]) (At hs p t) = .ok (.nx, scS p (.lst (sD us)) (.lst (sD (g :: gs))) line none none none none none) (At hs p v0) := by
      unfold sSetLC
      rw [e]
      rfl
    have e2 : sFor (iSeq (eSl (dSl false) (eVar 2) (oSome (eC (.int 1))) oNone)) (gName 6) (scB ad) (scS p (.lst (sD us)) (.lst (sD (g :: gs))) line none none none none none) (At hs p v0) = .ok (.nx, scS p (.lst (sD us)) (.lst (sD (g :: gs))) line' a' b' c' d' e') (At hs p t2) := by
      unfold sFor iSeq eSl oSome oNone
      simp only [x_Var, x_C, Res.bind_ok, List.getElem?_cons_zero, List.getElem?_cons_succ, sl, asL]
      exact lp
    unfold b__law_scheme
    rw [u_Cons, e1, Res.bind_ok]
    simp only
    rw [u_Cons, e2, Res.bind_ok]
    simp only
    have tl := tuple_lst (xs := toDs line') (hs := At hs p (capT t2).2) (by rw [toDs_map, List.length_map]; have := L.le; omega)
    have ix : ∀ v, dIx (.lst (sD (g :: gs))) (.int 0) (At hs p v) = .ok (.str g) (At hs p v) := fun v => lst0
    simp only [scS, u_Cons, u_Ret, x_Tup, x_Cons, x_Op, x_Var, x_C, x_Call, x_Blt, x_Nil, Res.bind_ok, List.getElem?_cons_zero, List.getElem?_cons_succ, List.append_nil, ix, cp, tl, mkT_s, List.length_cons, List.length_nil, Nat.reduceAdd, Nat.reduceLeDiff, toD]
  · have gl : (groupsL line').length ≤ 11 := by have := L.cnt; simp at this; omega
    have hin : ∀ x ∈ groupsL line', x ∈ gs := L.gG
    refine ⟨?_, ⟨_, _, _, rfl⟩, by rw [users, L.us]; exact hu, by rw [users, L.us]; exact u0, by simp [groups]; omega, by have := L.hi; rw [Qo.hi]; omega, ?_⟩
    · rw [okT]
      exact ⟨ok g (by simp), capT_ok, L.ne, by have := L.le; omega, L.ok⟩
    · rw [users, L.us, groups]
      refine List.nodup_append.mpr ⟨nds.1, List.nodup_cons.mpr ⟨fun h => (List.nodup_cons.mp nds.2.1).1 (hin g h), L.gn⟩, fun a ha b hb => ?_⟩
      refine nds.2.2 a ha b ?_
      rcases List.mem_cons.mp hb with rfl | hb
      · exact List.mem_cons_self
      · exact List.mem_cons_of_mem _ (hin b hb)
theorem s_drawn {ad : Ad} {hs : Hs} {p : Nat} (C : Clo hs) (lt : p < hs.length) {t : T3} : ∃ T t', f__law_drawn ad [.ref p, .int 9] (At hs p t) = .ok (toD T) (At hs p t') ∧ Wf T := by
  obtain ⟨ws, u, ew, W⟩ := s_words (ad := ad) C lt (t := t)
  have d1 := draw_at (ad := ad) (t := u) (m := (11 + 1 : Nat)) C lt (dv_small (by omega))
  have d2 := draw_at (ad := ad) (t := (drawn (11 + 1 : Nat) u).2) (m := (11 + 1 : Nat)) C lt (dv_small (by omega))
  obtain ⟨p0, p1⟩ := drawn_range (m := (11 + 1 : Nat)) (t := u) (by omega)
  obtain ⟨q0, q1⟩ := drawn_range (m := (11 + 1 : Nat)) (t := (drawn (11 + 1 : Nat) u).2) (by omega)
  obtain ⟨i, hi⟩ := Int.eq_ofNat_of_zero_le p0
  obtain ⟨k, hk⟩ := Int.eq_ofNat_of_zero_le q0
  rw [hi] at d1 p1
  rw [hk] at d2 q1
  generalize hv : (drawn (11 + 1 : Nat) (drawn (11 + 1 : Nat) u).2).2 = v at d2
  have sa : ∀ v, dSl false (.lst (sD ws)) none (some ((1 + i : Nat) : Int)) (At hs p v) = .ok (.lst (sD (ws.take (1 + i)))) (At hs p v) := fun v => by
    have := sl_n (xs := sD ws) (hs := At hs p v) none (some (1 + i)) (by simp [W.len])
    simp only [Option.map_some, Option.elim_some, Option.map_none, Option.elim_none, List.drop_zero, Nat.sub_zero] at this
    rw [this]
    simp [W.len, Nat.min_eq_left (show 1 + i ≤ 24 by omega)]
  have sb : ∀ v, dSl false (.lst (sD ws)) (some ((12 : Nat) : Int)) (some ((13 + k : Nat) : Int)) (At hs p v) = .ok (.lst (sD ((ws.drop 12).take (1 + k)))) (At hs p v) := fun v => by
    have := sl_n (xs := sD ws) (hs := At hs p v) (some 12) (some (13 + k)) (by simp [W.len])
    simp only [Option.map_some, Option.elim_some, Option.map_none, Option.elim_none] at this
    rw [this]
    simp [W.len, Nat.min_eq_left (show 13 + k ≤ 24 by omega), show 13 + k - 12 = 1 + k by omega]
  obtain ⟨g, gs, hg⟩ : ∃ g gs, (ws.drop 12).take (1 + k) = g :: gs := by
    cases h : (ws.drop 12).take (1 + k) with
    | nil =>
      have := congrArg List.length h
      simp [W.len] at this
    | cons g gs => exact ⟨g, gs, rfl⟩
  have lg : gs.length ≤ 11 := by
    have := congrArg List.length hg
    simp [W.len] at this
    omega
  have lu : (ws.take (1 + i)).length = 1 + i := by simp [W.len]; omega
  have sub : (ws.take (1 + i) ++ g :: gs).Sublist ws := by
    rw [← hg]
    have a : (ws.take (1 + i)).Sublist (ws.take 12) := by
      rw [show ws.take (1 + i) = (ws.take 12).take (1 + i) by rw [List.take_take, Nat.min_eq_left (by omega)]]
      exact List.take_sublist _ _
    have b := (a.append (List.take_sublist (1 + k) (ws.drop 12)))
    rwa [List.take_append_drop] at b
  obtain ⟨T, t', e, w⟩ := s_scheme (ad := ad) C lt (t := v) (us := ws.take (1 + i)) (g := g) (gs := gs) (by omega) (by omega) lg (sub.nodup W.nod) (fun x hx => W.ok x (sub.subset hx))
  rw [hg] at sb
  refine ⟨T, t', fn_rt (σ' := [some (.ref p), some (.int 9), some (.lst (sD ws))]) rfl ?_ (by
      rw [show (At hs p t).length = hs.length from List.length_set]
      exact fin_at2 C (nr_toD _)), w⟩
  have e1 : (1 : Int) + (i : Int) = ((1 + i : Nat) : Int) := by omega
  have e2 : (13 : Int) + (k : Int) = ((13 + k : Nat) : Int) := by omega
  have e3 : ((11 + 1 : Nat) : Int) = 12 := by omega
  have e4 : ((12 : Nat) : Int) = 12 := by omega
  rw [e3] at d1 d2
  rw [e4] at sb
  generalize sD (g :: gs) = gd at sb e
  unfold b__law_drawn
  simp only [u_Cons, u_Asg, u_Ret, g_Name, x_Call, x_Cons, x_Op, x_Var, x_C, x_Nil, eSl, oSome, oNone, v_start, List.map_cons, List.map_nil, List.length_cons, List.length_nil, List.replicate, List.cons_append, List.nil_append, Nat.reduceAdd, Nat.reduceSub, List.set_cons_zero, List.set_cons_succ, List.getElem?_cons_zero, List.getElem?_cons_succ, List.append_nil, Res.bind_ok, ew, d1, d2, add_int, e1, e2, sa, sb, e]
end Qo
-- M12
set_option maxRecDepth 100000
set_option maxHeartbeats 1000000
namespace Qo
open PySem
section
variable {ad : Ad} (I : IsF ad) {hs : Hs} (C : Clo hs)
include I C
theorem s_is_limit {l : Option Int} (h : capOk l) : f_is_limit ad [limD l] hs = .ok (.bl true) hs := by
  cases l with
  | none => exact s_is_limit_n I C
  | some i => exact s_is_limit_i I C (h i rfl)
theorem s_is_node {t : Tr} (h : okT t) : f_is_node ad [toD t] hs = .ok (.bl true) hs := by
  have f := fin_bl (x := true) C
  cases t with
  | usr x l =>
    rw [okT] at h
    have n := s_is_name I C h.1
    have m := s_is_limit I C h.2
    simp [f_is_node, b_is_node, fnS, grd, bIsi, tyN, clsN, I.i3, eChain, len_tup, cmpI, toD, n, m, f]
  | grp x l ps =>
    rw [okT] at h
    have n := s_is_name I C h.1
    have m := s_is_limit I C h.2.1
    have z : 0 < (toDs ps).length := by rw [toDs_map, List.length_map]; exact h.2.2.1
    simp [f_is_node, b_is_node, fnS, grd, bIsi, tyN, clsN, I.i3, eChain, len_tup, cmpI, toD, n, m, f, z]
theorem s_grp_u {x : Str} {l : Option Int} : f_is_group ad [toD (.usr x l)] hs = .ok (.bl false) hs := by
  rw [toD, s_is_group I C]; rfl
theorem s_grp_g {x : Str} {l : Option Int} {ps : List Tr} : f_is_group ad [toD (.grp x l ps)] hs = .ok (.bl true) hs := by
  rw [toD, s_is_group I C]; rfl
end
/-! ### two cells more -/
mutual
theorem wk_iff {b c : Nat} (l : b ≤ c) : ∀ d : D, (wk (low b) d).isSome = true → (wk (low c) d).isSome = true
  | .ref i, h => by
    rw [wk] at h ⊢
    unfold low at h ⊢
    by_cases hi : i < b
    · rw [if_pos (by omega)]; rfl
    · rw [if_neg hi] at h; cases h
  | .tup xs, h => by
    rw [wk, Option.isSome_map] at h ⊢
    exact wks_iff l xs h
  | .lst xs, h => by
    rw [wk, Option.isSome_map] at h ⊢
    exact wks_iff l xs h
  | .dct ks vs, h => by
    rw [wk, Option.isSome_map] at h ⊢
    exact wks_iff l vs h
  | .obj c ns vs, h => by
    rw [wk, Option.isSome_map] at h ⊢
    exact wks_iff l vs h
  | .non, _ => by rw [wk]; rfl
  | .bl _, _ => by rw [wk]; rfl
  | .int _, _ => by rw [wk]; rfl
  | .str _, _ => by rw [wk]; rfl
  | .fn _, _ => by rw [wk]; rfl
  | .ty _, _ => by rw [wk]; rfl
theorem wks_iff {b c : Nat} (l : b ≤ c) : ∀ ds : List D, (wks (low b) ds).isSome = true → (wks (low c) ds).isSome = true
  | [], _ => by rw [wks]; rfl
  | d :: ds, h => by
    rw [wks] at h ⊢
    have a : (wk (low b) d).isSome = true := by
      cases e : wk (low b) d with
      | none => rw [e] at h; cases h
      | some _ => rfl
    have z : (wks (low b) ds).isSome = true := by
      cases e : wks (low b) ds with
      | none => rw [e] at h; cases e2 : wk (low b) d <;> rw [e2] at h <;> cases h
      | some _ => rfl
    obtain ⟨u, hu⟩ := Option.isSome_iff_exists.mp (wk_iff l d a)
    obtain ⟨v, hv⟩ := Option.isSome_iff_exists.mp (wks_iff l ds z)
    rw [hu, hv]; rfl
end
theorem cloC_le {b c : Nat} (l : b ≤ c) : ∀ x : Cell, cloC b x = true → cloC c x = true
  | .lst xs, h => wks_iff l xs h
  | .dct _ vs, h => wks_iff l vs h
  | .ins _ _ vs, h => wks_iff l vs h
/-- a cell of pure data -/
def pureC : Cell → Bool
  | .lst xs => noRefs xs
  | .dct _ vs => noRefs vs
  | .ins _ _ vs => noRefs vs
theorem cloC_pure {b : Nat} : ∀ c : Cell, pureC c = true → cloC b c = true
  | .lst xs, h => by show (wks (low b) xs).isSome = true; rw [wks_pure xs h]; rfl
  | .dct _ vs, h => by show (wks (low b) vs).isSome = true; rw [wks_pure vs h]; rfl
  | .ins _ _ vs, h => by show (wks (low b) vs).isSome = true; rw [wks_pure vs h]; rfl
theorem clo_app {hs : Hs} {more : List (Bool × Cell)} (C : Clo hs) (h : ∀ c ∈ more, pureC c.2 = true) : Clo (hs ++ more) := by
  unfold Clo at *
  rw [List.all_eq_true] at *
  intro c hc
  rcases List.mem_append.mp hc with hc | hc
  · exact cloC_le (by simp) _ (C c hc)
  · exact cloC_pure _ (h c hc)
theorem fin_cut {hs : Hs} {more : List (Bool × Cell)} {d : D} (C : Clo hs) (n : noRef d = true) : finR false hs.length d (hs ++ more) = .ok d hs := by
  unfold finR
  rw [if_neg Bool.false_ne_true]
  have : frz (hs ++ more) hs.length d = some d := wk_pure d n
  rw [this, List.take_left']
  · exact grd_pos C
  · rfl
abbrev Wc (hs : Hs) (st nm : List D) : Hs := hs ++ [(false, .lst st), (false, .lst nm)]
theorem wc0 {hs : Hs} {st nm : List D} : (Wc hs st nm)[hs.length]? = some (false, .lst st) := by
  rw [List.getElem?_append_right (Nat.le_refl _), Nat.sub_self]; rfl
theorem wc1 {hs : Hs} {st nm : List D} : (Wc hs st nm)[hs.length + 1]? = some (false, .lst nm) := by
  rw [List.getElem?_append_right (by omega), show hs.length + 1 - hs.length = 1 by omega]; rfl
theorem ws0 {hs : Hs} {st nm st' : List D} : (Wc hs st nm).set hs.length (false, .lst st') = Wc hs st' nm := by
  rw [List.set_append_right _ _ (Nat.le_refl _), Nat.sub_self]; rfl
theorem ws1 {hs : Hs} {st nm nm' : List D} : (Wc hs st nm).set (hs.length + 1) (false, .lst nm') = Wc hs st nm' := by
  rw [List.set_append_right _ _ (by omega), show hs.length + 1 - hs.length = 1 by omega]; rfl
theorem wcC {hs : Hs} {st nm : List D} (C : Clo hs) (a : noRefs st = true) (b : noRefs nm = true) : Clo (Wc hs st nm) := clo_app C fun c hc => by
  rcases List.mem_cons.mp hc with rfl | hc
  · exact a
  · rw [List.mem_singleton] at hc; subst hc; exact b
end Qo
-- M13
set_option maxRecDepth 100000
set_option maxHeartbeats 1000000
namespace Qo
open PySem
mutual
/-- the names, as walk meets them -/
def nm : Tr → List Str
  | .usr x _ => [x]
  | .grp x _ ps => x :: nmL ps
def nmL : List Tr → List Str
  | [] => []
  | t :: ts => nm t ++ nmL ts
end
theorem nmL_app : ∀ a b : List Tr, nmL (a ++ b) = nmL a ++ nmL b
  | [], b => rfl
  | t :: a, b => by rw [List.cons_append, nmL, nmL_app a b, nmL, List.append_assoc]
mutual
theorem nm_perm : ∀ t : Tr, (nm t).Perm (users t ++ groups t)
  | .usr x _ => by rw [nm, users, groups]; exact List.Perm.refl _
  | .grp x _ ps => by
    rw [nm, users, groups]
    exact ((nmL_perm ps).cons x).trans List.perm_middle.symm
theorem nmL_perm : ∀ ts : List Tr, (nmL ts).Perm (usersL ts ++ groupsL ts)
  | [] => List.Perm.refl _
  | t :: ts => by
    rw [nmL, usersL, groupsL]
    have e := (nm_perm t).append (nmL_perm ts)
    refine e.trans ?_
    rw [List.append_assoc, List.append_assoc]
    refine List.Perm.append_left _ ?_
    rw [← List.append_assoc, ← List.append_assoc]
    exact List.Perm.append_right _ List.perm_append_comm
end
mutual
theorem nm_ok : ∀ t : Tr, okT t → ∀ x ∈ nm t, NameOk x
  | .usr x _, h, y, hy => by
    rw [nm, List.mem_singleton] at hy
    rw [okT] at h
    exact hy ▸ h.1
  | .grp x _ ps, h, y, hy => by
    rw [okT] at h
    rw [nm] at hy
    rcases List.mem_cons.mp hy with rfl | hy
    · exact h.1
    · exact nmL_ok ps h.2.2.2.2 y hy
theorem nmL_ok : ∀ ts : List Tr, okTs ts → ∀ x ∈ nmL ts, NameOk x
  | [], _, y, hy => nomatch hy
  | t :: ts, h, y, hy => by
    rw [okTs] at h
    rw [nmL] at hy
    rcases List.mem_append.mp hy with hy | hy
    · exact nm_ok t h.1 y hy
    · exact nmL_ok ts h.2 y hy
end
def isG : Tr → Bool
  | .grp _ _ _ => true
  | _ => false
def tname : Tr → Str
  | .usr x _ => x
  | .grp x _ _ => x
def tparts : Tr → List Tr
  | .usr _ _ => []
  | .grp _ _ ps => ps
theorem nm_eq (t : Tr) : nm t = tname t :: nmL (tparts t) := by cases t <;> rfl
structure Td where
  path : List Int
  t : Tr
  k : Nat
def enc (w : Td) : D := .tup [.tup (w.path.map D.int), toD w.t, .int w.k]
def kids (w : Td) : List Td := (tparts w.t).zipIdx.map fun p => ⟨w.path ++ [(p.2 : Int)], p.1, w.k + 1⟩
/-- what waits -/
def nmW (ws : List Td) : List Str := nmL (ws.map Td.t)
structure Jv (N : List Str) (a c : Nat) (ws : List Td) : Prop where
  ok : ∀ w ∈ ws, okT w.t ∧ w.k + hi w.t ≤ 7 ∧ (w.path = [] → isG w.t = true) ∧ w.path.length < w.k
  nod : (N ++ nmW ws).Nodup
  nk : ∀ x ∈ N, NameOk x
  nl : N.length = a + c
  us : a + (usersL (ws.map Td.t)).length ≤ 12
  gs : c + (groupsL (ws.map Td.t)).length ≤ 12
theorem nr_enc : ∀ ws : List Td, noRefs (ws.map enc) = true := fun ws => by
  rw [noRefs_iff]
  intro d hd
  obtain ⟨w, _, rfl⟩ := List.mem_map.mp hd
  have : ∀ xs : List Int, noRefs (xs.map D.int) = true := fun xs => by
    rw [noRefs_iff]
    intro d hd
    obtain ⟨i, _, rfl⟩ := List.mem_map.mp hd
    rfl
  unfold enc
  simp only [noRef, noRefs, this, nr_toD, Bool.and_true]
theorem nr_encR (ws : List Td) : noRefs (ws.map enc).reverse = true := by
  have := nr_enc ws
  rw [noRefs_iff] at this ⊢
  intro d hd
  exact this d (List.mem_reverse.mp hd)
theorem nmL_len (ts : List Tr) : (nmL ts).length = (usersL ts).length + (groupsL ts).length := by
  rw [(nmL_perm ts).length_eq, List.length_append]
theorem nmL_ge : ∀ ts : List Tr, ts.length ≤ (nmL ts).length
  | [] => by simp
  | t :: ts => by
    rw [nmL, nm_eq]
    have := nmL_ge ts
    simp
    omega
theorem kids_t (w : Td) : (kids w).map Td.t = tparts w.t := by
  unfold kids
  rw [List.map_map]
  have : (Td.t ∘ fun p : Tr × Nat => (⟨w.path ++ [(p.2 : Int)], p.1, w.k + 1⟩ : Td)) = Prod.fst := rfl
  rw [this, List.zipIdx_map_fst]
theorem Jv.step {N : List Str} {a c : Nat} {w : Td} {ws : List Td} (J : Jv N a c (w :: ws)) : Jv (N ++ [tname w.t]) (if isG w.t then a else a + 1) (if isG w.t then c + 1 else c) (kids w ++ ws) := by
  obtain ⟨ok, nod, nk, nl, us, gs⟩ := J
  obtain ⟨o1, o2, o3, o4⟩ := ok w List.mem_cons_self
  refine ⟨?_, ?_, ?_, ?_, ?_, ?_⟩
  · intro v hv
    rcases List.mem_append.mp hv with hv | hv
    · unfold kids at hv
      obtain ⟨q, hq, rfl⟩ := List.mem_map.mp hv
      have hm : q.1 ∈ tparts w.t := (List.mem_zipIdx' hq).2 ▸ List.getElem_mem _
      cases hw : w.t with
      | usr x l => rw [hw] at hm; exact nomatch hm
      | grp x l ps =>
        rw [hw] at hm o1 o2
        rw [okT] at o1
        rw [hi] at o2
        have h2 := hiL_le (show q.1 ∈ ps from hm)
        refine ⟨(okTs_iff ps).mp o1.2.2.2.2 _ hm, ?_, fun h => ?_, ?_⟩
        · simp only; omega
        · simp at h
        · simp; omega
    · exact ok v (List.mem_cons_of_mem _ hv)
  · have e : N ++ [tname w.t] ++ nmW (kids w ++ ws) = N ++ nmW (w :: ws) := by
      unfold nmW
      rw [List.map_append, nmL_app, kids_t, List.map_cons, nmL, nm_eq]
      simp
    rw [e]; exact nod
  · intro x hx
    rcases List.mem_append.mp hx with hx | hx
    · exact nk x hx
    · rw [List.mem_singleton] at hx
      subst hx
      exact nm_ok w.t o1 _ (by rw [nm_eq]; exact List.mem_cons_self)
  · rw [List.length_append, nl]
    cases isG w.t <;> simp <;> omega
  · rw [List.map_append, usersL_app, kids_t]
    rw [List.map_cons, usersL] at us
    cases hw : w.t with
    | usr x l => rw [hw, users] at us; simp [isG, tparts, usersL] at us ⊢; omega
    | grp x l ps => rw [hw, users] at us; simp [isG, tparts] at us ⊢; omega
  · rw [List.map_append, groupsL_app, kids_t]
    rw [List.map_cons, groupsL] at gs
    cases hw : w.t with
    | usr x l => rw [hw, groups] at gs; simp [isG, tparts, groupsL] at gs ⊢; omega
    | grp x l ps => rw [hw, groups] at gs; simp [isG, tparts] at gs ⊢; omega
end Qo
-- M14
set_option maxRecDepth 100000
set_option maxHeartbeats 1000000
namespace Qo
open PySem
theorem pop_c {hs : Hs} {xs n : List D} {d : D} : mPop (.ref hs.length) [] (Wc hs (xs ++ [d]) n) = .ok d (Wc hs xs n) := by
  unfold mPop
  simp only [wc0]
  have : (xs ++ [d])[(xs ++ [d]).length - 1]? = some d := by
    rw [List.length_append, List.length_singleton, Nat.add_sub_cancel, List.getElem?_append_right (Nat.le_refl _), Nat.sub_self]; rfl
  rw [this, List.dropLast_concat]
  simp only [ws0]
theorem isL0 {hs : Hs} {st n : List D} : isL (Wc hs st n) (.ref hs.length) = true := by
  unfold isL asL
  simp only [wc0]; rfl
theorem isL1 {hs : Hs} {st n : List D} : isL (Wc hs st n) (.ref (hs.length + 1)) = true := by
  unfold isL asL
  simp only [wc1]; rfl
theorem app_c {hs : Hs} {st n : List D} {d : D} (h : n.length < 1000) : mAppend (.ref (hs.length + 1)) [d] (Wc hs st n) = .ok .non (Wc hs st (n ++ [d])) := by
  unfold mAppend
  simp only [wc1]
  rw [grd_pos (by rw [sizeLine_eq]; omega), ws1]
theorem ext_c {hs : Hs} {st n ys : List D} (h : st.length + ys.length ≤ 1000) : mExtend (.ref hs.length) [.lst ys] (Wc hs st n) = .ok .non (Wc hs (st ++ ys) n) := by
  unfold mExtend
  simp only [wc0, asL]
  rw [grd_pos (szK h), ws0]
theorem tru_c {hs : Hs} {st n : List D} : truR (.ref hs.length) (Wc hs st n) = .ok (!st.isEmpty) (Wc hs st n) := by
  unfold truR
  simp only [wc0]
theorem lc_g {α : Type} {g : SG} {gd : α → D} {G : α → St → St} {ok : Hs → Prop} {el : SE} {σ : St} {f : α → D} {hs : Hs} (hok : ok hs) (hG : ∀ a σ, g (gd a) σ hs = .ok (G a σ) hs) (hs2 : ∀ a b σ, G a (G b σ) = G a σ) : ∀ (as : List α), (∀ a ∈ as, el (G a σ) hs = .ok (f a) hs) → ∀ (xs : List D) (σ1 : St), (∀ a, G a σ1 = G a σ) →
    ∃ σ', lcGo ok g tYes el (as.map gd) xs σ1 hs = .ok (xs ++ as.map f, σ') hs
  | [], _, xs, σ1, _ => ⟨σ1, by simp [lcGo]⟩
  | a :: as, he, xs, σ1, h1 => by
    obtain ⟨σ', e⟩ := lc_g hok hG hs2 as (fun d hd => he d (List.mem_cons_of_mem _ hd)) (xs ++ [f a]) (G a σ) (fun b => hs2 b a σ)
    refine ⟨σ', ?_⟩
    rw [List.map_cons, lcGo]
    simp only [hG, Res.bind_ok, h1, tYes, if_true, he a List.mem_cons_self]
    rw [chk_pos hok, e]
    simp
theorem x_LCg {α : Type} {g : SG} {gd : α → D} {G : α → St → St} {ok : Hs → Prop} {own : List Nat} {m : SI} {el : SE} {σ : St} {f : α → D} {as : List α} {h0 hs : Hs} (hm : m σ h0 = .ok (as.map gd, ok) hs) (hok : ok hs) (hz : as.length ≤ 1000) (hG : ∀ a σ, g (gd a) σ hs = .ok (G a σ) hs) (hs2 : ∀ a b σ, G a (G b σ) = G a σ) (he : ∀ a ∈ as, el (G a (wipe σ own)) hs = .ok (f a) hs) :
    eLC false own m (lc1 g tYes el) σ h0 = .ok (.lst (as.map f)) hs := by
  obtain ⟨σ', e⟩ := lc_g hok hG hs2 as he [] (wipe σ own) (fun _ => rfl)
  unfold eLC rawLC lc1
  rw [hm]
  simp only [Res.bind_ok]
  rw [grd_pos (by rw [List.length_map]; exact szK (by simpa using hz)), e]
  simp only [Res.bind_ok, List.nil_append]
  exact mkL_s (by rw [List.length_map]; exact hz)
noncomputable abbrev ipB (ad : Ad) : SS := (sCons (sAsg (eLm0 mPop (eVar 1)) (gTup 3 (gCons (gName 5) (gCons (gName 6) (gCons (gName 7) gNil))))) (sCons (sIf (tOr (tNot (tOf (eCall (f_is_node ad) [] (aCons (eVar 6) aNil)))) (tOr (tAnd (tOf (eOp (dEq false) (eVar 5) (eTup aNil))) (tNot (tOf (eCall (f_is_group ad) [] (aCons (eVar 6) aNil))))) (tOf (eOp (dIn false) (eOp dIx (eVar 6) (eC (.int 0))) (eVar 2))))) (sCons (sRet (eVar 5)) sNil) sNil) (sCons (sExpr (eLm1 mAppend (eVar 2) (eOp dIx (eVar 6) (eC (.int 0))))) (sCons (sIf (tOf (eCall (f_is_group ad) [] (aCons (eVar 6) aNil))) (sCons (sAug 4 (eC (.int 1)) dIAdd) (sCons (sSetLC false [9, 10] (iEnum (aCons (eOp dIx (eVar 6) (eC (.int 2))) aNil)) (lc1 (gTup 2 (gCons (gName 9) (gCons (gName 10) gNil))) tYes (eTup (aCons (eTup (aStar (eVar 5) (aCons (eVar 9) aNil))) (aCons (eVar 10) (aCons (eOp (dAdd false) (eVar 7) (eC (.int 1))) aNil))))) 8) (sCons (sExpr (eLm1 mExtend (eVar 1) (eRev false (eVar 8)))) sNil))) (sCons (sAug 3 (eC (.int 1)) dIAdd) sNil)) (sCons (sIf (tOr (tOf (eOp (dCmp .gt) (eVar 3) (eC (.int 12)))) (tOr (tOf (eOp (dCmp .gt) (eVar 4) (eC (.int 12)))) (tAnd (tOf (eCall (f_is_group ad) [] (aCons (eVar 6) aNil))) (tOf (eOp (dCmp .gt) (eVar 7) (eC (.int 6))))))) (sCons (sRet (eVar 5)) sNil) sNil) sNil)))))
abbrev ipS (b : Nat) (nd : D) (a c : Nat) (v5 v6 v7 v8 v9 v10 : Option D) : St := [some nd, some (.ref b), some (.ref (b + 1)), some (.int a), some (.int c), v5, v6, v7, v8, v9, v10]
theorem enum_toDs {ps : List Tr} : enumD (toDs ps) = ps.zipIdx.map fun p => D.tup [.int (p.2 : Nat), toD p.1] := by
  unfold enumD
  rw [toDs_map, List.zipIdx_map, List.map_map]
  rfl
/-- the parts to come -/
theorem kidsLC {hs : Hs} {w : Td} {x : Str} {l : Option Int} {ps : List Tr} {σ : St} (hw : w.t = .grp x l ps) (len : ps.length ≤ 24) (pl : w.path.length ≤ 100) (h5 : σ[5]? = some (some (.tup (w.path.map D.int)))) (h6 : σ[6]? = some (some (toD w.t))) (h7 : σ[7]? = some (some (.int w.k))) (hl : σ.length = 11) :
    eLC false [9, 10] (iEnum (aCons (eOp dIx (eVar 6) (eC (.int 2))) aNil)) (lc1 (gTup 2 (gCons (gName 9) (gCons (gName 10) gNil))) tYes (eTup (aCons (eTup (aStar (eVar 5) (aCons (eVar 9) aNil))) (aCons (eVar 10) (aCons (eOp (dAdd false) (eVar 7) (eC (.int 1))) aNil))))) σ hs = .ok (.lst ((kids w).map enc)) hs := by
  have ek : (kids w).map enc = ps.zipIdx.map fun p => enc ⟨w.path ++ [(p.2 : Int)], p.1, w.k + 1⟩ := by
    unfold kids
    rw [hw, List.map_map]
    rfl
  rw [ek]
  refine x_LCg (gd := fun p : Tr × Nat => D.tup [.int (p.2 : Nat), toD p.1]) (G := fun p σ => (σ.set 9 (some (.int (p.2 : Nat)))).set 10 (some (toD p.1))) (ok := fun _ => True) ?_ trivial (by rw [List.length_zipIdx]; omega) ?_ ?_ ?_
  · unfold iEnum
    simp only [x_Cons, x_Op, x_Var, h6, hw, toD, x_C, Res.bind_ok, tup2, x_Nil, enum_toDs]
  · intro p σ
    rfl
  · intro p q σ
    rw [List.set_comm _ _ (show (9 : Nat) ≠ 10 by decide), List.set_set, List.set_comm _ _ (show (10 : Nat) ≠ 9 by decide), List.set_set]
  · intro p hp
    have e1 : ((w.path.map D.int) ++ [D.int (p.2 : Nat)]) = (w.path ++ [(p.2 : Int)]).map D.int := by simp
    have e2 : (w.k : Int) + 1 = ((w.k + 1 : Nat) : Int) := by omega
    have h9 : (9 : Nat) < 11 := by decide
    have h10 : (10 : Nat) < 11 := by decide
    simp only [wipe, x_Tup, x_Cons, x_Nil, x_Op, x_C, aStar, x_Var, List.getElem?_set, List.length_set, hl, Nat.reduceEqDiff, h9, h10, reduceIte, h5, h7, Res.bind_ok, asSq, add_int, e1, e2]
    rw [mkT_s (by simp; omega)]
    simp only [Res.bind_ok]
    rw [mkT_s (by simp)]
    rfl
theorem ipStep {ad : Ad} (I : IsF ad) {hs : Hs} (C : Clo hs) {nd : D} {N : List Str} {a c : Nat} {w : Td} {ws : List Td} {v5 v6 v7 v8 v9 v10 : Option D} (J : Jv N a c (w :: ws)) :
    ∃ v8', ipB ad (ipS hs.length nd a c v5 v6 v7 v8 v9 v10) (Wc hs ((w :: ws).map enc).reverse (sD N)) = .ok (.nx, ipS hs.length nd (if isG w.t then a else a + 1) (if isG w.t then c + 1 else c) (some (.tup (w.path.map D.int))) (some (toD w.t)) (some (.int w.k)) v8' v9 v10) (Wc hs ((kids w ++ ws).map enc).reverse (sD (N ++ [tname w.t]))) := by
  obtain ⟨o1, o2, o3, o4⟩ := J.ok w List.mem_cons_self
  have wc : ∀ n : List Str, Clo (Wc hs (ws.map enc).reverse (sD n)) := fun n => wcC C (nr_encR ws) (nr_strs n)
  have wc2 : ∀ n : List Str, Clo (Wc hs ((ws.map enc).reverse ++ ((kids w).map enc).reverse) (sD n)) := fun n => wcC C (by rw [noRefs_iff]; intro d hd; rcases List.mem_append.mp hd with h | h; exact (noRefs_iff _).mp (nr_encR ws) d h; exact (noRefs_iff _).mp (nr_encR (kids w)) d h) (nr_strs n)
  have e0 : ((w :: ws).map enc).reverse = (ws.map enc).reverse ++ [enc w] := by simp
  have e1 : ((kids w ++ ws).map enc).reverse = (ws.map enc).reverse ++ ((kids w).map enc).reverse := by simp
  have hn : tname w.t ∉ N := by
    have := (List.nodup_append.mp J.nod).2.2
    intro h
    exact this _ h _ (by unfold nmW; rw [List.map_cons, nmL, nm_eq]; simp) rfl
  have sn : PyData.strOk (tname w.t) = true := strOk_of (nm_ok w.t o1 _ (by rw [nm_eq]; exact List.mem_cons_self))
  have inn : dIn false (.str (tname w.t)) (.ref (hs.length + 1)) (Wc hs (ws.map enc).reverse (sD N)) = .ok (.bl false) (Wc hs (ws.map enc).reverse (sD N)) := by
    rw [in_cell sn (SOk.of J.nk) wc1]
    simp [hn]
  have node := s_is_node (ad := ad) I (wc N) o1
  have eqp : dEq false (.tup (w.path.map D.int)) (.tup []) (Wc hs (ws.map enc).reverse (sD N)) = .ok (.bl (decide (w.path = []))) (Wc hs (ws.map enc).reverse (sD N)) := by
    have := eq_ints (n := false) (xs := w.path) (ys := []) (hs := Wc hs (ws.map enc).reverse (sD N))
    simpa using this
  have ix0 : ∀ h, dIx (toD w.t) (.int 0) h = .ok (.str (tname w.t)) h := fun h => by cases w.t <;> simp [toD, tname]
  have us := J.us
  have gs := J.gs
  rw [List.map_cons, usersL, List.length_append] at us
  rw [List.map_cons, groupsL, List.length_append] at gs
  have Nl : (sD N).length < 1000 := by rw [List.length_map, J.nl]; omega
  have eA : sD (N ++ [tname w.t]) = sD N ++ [.str (tname w.t)] := by simp
  have emp : mkT [] (Wc hs (ws.map enc).reverse (sD N)) = .ok (.tup []) (Wc hs (ws.map enc).reverse (sD N)) := mkT_s (by simp)
  have l3 : [D.tup (w.path.map D.int), toD w.t, D.int (w.k : Int)].length = 3 := rfl
  have wsl : (ws.map enc).reverse.length ≤ 30 := by
    have := nmL_ge (ws.map Td.t)
    rw [nmL_len] at this
    simp only [List.length_reverse, List.length_map] at this ⊢
    omega
  rw [e0, e1, eA]
  cases hw : w.t with
  | usr x l =>
    have g1 := fun n => s_grp_u (ad := ad) I (wc n) (x := x) (l := l)
    have p1 : decide (w.path = []) = false := by
      rw [decide_eq_false_iff_not]
      intro h
      have := o3 h
      rw [hw] at this
      cases this
    have k0 : (kids w) = [] := by unfold kids; rw [hw]; rfl
    refine ⟨v8, ?_⟩
    rw [k0]
    rw [hw] at node ix0 inn us gs l3
    rw [p1] at eqp
    rw [users] at us
    rw [groups] at gs
    simp only [List.length_singleton, List.length_nil] at us gs
    have a1 : (a : Int) + 1 = ((a + 1 : Nat) : Int) := by omega
    have a2 : ¬ (12 : Int) < ((a + 1 : Nat) : Int) := by omega
    have a3 : ¬ (12 : Int) < (c : Int) := by omega
    have g2 := g1 (N ++ [x])
    simp only [tname] at inn ix0
    simp only [sD, List.map_append, List.map_cons, List.map_nil] at g1 g2
    have ew : enc w = .tup [.tup (w.path.map D.int), toD (.usr x l), .int w.k] := by rw [← hw]; rfl
    rw [ew]
    unfold ipB
    simp only [eLm0, eLm1, u_Cons, u_Asg, u_If, sExpr, sAug, x_C, x_Op, x_Cons, x_Nil, x_Var, x_Tup, x_Call, g_Name, g_tup, g_cons, g_nil, t_Of, t_Or, t_And, t_Not, Res.bind_ok, List.set_cons_zero, List.set_cons_succ, List.getElem?_cons_zero, List.getElem?_cons_succ, List.append_nil, isL0, isL1, grd_t, pop_c, l3, node, emp, eqp, ix0, inn, t_bl, Bool.not_true, Bool.not_false, Bool.false_eq_true, if_false, if_true, reduceIte, u_Nil, app_c Nl, g1, g2, dIAdd, a1, lt_int, cmpI, a2, a3, decide_false, tname, isG, List.map_nil, List.reverse_nil]
  | grp x l ps =>
    have g1 := fun n => s_grp_g (ad := ad) I (wc n) (x := x) (l := l) (ps := ps)
    have g3 := fun n => s_grp_g (ad := ad) I (wc2 n) (x := x) (l := l) (ps := ps)
    rw [hw] at node ix0 inn us gs l3 o1 o2
    rw [okT] at o1
    rw [hi] at o2
    rw [users] at us
    rw [groups] at gs
    simp only [List.length_cons] at us gs
    have a1 : (c : Int) + 1 = ((c + 1 : Nat) : Int) := by omega
    have a2 : ¬ (12 : Int) < ((c + 1 : Nat) : Int) := by omega
    have a3 : ¬ (12 : Int) < (a : Int) := by omega
    have a4 : ¬ (6 : Int) < (w.k : Int) := by omega
    have g2 := g1 (N ++ [x])
    have g4 := g3 (N ++ [x])
    have kl := fun st nm => kidsLC (hs := Wc hs st nm) hw o1.2.2.2.1 (show w.path.length ≤ 100 by omega) (σ := [some nd, some (.ref hs.length), some (.ref (hs.length + 1)), some (.int a), some (.int (c + 1 : Nat)), some (.tup (w.path.map D.int)), some (toD w.t), some (.int w.k), v8, v9, v10]) rfl rfl rfl rfl
    rw [hw] at kl
    have kn : (kids w).length ≤ 24 := by unfold kids; rw [hw, List.length_map, List.length_zipIdx]; exact o1.2.2.2.1
    have rv : ∀ h, mkL false ((kids w).map enc).reverse h = .ok (.lst ((kids w).map enc).reverse) h := fun h => mkL_s (by simp; omega)
    have ex : ∀ nm, mExtend (.ref hs.length) [.lst ((kids w).map enc).reverse] (Wc hs (ws.map enc).reverse nm) = .ok .non (Wc hs ((ws.map enc).reverse ++ ((kids w).map enc).reverse) nm) := fun nm => ext_c (by simp at wsl ⊢; omega)
    refine ⟨some (.lst ((kids w).map enc)), ?_⟩
    simp only [tname] at inn ix0
    simp only [sD, List.map_append, List.map_cons, List.map_nil] at g1 g2 g3 g4
    have ew : enc w = .tup [.tup (w.path.map D.int), toD (.grp x l ps), .int w.k] := by rw [← hw]; rfl
    rw [ew]
    unfold ipB
    cases hp : decide (w.path = []) <;> rw [hp] at eqp <;>
    simp only [eLm0, eLm1, eRev, sSetLC, u_Cons, u_Asg, u_If, sExpr, sAug, x_C, x_Op, x_Cons, x_Nil, x_Var, x_Tup, x_Call, g_Name, g_tup, g_cons, g_nil, t_Of, t_Or, t_And, t_Not, Res.bind_ok, List.set_cons_zero, List.set_cons_succ, List.getElem?_cons_zero, List.getElem?_cons_succ, List.append_nil, isL0, isL1, grd_t, pop_c, l3, node, emp, eqp, ix0, inn, t_bl, Bool.not_true, Bool.not_false, Bool.false_eq_true, if_false, if_true, reduceIte, u_Nil, app_c Nl, g1, g2, g3, g4, dIAdd, a1, lt_int, cmpI, a2, a3, a4, decide_false, tname, isG, kl, asL, rv, ex]
/-- the walk of the shape -/
theorem ipLoop {ad : Ad} (I : IsF ad) {hs : Hs} (C : Clo hs) {nd : D} : ∀ (n : Nat) (N : List Str) (a c : Nat) (ws : List Td) (v5 v6 v7 v8 v9 v10 : Option D), (nmW ws).length ≤ n → Jv N a c ws →
    ∃ σ' st', sWhile (tOf (eVar 1)) (ipB ad) (ipS hs.length nd a c v5 v6 v7 v8 v9 v10) (Wc hs (ws.map enc).reverse (sD N)) = .ok (.nx, σ') (Wc hs [] (sD st')) := by
  intro n
  induction n with
  | zero =>
    intro N a c ws v5 v6 v7 v8 v9 v10 hn J
    cases ws with
    | nil =>
      refine ⟨ipS hs.length nd a c v5 v6 v7 v8 v9 v10, N, ?_⟩
      rw [sWhile_eq]
      simp only [t_Of, x_Var, List.getElem?_cons_zero, List.getElem?_cons_succ, Res.bind_ok, tru_c, List.map_nil, List.reverse_nil, List.isEmpty_nil, Bool.not_true, Bool.false_eq_true, if_false]
    | cons w ws =>
      unfold nmW at hn
      rw [List.map_cons, nmL, nm_eq] at hn
      simp at hn
  | succ n ih =>
    intro N a c ws v5 v6 v7 v8 v9 v10 hn J
    cases ws with
    | nil =>
      refine ⟨ipS hs.length nd a c v5 v6 v7 v8 v9 v10, N, ?_⟩
      rw [sWhile_eq]
      simp only [t_Of, x_Var, List.getElem?_cons_zero, List.getElem?_cons_succ, Res.bind_ok, tru_c, List.map_nil, List.reverse_nil, List.isEmpty_nil, Bool.not_true, Bool.false_eq_true, if_false]
    | cons w ws =>
      obtain ⟨v8', e⟩ := ipStep (ad := ad) I C (nd := nd) (v5 := v5) (v6 := v6) (v7 := v7) (v8 := v8) (v9 := v9) (v10 := v10) J
      have hn2 : (nmW (kids w ++ ws)).length ≤ n := by
        unfold nmW at hn ⊢
        rw [List.map_append, nmL_app, kids_t]
        rw [List.map_cons, nmL, nm_eq] at hn
        simp at hn ⊢
        omega
      obtain ⟨σ', st', e2⟩ := ih _ _ _ (kids w ++ ws) (some (.tup (w.path.map D.int))) (some (toD w.t)) (some (.int w.k)) v8' v9 v10 hn2 J.step
      refine ⟨σ', st', ?_⟩
      rw [sWhile_eq]
      have ne : ((w :: ws).map enc).reverse.isEmpty = false := by simp
      simp only [t_Of, x_Var, List.getElem?_cons_zero, List.getElem?_cons_succ, Res.bind_ok, tru_c, ne, Bool.not_false, if_true]
      rw [e, Res.bind_ok]
      exact e2
theorem s_valid {ad : Ad} (I : IsF ad) {hs : Hs} (C : Clo hs) {T : Tr} (W : Wf T) : f_invalid_path ad [toD T] hs = .ok .non hs := by
  obtain ⟨x0, c0, ps0, hT⟩ := W.gr
  have J : Jv [] 0 0 [⟨[], T, 1⟩] := by
    refine ⟨?_, ?_, ?_, rfl, ?_, ?_⟩
    · intro w hw
      rw [List.mem_singleton] at hw
      subst hw
      refine ⟨W.ok, ?_, fun _ => by rw [hT]; rfl, by simp⟩
      have := W.hi
      simp only; omega
    · have : (nmW [⟨[], T, 1⟩]) = nm T := by unfold nmW; simp [nmL]
      rw [List.nil_append, this]
      exact (nm_perm T).nodup_iff.mpr W.nod
    · intro y hy; exact nomatch hy
    · have := W.nu
      simp [usersL]; omega
    · have := W.ng
      simp [groupsL]; omega
  obtain ⟨σ', st', e⟩ := ipLoop (ad := ad) I C (nd := toD T) _ [] 0 0 [⟨[], T, 1⟩] none none none none none none (Nat.le_refl _) J
  refine fn_rt (σ' := σ') (h1 := Wc hs [] (sD st')) rfl ?_ (fin_cut C rfl)
  have m1 : mkL true [D.tup [.tup [], toD T, .int 1]] hs = .ok (.ref hs.length) (hs ++ [(false, .lst [D.tup [.tup [], toD T, .int 1]])]) := by
    unfold mkL
    rw [grd_pos (szK (by simp)), if_pos rfl]
  have m2 : ∀ xs, mkL true [] (hs ++ [(false, .lst xs)]) = .ok (.ref (hs.length + 1)) (Wc hs xs []) := fun xs => by
    unfold mkL
    rw [grd_pos (szK (by simp)), if_pos rfl, List.append_assoc, List.length_append]
    rfl
  have ee : ([⟨[], T, 1⟩] : List Td).map enc = [D.tup [.tup [], toD T, .int 1]] := rfl
  rw [ee] at e
  simp only [List.reverse_cons, List.reverse_nil, List.nil_append] at e
  unfold b_invalid_path
  have e' : sWhile (tOf (eVar 1)) (ipB ad) [some (toD T), some (.ref hs.length), some (.ref (hs.length + 1)), some (.int 0), some (.int 0), none, none, none, none, none, none] (Wc hs [D.tup [.tup [], toD T, .int 1]] []) = .ok (.nx, σ') (Wc hs [] (sD st')) := e
  simp only [u_Cons, u_Asg, u_Ret, x_Tup, x_Cons, x_Nil, x_Lst, x_C, x_Var, v_start, List.map_cons, List.map_nil, List.length_cons, List.length_nil, List.replicate, List.cons_append, List.nil_append, Nat.reduceAdd, Nat.reduceSub, List.set_cons_zero, List.set_cons_succ, List.getElem?_cons_zero, List.getElem?_cons_succ, Res.bind_ok, mkT_s, Nat.reduceLeDiff, m1, m2, g_tup, g_cons, g_nil, g_Name, grd_t, e']
end Qo
-- M15
set_option maxRecDepth 100000
set_option maxHeartbeats 1000000
namespace Qo
open PySem
/-- no cell is frozen -/
def Unf (hs : Hs) : Prop := hs.all (fun c => !c.1) = true
theorem unf_app {hs : Hs} {c : Cell} (U : Unf hs) : Unf (hs ++ [(false, c)]) := by
  unfold Unf at *
  rw [List.all_append, U]; rfl
abbrev uN : List Str := ["name", "limit", "level"]
abbrev gN : List Str := ["name", "limit", "level", "parts"]
mutual
/-- the tree's objects -/
def objD (ad : Ad) (n : Nat) : Tr → D
  | .usr x l => .obj ad.User uN [.str x, limD l, .int n]
  | .grp x l ps => .obj ad.Group gN [.str x, limD l, .int n, .tup (objDs ad (n + 1) ps)]
def objDs (ad : Ad) (n : Nat) : List Tr → List D
  | [] => []
  | t :: ts => objD ad n t :: objDs ad n ts
end
theorem objDs_map {ad : Ad} {n : Nat} : ∀ ps : List Tr, objDs ad n ps = ps.map (objD ad n)
  | [] => rfl
  | t :: ts => by rw [objDs, objDs_map ts]; rfl
theorem nr_lim (l : Option Int) : noRef (limD l) = true := by cases l <;> rfl
mutual
theorem nr_obj {ad : Ad} : ∀ (t : Tr) (n : Nat), noRef (objD ad n t) = true
  | .usr x l, n => by simp [objD, noRef, noRefs, nr_lim]
  | .grp x l ps, n => by simp [objD, noRef, noRefs, nr_lim, nr_objs ps]
theorem nr_objs {ad : Ad} : ∀ (ts : List Tr) (n : Nat), noRefs (objDs ad n ts) = true
  | [], _ => rfl
  | t :: ts, n => by rw [objDs, noRefs, nr_obj t, nr_objs ts]; rfl
end
/-! ### making -/
abbrev Oc (hs : Hs) (c : Addr) (ns : List Str) (vs : List D) : Hs := hs ++ [(false, .ins c ns vs)]
theorem oc_get {hs : Hs} {c : Addr} {ns : List Str} {vs : List D} : (Oc hs c ns vs)[hs.length]? = some (false, .ins c ns vs) := by
  rw [List.getElem?_append_right (Nat.le_refl _), Nat.sub_self]; rfl
theorem oc_set {hs : Hs} {c c' : Addr} {ns ns' : List Str} {vs vs' : List D} : (Oc hs c ns vs).set hs.length (false, .ins c' ns' vs') = Oc hs c' ns' vs' := by
  rw [List.set_append_right _ _ (Nat.le_refl _), Nat.sub_self]; rfl
theorem oc_clo {hs : Hs} {c : Addr} {ns : List Str} {vs : List D} (C : Clo hs) (h : noRefs vs = true) : Clo (Oc hs c ns vs) := clo_app C fun x hx => by
  rw [List.mem_singleton] at hx; subst hx; exact h
theorem oc_asO {hs : Hs} {c : Addr} {ns : List Str} {vs : List D} : asO (Oc hs c ns vs) (.ref hs.length) = some (c, ns, vs) := by
  unfold asO
  simp only [oc_get]
theorem oc_fld {ok : Addr → Bool} {n : Str} {hs : Hs} {c : Addr} {ns : List Str} {vs : List D} {d : D} (o : ok c = true) (l : ns.length < 1000) (e : vs.length = ns.length) : setF ok n (.ref hs.length) d (Oc hs c ns vs) = .ok () (Oc hs c (putK n ns) (putV n d ns vs)) := by
  unfold setF
  simp only [oc_get]
  rw [grd_pos ⟨o, l, e⟩, oc_set]
theorem oc_fin {hs : Hs} {c : Addr} {ns : List Str} {vs : List D} (C : Clo hs) (h : noRefs vs = true) : finR false hs.length (.ref hs.length) (Oc hs c ns vs) = .ok (.obj c ns vs) hs := by
  have e : frz (Oc hs c ns vs) hs.length (.ref hs.length) = some (.obj c ns vs) := by
    show rsv (Oc hs c ns vs) hs.length 4 hs.length = _
    rw [rsv, if_neg (by omega), oc_get]
    simp only [wks_pure vs h]
    rfl
  unfold finR
  rw [if_neg Bool.false_ne_true, e, List.take_left']
  · exact grd_pos C
  · rfl
theorem x_fld {ok : Addr → Bool} {n : Str} {mo mv : SE} {σ : St} {hs : Hs} : sFld ok n mo mv σ hs = (mv σ hs).bind fun d h => (mo σ h).bind fun o h => (setF ok n o d h).bind fun _ h => .ok (.nx, σ) h := rfl
theorem k1 : (("name" : Str) = "limit") = False := by simp only [eq_iff_iff, iff_false]; decide +kernel
theorem k2 : (("name" : Str) = "level") = False := by simp only [eq_iff_iff, iff_false]; decide +kernel
theorem k3 : (("limit" : Str) = "level") = False := by simp only [eq_iff_iff, iff_false]; decide +kernel
theorem k4 : (("name" : Str) = "parts") = False := by simp only [eq_iff_iff, iff_false]; decide +kernel
theorem k5 : (("limit" : Str) = "parts") = False := by simp only [eq_iff_iff, iff_false]; decide +kernel
theorem k6 : (("level" : Str) = "parts") = False := by simp only [eq_iff_iff, iff_false]; decide +kernel
/-- Node's making -/
theorem node_init {ad : Ad} {hs : Hs} (C : Clo hs) {c : Addr} (hc : okC ad.User (okC ad.Group okN) c = true) {x : Str} {l : Option Int} {n : Nat} : f_Node___init__ ad [.ref hs.length, .str x, limD l, .int n] (Oc hs c [] []) = .ok .non (Oc hs c uN [.str x, limD l, .int n]) := by
  refine fn_nx (σ' := [some (.ref hs.length), some (.str x), some (limD l), some (.int n)]) (h1 := Oc hs c uN [.str x, limD l, .int n]) rfl ?_ ?_
  · unfold b_Node___init__
    have f1 := oc_fld (hs := hs) (n := "name") (d := .str x) hc (ns := []) (vs := []) (by decide) rfl
    have f2 := oc_fld (hs := hs) (n := "limit") (d := limD l) hc (ns := ["name"]) (vs := [.str x]) (by decide) rfl
    have f3 := oc_fld (hs := hs) (n := "level") (d := .int n) hc (ns := ["name", "limit"]) (vs := [.str x, limD l]) (by decide) rfl
    simp only [putK, putV, k1, k2, k3, if_false] at f1 f2 f3
    simp only [u_Cons, x_fld, x_Var, v_start, List.map_cons, List.map_nil, List.length_cons, List.length_nil, List.replicate, List.append_nil, Nat.reduceAdd, Nat.reduceSub, List.getElem?_cons_zero, List.getElem?_cons_succ, Res.bind_ok, f1, f2, f3, u_Nil]
  · have := fin_non (oc_clo (c := c) (ns := uN) C (show noRefs [.str x, limD l, .int n] = true by simp [noRefs, noRef, nr_lim]))
    rwa [List.length_append] at this ⊢
theorem mk_usr {ad : Ad} {hs : Hs} (C : Clo hs) {x : Str} {l : Option Int} {n : Nat} {a : SA} {σ : St} (e : a σ hs = .ok [.str x, limD l, .int n] hs) : eMake true ad.User (f_Node___init__ ad) [] a σ hs = .ok (objD ad n (.usr x l)) hs := by
  unfold eMake
  rw [e, Res.bind_ok, List.append_nil, node_init C (by simp [okC]), Res.bind_ok]
  exact oc_fin C (by simp [noRefs, noRef, nr_lim])
theorem grp_init {ad : Ad} {hs : Hs} (C : Clo hs) (U : Unf hs) {x : Str} {l : Option Int} {n : Nat} {ps : List D} (hp : noRefs ps = true) : f_Group___init__ ad [.ref hs.length, .str x, limD l, .int n, .tup ps] (Oc hs ad.Group [] []) = .ok .non (Oc hs ad.Group gN [.str x, limD l, .int n, .tup ps]) := by
  unfold f_Group___init__ fnSup
  have u : (Oc hs ad.Group [] []).all (fun c => !c.1) = true := unf_app U
  rw [grd_pos u]
  refine fn_nx (σ' := [some (.ref hs.length), some (.str x), some (limD l), some (.int n), some (.tup ps)]) (h1 := Oc hs ad.Group gN [.str x, limD l, .int n, .tup ps]) rfl ?_ ?_
  · unfold b_Group___init__
    have f1 := node_init (ad := ad) C (c := ad.Group) (by simp [okC]) (x := x) (l := l) (n := n)
    have f4 := oc_fld (ok := okC ad.Group okN) (c := ad.Group) (hs := hs) (n := "parts") (d := .tup ps) (by simp [okC]) (ns := uN) (vs := [.str x, limD l, .int n]) (by decide) rfl
    simp only [putK, putV, k4, k5, k6, if_false] at f4
    have st : sT ad.Group (f_Node___init__ ad) ad.Group = some (f_Node___init__ ad) := if_pos rfl
    simp only [u_Cons, sExpr, eSup, x_fld, x_Var, x_Cons, x_Nil, v_start, List.map_cons, List.map_nil, List.length_cons, List.length_nil, List.replicate, List.append_nil, Nat.reduceAdd, Nat.reduceSub, List.getElem?_cons_zero, List.getElem?_cons_succ, oc_asO, st, Res.bind_ok, f1, f4, u_Nil]
  · have := fin_non (oc_clo (c := ad.Group) (ns := gN) C (show noRefs [.str x, limD l, .int n, .tup ps] = true by simp [noRefs, noRef, nr_lim, hp]))
    rwa [List.length_append] at this ⊢
theorem mk_grp {ad : Ad} {hs : Hs} (C : Clo hs) (U : Unf hs) {x : Str} {l : Option Int} {n : Nat} {ps : List Tr} {a : SA} {σ : St} (e : a σ hs = .ok [.str x, limD l, .int n, .tup (objDs ad (n + 1) ps)] hs) : eMake true ad.Group (f_Group___init__ ad) [] a σ hs = .ok (objD ad n (.grp x l ps)) hs := by
  unfold eMake
  rw [e, Res.bind_ok, List.append_nil, grp_init C U (nr_objs _ _), Res.bind_ok]
  exact oc_fin C (by simp [noRefs, noRef, nr_lim, nr_objs])
theorem s_build {ad : Ad} (I : IsF ad) {hs : Hs} (C : Clo hs) (U : Unf hs) : ∀ (n : Nat) (t : Tr) (k : Nat), okT t → hi t ≤ n → f_build ad (n + 1) [toD t, .int k] hs = .ok (objD ad k t) hs := by
  intro n
  induction n with
  | zero =>
    intro t k o h
    cases t with
    | grp x l ps => rw [hi] at h; omega
    | usr x l =>
      have g := s_grp_u (ad := ad) I C (x := x) (l := l)
      refine fn_rt (σ' := [some (toD (.usr x l)), some (.int k), none]) (h1 := hs) rfl ?_ (fin_pure C (nr_obj _ _))
      have m := mk_usr (ad := ad) C (x := x) (l := l) (n := k) (a := (aCons (eOp dIx (eVar 0) (eC (.int 0))) (aCons (eOp dIx (eVar 0) (eC (.int 1))) (aCons (eVar 1) aNil)))) (σ := [some (toD (.usr x l)), some (.int k), none]) (by simp [toD])
      unfold b_build
      simp only [u_Cons, u_If, u_Ret, x_Call, x_Cons, x_Nil, x_Var, t_Of, v_start, List.map_cons, List.map_nil, List.length_cons, List.length_nil, List.replicate, List.append_nil, List.cons_append, List.nil_append, Nat.reduceAdd, Nat.reduceSub, List.getElem?_cons_zero, List.getElem?_cons_succ, Res.bind_ok, g, t_bl, Bool.false_eq_true, if_false, u_Nil, m]
  | succ n ih =>
    intro t k o h
    cases t with
    | usr x l =>
      have g := s_grp_u (ad := ad) I C (x := x) (l := l)
      refine fn_rt (σ' := [some (toD (.usr x l)), some (.int k), none]) (h1 := hs) rfl ?_ (fin_pure C (nr_obj _ _))
      have m := mk_usr (ad := ad) C (x := x) (l := l) (n := k) (a := (aCons (eOp dIx (eVar 0) (eC (.int 0))) (aCons (eOp dIx (eVar 0) (eC (.int 1))) (aCons (eVar 1) aNil)))) (σ := [some (toD (.usr x l)), some (.int k), none]) (by simp [toD])
      unfold b_build
      simp only [u_Cons, u_If, u_Ret, x_Call, x_Cons, x_Nil, x_Var, t_Of, v_start, List.map_cons, List.map_nil, List.length_cons, List.length_nil, List.replicate, List.append_nil, List.cons_append, List.nil_append, Nat.reduceAdd, Nat.reduceSub, List.getElem?_cons_zero, List.getElem?_cons_succ, Res.bind_ok, g, t_bl, Bool.false_eq_true, if_false, u_Nil, m]
    | grp x l ps =>
      rw [okT] at o
      rw [hi] at h
      have g := s_grp_g (ad := ad) I C (x := x) (l := l) (ps := ps)
      have k1 : (k : Int) + 1 = ((k + 1 : Nat) : Int) := by omega
      have lc : eLC false [2] (iSeq (eOp dIx (eVar 0) (eC (.int 2)))) (lc1 (gName 2) tYes (eCall (f_build ad (n + 1)) [] (aCons (eVar 2) (aCons (eOp (dAdd false) (eVar 1) (eC (.int 1))) aNil)))) [some (toD (.grp x l ps)), some (.int k), none] hs = .ok (.lst (ps.map (objD ad (k + 1)))) hs := by
        refine x_LCy (g := toD) (ok := fun _ => True) (seq_tup (by simp [toD, toDs_map])) trivial (by omega) fun t ht => ?_
        have := ih t (k + 1) ((okTs_iff ps).mp o.2.2.2.2 t ht) (by have := hiL_le ht; omega)
        rw [← k1] at this
        simp [wipe, this]
      have tl := tuple_lst (xs := ps.map (objD ad (k + 1))) (hs := hs) (by rw [List.length_map]; omega)
      refine fn_rt (σ' := [some (toD (.grp x l ps)), some (.int k), none]) (h1 := hs) rfl ?_ (fin_pure C (nr_obj _ _))
      have m := mk_grp (ad := ad) C U (x := x) (l := l) (n := k) (ps := ps) (a := (aCons (eOp dIx (eVar 0) (eC (.int 0))) (aCons (eOp dIx (eVar 0) (eC (.int 1))) (aCons (eVar 1) (aCons (eBlt bTuple (aCons (eLC false [2] (iSeq (eOp dIx (eVar 0) (eC (.int 2)))) (lc1 (gName 2) tYes (eCall (f_build ad (n + 1)) [] (aCons (eVar 2) (aCons (eOp (dAdd false) (eVar 1) (eC (.int 1))) aNil))))) aNil)) aNil))))) (σ := [some (toD (.grp x l ps)), some (.int k), none]) (by
        have i0 : dIx (toD (.grp x l ps)) (.int 0) hs = .ok (.str x) hs := by simp [toD]
        have i1 : dIx (toD (.grp x l ps)) (.int 1) hs = .ok (limD l) hs := by simp [toD]
        simp only [x_Cons, x_Op, x_Nil, x_Var, x_C, x_Blt, List.getElem?_cons_zero, List.getElem?_cons_succ, Res.bind_ok, lc, tl, i0, i1, objDs_map])
      unfold b_build
      simp only [u_Cons, u_If, u_Ret, x_Call, x_Cons, x_Nil, x_Var, t_Of, v_start, List.map_cons, List.map_nil, List.length_cons, List.length_nil, List.replicate, List.append_nil, List.cons_append, List.nil_append, Nat.reduceAdd, Nat.reduceSub, List.getElem?_cons_zero, List.getElem?_cons_succ, Res.bind_ok, g, t_bl, if_true, m]
end Qo
-- M16
set_option maxRecDepth 100000
set_option maxHeartbeats 1000000
namespace Qo
open PySem
theorem q1 : (("level" : Str) == "name") = false := by decide +kernel
theorem q2 : (("level" : Str) == "limit") = false := by decide +kernel
theorem q3 : (("level" : Str) == "level") = true := by decide +kernel
theorem q4 : (("name" : Str) == "name") = true := by decide +kernel
theorem q5 : (("parts" : Str) == "name") = false := by decide +kernel
theorem q6 : (("parts" : Str) == "limit") = false := by decide +kernel
theorem q7 : (("parts" : Str) == "level") = false := by decide +kernel
theorem q8 : (("parts" : Str) == "parts") = true := by decide +kernel
section
variable {ad : Ad} (I : IsF ad)
include I
theorem aT_u {a b : Act} {t : Addr → Option Act} : aT ad.User a (aT ad.Group b t) ad.User = some a := if_pos rfl
theorem aT_g {a b : Act} {t : Addr → Option Act} : aT ad.User a (aT ad.Group b t) ad.Group = some b := by
  unfold aT
  rw [if_neg (fun h => I.dis.1 h.symm), if_pos rfl]
theorem att_name {t : Tr} {k : Nat} {hs : Hs} : dAtt "name" (aT ad.User .fld (aT ad.Group .fld aN)) (objD ad k t) hs = .ok (.str (tname t)) hs := by
  cases t with
  | usr x l => simp [dAtt, objD, asO, aT_u I, List.lookup, q4, tname]
  | grp x l ps => simp [dAtt, objD, asO, aT_g I, List.lookup, q4, tname]
theorem att_level {t : Tr} {k : Nat} {hs : Hs} : dAtt "level" (aT ad.User .fld (aT ad.Group .fld aN)) (objD ad k t) hs = .ok (.int k) hs := by
  cases t with
  | usr x l => simp [dAtt, objD, asO, aT_u I, List.lookup, q1, q2, q3, tname]
  | grp x l ps => simp [dAtt, objD, asO, aT_g I, List.lookup, q1, q2, q3, tname]
theorem att_parts {x : Str} {l : Option Int} {ps : List Tr} {k : Nat} {hs : Hs} : dAtt "parts" (aT ad.Group .fld aN) (objD ad k (.grp x l ps)) hs = .ok (.tup (objDs ad (k + 1) ps)) hs := by
  have : aT ad.Group .fld aN ad.Group = some .fld := if_pos rfl
  simp [dAtt, objD, asO, this, List.lookup, q5, q6, q7, q8]
theorem isi_obj {t : Tr} {k : Nat} {hs : Hs} : bIsi ad.it [objD ad k t, .fn ad.Group] hs = .ok (.bl (isG t)) hs := by
  cases t with
  | usr x l => simp [bIsi, objD, tyN, clsN, I.i4, isG]
  | grp x l ps => simp [bIsi, objD, tyN, clsN, I.i5, isG]
theorem s_depth {t : Tr} {k : Nat} {hs : Hs} (C : Clo hs) : f_Node_depth ad [objD ad k t] hs = .ok (.int k) hs := by
  refine fn_rt (σ' := [some (objD ad k t)]) (h1 := hs) rfl ?_ (fin_int C)
  simp [b_Node_depth, eAtt, att_level I]
theorem att_depth {t : Tr} {k : Nat} {hs : Hs} (C : Clo hs) : dAtt "depth" (aT ad.User (.prop (f_Node_depth ad)) (aT ad.Group (.prop (f_Node_depth ad)) aN)) (objD ad k t) hs = .ok (.int k) hs := by
  have := s_depth I (t := t) (k := k) C
  cases t with
  | usr x l => simpa [dAtt, objD, asO, aT_u I] using this
  | grp x l ps => simpa [dAtt, objD, asO, aT_g I] using this
end
/-! ### members -/
theorem in2 {ok : Hs → Prop} {hs : Hs} (hok : ok hs) : ∀ (ds xs : List D) (σ : St), 2 < σ.length → ∃ σ', lcGo ok (gName 2) tYes (eVar 2) ds xs σ hs = .ok (xs ++ ds, σ') hs ∧ σ'.length = σ.length
  | [], xs, σ, l => ⟨σ, by simp [lcGo], rfl⟩
  | d :: ds, xs, σ, l => by
    obtain ⟨σ', e, l2⟩ := in2 hok ds (xs ++ [d]) (σ.set 2 (some d)) (by simpa using l)
    refine ⟨σ', ?_, by simpa using l2⟩
    rw [lcGo]
    have g : (σ.set 2 (some d))[2]? = some (some d) := List.getElem?_set_self l
    simp only [g_Name, Res.bind_ok, tYes, if_true, x_Var, g]
    rw [chk_pos hok, e]
    simp
theorem out2 {α : Type} {g : α → D} {F : α → List D} {m2 : SI} {ok : Hs → Prop} {hs : Hs} (hok : ok hs) : ∀ (as : List α) (xs : List D) (σ : St), 2 < σ.length → (∀ a ∈ as, ∀ σ : St, σ[1]? = some (some (g a)) → m2 σ hs = .ok (F a, fun _ => True) hs) → xs.length + (as.flatMap F).length ≤ 1000 →
    ∃ σ', lc2Go ok (gName 1) tYes m2 (lc1 (gName 2) tYes (eVar 2)) (as.map g) xs σ hs = .ok (xs ++ as.flatMap F, σ') hs
  | [], xs, σ, l, _, _ => ⟨σ, by simp [lc2Go]⟩
  | a :: as, xs, σ, l, h, z => by
    rw [List.flatMap_cons, List.length_append] at z
    obtain ⟨σ1, e1, l1⟩ := in2 (ok := fun _ => True) (hs := hs) trivial (F a) xs (σ.set 1 (some (g a))) (by simpa using l)
    obtain ⟨σ', e⟩ := out2 hok as (xs ++ F a) σ1 (by rw [l1]; simpa using l) (fun b hb => h b (List.mem_cons_of_mem _ hb)) (by rw [List.length_append]; omega)
    refine ⟨σ', ?_⟩
    have m := h a List.mem_cons_self (σ.set 1 (some (g a))) (List.getElem?_set_self (by omega))
    rw [List.map_cons, lc2Go]
    simp only [g_Name, Res.bind_ok, tYes, if_true, m]
    unfold lc1
    rw [grd_pos (szK (by omega)), e1]
    simp only [Res.bind_ok]
    rw [chk_pos hok]
    rw [List.flatMap_cons, ← List.append_assoc]
    exact e
theorem sort_flat : ∀ ps : List Tr, (ps.flatMap fun t => sortS (users t)).Perm (usersL ps)
  | [] => List.Perm.refl _
  | t :: ts => by
    rw [List.flatMap_cons, usersL]
    exact sortS_perm.append (sort_flat ts)
theorem sort_one (x : Str) : sortS [x] = [x] := by simp [sortS]
theorem flat_sD {α : Type} {F : α → List Str} : ∀ as : List α, (as.flatMap fun a => sD (F a)) = sD (as.flatMap F)
  | [] => rfl
  | a :: as => by rw [List.flatMap_cons, flat_sD as, List.flatMap_cons, sD, sD, sD, List.map_append]
section
variable {ad : Ad} (I : IsF ad) {hs : Hs} (C : Clo hs)
include I C
theorem s_Node_members {x : Str} {l : Option Int} {k : Nat} : f_Node_members ad [objD ad k (.usr x l)] hs = .ok (.tup [.str x]) hs := by
  have n := att_name I (t := .usr x l) (k := k) (hs := hs)
  refine fn_rt (σ' := [some (objD ad k (.usr x l))]) (h1 := hs) rfl ?_ (fin_pure C rfl)
  simp [b_Node_members, eAtt, n, mkT_s, tname]
/-- the members of a node -/
theorem att_members : ∀ (n : Nat) (t : Tr) (k : Nat), okT t → hi t ≤ n → (users t).length ≤ 12 → dAtt "members" (aT ad.User (.prop (f_Node_members ad)) (aT ad.Group (.prop (f_Group_members ad n)) aN)) (objD ad k t) hs = .ok (.tup (sD (sortS (users t)))) hs := by
  intro n
  induction n with
  | zero =>
    intro t k o h u
    cases t with
    | grp x l ps => rw [hi] at h; omega
    | usr x l =>
      have := s_Node_members I C (x := x) (l := l) (k := k)
      simpa [dAtt, objD, asO, aT_u I, users, sort_one] using this
  | succ n ih =>
    intro t k o h u
    cases t with
    | usr x l =>
      have := s_Node_members I C (x := x) (l := l) (k := k)
      simpa [dAtt, objD, asO, aT_u I, users, sort_one] using this
    | grp x l ps =>
      rw [okT] at o
      rw [hi] at h
      rw [users] at u
      have run : f_Group_members ad (n + 1) [objD ad k (.grp x l ps)] hs = .ok (.tup (sD (sortS (usersL ps)))) hs := by
        have pm := sort_flat ps
        have lf : (ps.flatMap fun t => sortS (users t)).length ≤ 12 := by rw [pm.length_eq]; exact u
        have pl : ∀ t ∈ ps, (users t).length ≤ 12 := by
          intro t ht
          obtain ⟨a, b, rfl⟩ := List.append_of_mem ht
          rw [usersL_app, usersL] at u
          simp at u
          omega
        obtain ⟨σ', e⟩ := out2 (g := objD ad (k + 1)) (F := fun t => sD (sortS (users t))) (m2 := iSeq (eAtt "members" (aT ad.User (.prop (f_Node_members ad)) (aT ad.Group (.prop (f_Group_members ad n)) aN)) (eVar 1))) (ok := fun _ => True) (hs := hs) trivial ps [] [some (objD ad k (.grp x l ps)), none, none] (by simp) (by
          intro t ht σ hσ
          refine seq_tup ?_
          simp only [eAtt, x_Var, hσ, Res.bind_ok]
          exact ih t (k + 1) ((okTs_iff ps).mp o.2.2.2.2 t ht) (by have := hiL_le ht; omega) (pl t ht)) (by rw [flat_sD]; simp only [List.length_nil, List.length_map]; omega)
        have lc : eLC false [1, 2] (iSeq (eAtt "parts" (aT ad.Group .fld aN) (eVar 0))) (lc2 (gName 1) tYes (iSeq (eAtt "members" (aT ad.User (.prop (f_Node_members ad)) (aT ad.Group (.prop (f_Group_members ad n)) aN)) (eVar 1))) (lc1 (gName 2) tYes (eVar 2))) [some (objD ad k (.grp x l ps)), none, none] hs = .ok (.lst (sD (ps.flatMap fun t => sortS (users t)))) hs := by
          have hm : iSeq (eAtt "parts" (aT ad.Group .fld aN) (eVar 0)) [some (objD ad k (.grp x l ps)), none, none] hs = .ok (objDs ad (k + 1) ps, fun _ => True) hs := seq_tup (by simp [eAtt, att_parts I])
          unfold eLC rawLC lc2
          rw [hm]
          simp only [Res.bind_ok, wipe, List.set_cons_succ, List.set_cons_zero]
          rw [objDs_map, e]
          simp only [Res.bind_ok, List.nil_append]
          rw [flat_sD]
          exact mkL_s (by rw [List.length_map]; omega)
        have so := b_sorted (xs := ps.flatMap fun t => sortS (users t)) (hs := hs) (by omega)
        rw [sortS_eq pm] at so
        have tl := tuple_lst (xs := sD (sortS (usersL ps))) (hs := hs) (by rw [List.length_map, sortS_len]; omega)
        refine fn_rt (σ' := [some (objD ad k (.grp x l ps)), none, none]) (h1 := hs) rfl ?_ (fin_pure C (by rw [noRef]; exact nr_strs _))
        unfold b_Group_members
        simp only [u_Cons, u_Ret, x_Blt, x_Cons, x_Nil, v_start, List.map_cons, List.map_nil, List.length_cons, List.length_nil, List.replicate, List.cons_append, List.nil_append, Nat.reduceAdd, Nat.reduceSub, lc, so, tl, Res.bind_ok]
      have : dAtt "members" (aT ad.User (.prop (f_Node_members ad)) (aT ad.Group (.prop (f_Group_members ad (n + 1))) aN)) (objD ad k (.grp x l ps)) hs = f_Group_members ad (n + 1) [objD ad k (.grp x l ps)] hs := by
        simp [dAtt, objD, asO, aT_g I]
      rw [this, run, users]
end
end Qo
-- M17
set_option maxRecDepth 100000
set_option maxHeartbeats 1000000
namespace Qo
open PySem
mutual
/-- the nodes as walk meets them, each with its level -/
def subs (k : Nat) : Tr → List (Nat × Tr)
  | .usr x l => [(k, .usr x l)]
  | .grp x l ps => (k, .grp x l ps) :: subsL (k + 1) ps
def subsL (k : Nat) : List Tr → List (Nat × Tr)
  | [] => []
  | t :: ts => subs k t ++ subsL k ts
end
def oD (ad : Ad) (s : Nat × Tr) : D := objD ad s.1 s.2
theorem x_gcall {fn : List D → Option (List D)} {a : SA} {σ : St} {h h' : Hs} {ds ys : List D} (e : a σ h = .ok ds h') (n : noRefs ds = true) (f : fn ds = some ys) : gCall fn [] a σ h = .ok ys h' := by
  unfold gCall gargs
  rw [e]
  simp only [Res.bind_ok, List.append_nil, wks_pure ds n, f]
theorem fnG_of {np n : Nat} {b : SY} {ds ys : List D} {σ' : St} (l : ds.length = np) (e : b (startS n ds) = some (ys, .nx, σ')) : fnG np n b ds = some ys := by
  unfold fnG
  rw [if_pos l, e]
theorem insL {ad : Ad} {self : List D → Option (List D)} : ∀ (ps : List Tr) (k : Nat) (σ : St), σ.length = 2 → (∀ t ∈ ps, self [objD ad k t] = some ((subs k t).map (oD ad))) →
    ∃ σ', yForGo (gName 1) (yCons (yFrom (gCall self [] (aCons (eVar 1) aNil))) yNil) (objDs ad k ps) σ = some ((subsL k ps).map (oD ad), .nx, σ')
  | [], k, σ, _, _ => ⟨σ, rfl⟩
  | t :: ts, k, σ, l, h => by
    obtain ⟨σ', e⟩ := insL ts k (σ.set 1 (some (objD ad k t))) (by simpa using l) (fun s hs => h s (List.mem_cons_of_mem _ hs))
    refine ⟨σ', ?_⟩
    have g : (σ.set 1 (some (objD ad k t)))[1]? = some (some (objD ad k t)) := List.getElem?_set_self (by omega)
    have c := x_gcall (fn := self) (a := aCons (eVar 1) aNil) (σ := σ.set 1 (some (objD ad k t))) (h := []) (h' := []) (ds := [objD ad k t]) (by simp [g]) (by simp [noRefs, nr_obj]) (h t List.mem_cons_self)
    have b : yCons (yFrom (gCall self [] (aCons (eVar 1) aNil))) yNil (σ.set 1 (some (objD ad k t))) = some ((subs k t).map (oD ad), .nx, σ.set 1 (some (objD ad k t))) := by
      unfold yCons yFrom yNil
      rw [c]
      simp
    rw [objDs, yForGo, g_Name]
    simp only [b, e]
    simp [subsL]
theorem s_inside {ad : Ad} (I : IsF ad) : ∀ (n : Nat) (t : Tr) (k : Nat), hi t ≤ n → f_inside ad (n + 1) [objD ad k t] = some ((subs k t).map (oD ad)) := by
  have usr : ∀ (n : Nat) (x : Str) (l : Option Int) (k : Nat), f_inside ad (n + 1) [objD ad k (.usr x l)] = some ((subs k (.usr x l)).map (oD ad)) := by
    intro n x l k
    have i := isi_obj I (t := .usr x l) (k := k) (hs := [])
    show fnG 1 2 (b_inside ad (f_inside ad n)) [objD ad k (.usr x l)] = _
    unfold fnG b_inside yCons yYield yIf yNil
    simp [i, isG, subs, oD]
  intro n
  induction n with
  | zero =>
    intro t k h
    cases t with
    | grp x l ps => rw [hi] at h; omega
    | usr x l => exact usr 0 x l k
  | succ n ih =>
    intro t k h
    cases t with
    | usr x l => exact usr (n + 1) x l k
    | grp x l ps =>
      rw [hi] at h
      have i := isi_obj I (t := .grp x l ps) (k := k) (hs := [])
      have p := att_parts I (x := x) (l := l) (ps := ps) (k := k) (hs := [])
      obtain ⟨σ', e⟩ := insL (ad := ad) (self := f_inside ad (n + 1)) ps (k + 1) [some (objD ad k (.grp x l ps)), none] rfl (fun t ht => ih t (k + 1) (by have := hiL_le ht; omega))
      have sq : iSeq (eAtt "parts" (aT ad.Group .fld aN) (eVar 0)) [some (objD ad k (.grp x l ps)), none] [] = .ok (objDs ad (k + 1) ps, fun _ => True) [] := seq_tup (by simp [eAtt, p])
      show fnG 1 2 (b_inside ad (f_inside ad (n + 1))) [objD ad k (.grp x l ps)] = _
      have yf : yFor (iSeq (eAtt "parts" (aT ad.Group .fld aN) (eVar 0))) (gName 1) (yCons (yFrom (gCall (f_inside ad (n + 1)) [] (aCons (eVar 1) aNil))) yNil) [some (objD ad k (.grp x l ps)), none] = some ((subsL (k + 1) ps).map (oD ad), .nx, σ') := by
        unfold yFor
        rw [sq]
        exact e
      have yi : yIf (tOf (eBlt (bIsi ad.it) (aCons (eVar 0) (aCons (eC (.fn ad.Group)) aNil)))) (yCons (yFor (iSeq (eAtt "parts" (aT ad.Group .fld aN) (eVar 0))) (gName 1) (yCons (yFrom (gCall (f_inside ad (n + 1)) [] (aCons (eVar 1) aNil))) yNil)) yNil) yNil [some (objD ad k (.grp x l ps)), none] = some ((subsL (k + 1) ps).map (oD ad), .nx, σ') := by
        unfold yIf
        simp only [t_Of, x_Blt, x_Cons, x_Var, x_C, x_Nil, List.getElem?_cons_zero, Res.bind_ok, i, isG, t_bl]
        rw [yCons, yf]
        simp [yNil]
      refine fnG_of (σ' := σ') rfl ?_
      unfold b_inside
      have st : startS 2 [objD ad k (.grp x l ps)] = [some (objD ad k (.grp x l ps)), none] := rfl
      rw [st, yCons]
      have yy : yYield (eVar 0) [some (objD ad k (.grp x l ps)), none] = some ([objD ad k (.grp x l ps)], .nx, [some (objD ad k (.grp x l ps)), none]) := rfl
      rw [yy]
      simp only
      rw [yCons, yi]
      simp [yNil, subs, oD]
theorem nm_subs : ∀ (t : Tr) (k : Nat), (subs k t).map (fun s => tname s.2) = nm t := by
  have both : ∀ n, (∀ t : Tr, sizeOf t < n → ∀ k, (subs k t).map (fun s => tname s.2) = nm t) := by
    intro n
    induction n with
    | zero => intro t h; omega
    | succ n ih =>
      intro t h k
      cases t with
      | usr x l => rfl
      | grp x l ps =>
        have all : ∀ ps' : List Tr, (∀ t ∈ ps', sizeOf t < n) → ∀ k, (subsL k ps').map (fun s => tname s.2) = nmL ps' := by
          intro ps'
          induction ps' with
          | nil => intro _ _; rfl
          | cons t ts it =>
            intro hh k
            rw [subsL, nmL, List.map_append, it (fun s hs => hh s (List.mem_cons_of_mem _ hs)), ih t (hh t List.mem_cons_self)]
        rw [subs, nm, List.map_cons, all ps (fun t ht => by have := List.sizeOf_lt_of_mem ht; simp at h; omega)]
        rfl
  exact fun t k => both (sizeOf t + 1) t (Nat.lt_succ_self _) k
end Qo
-- M18
set_option maxRecDepth 100000
set_option maxHeartbeats 1000000
namespace Qo
open PySem
abbrev tN : List Str := ["shape", "top", "heads"]
def treeD (ad : Ad) (T : Tr) : D := .obj ad.Tree tN [toD T, objD ad 1 T, .tup (sD (sortS (groups T)))]
theorem r1 : (("shape" : Str) = "top") = False := by simp only [eq_iff_iff, iff_false]; decide +kernel
theorem r2 : (("shape" : Str) = "heads") = False := by simp only [eq_iff_iff, iff_false]; decide +kernel
theorem r3 : (("top" : Str) = "heads") = False := by simp only [eq_iff_iff, iff_false]; decide +kernel
theorem r4 : (("top" : Str) == "shape") = false := by decide +kernel
theorem r5 : (("top" : Str) == "top") = true := by decide +kernel
theorem r6 : (("heads" : Str) == "shape") = false := by decide +kernel
theorem r7 : (("heads" : Str) == "top") = false := by decide +kernel
theorem r8 : (("heads" : Str) == "heads") = true := by decide +kernel
theorem sub_ind {P : Nat → Tr → Prop} (hu : ∀ k x l, P k (.usr x l)) (hg : ∀ k x l ps, (∀ t ∈ ps, P (k + 1) t) → P k (.grp x l ps)) : ∀ (t : Tr) (k : Nat), P k t := by
  have both : ∀ n, ∀ t : Tr, sizeOf t < n → ∀ k, P k t := by
    intro n
    induction n with
    | zero => intro t h; omega
    | succ n ih =>
      intro t h k
      cases t with
      | usr x l => exact hu k x l
      | grp x l ps => exact hg k x l ps fun t ht => ih t (by have := List.sizeOf_lt_of_mem ht; simp at h; omega) (k + 1)
  exact fun t k => both (sizeOf t + 1) t (Nat.lt_succ_self _) k
theorem subs_groups : ∀ (t : Tr) (k : Nat), ((subs k t).filter fun s => isG s.2).map (fun s => tname s.2) = groups t := by
  refine sub_ind (fun k x l => by simp [subs, isG, groups]) fun k x l ps ih => ?_
  rw [subs, groups, List.filter_cons_of_pos (by rfl), List.map_cons]
  congr 1
  have : ∀ qs : List Tr, (∀ t ∈ qs, ((subs (k + 1) t).filter fun s => isG s.2).map (fun s => tname s.2) = groups t) → ((subsL (k + 1) qs).filter fun s => isG s.2).map (fun s => tname s.2) = groupsL qs := by
    intro qs
    induction qs with
    | nil => intro _; rfl
    | cons t ts it =>
      intro h
      rw [subsL, groupsL, List.filter_append, List.map_append, h t List.mem_cons_self, it fun s hs => h s (List.mem_cons_of_mem _ hs)]
  exact this ps ih
theorem subs_users : ∀ (t : Tr) (k : Nat), ((subs k t).filter fun s => !isG s.2).map (fun s => tname s.2) = users t := by
  refine sub_ind (fun k x l => by simp [subs, isG, users, tname]) fun k x l ps ih => ?_
  rw [subs, users, List.filter_cons_of_neg (by simp [isG])]
  have : ∀ qs : List Tr, (∀ t ∈ qs, ((subs (k + 1) t).filter fun s => !isG s.2).map (fun s => tname s.2) = users t) → ((subsL (k + 1) qs).filter fun s => !isG s.2).map (fun s => tname s.2) = usersL qs := by
    intro qs
    induction qs with
    | nil => intro _; rfl
    | cons t ts it =>
      intro h
      rw [subsL, usersL, List.filter_append, List.map_append, h t List.mem_cons_self, it fun s hs => h s (List.mem_cons_of_mem _ hs)]
  exact this ps ih
theorem Wf.nodes {T : Tr} (W : Wf T) : (subs 1 T).length ≤ 24 := by
  have := congrArg List.length (nm_subs T 1)
  rw [List.length_map, (nm_perm T).length_eq, List.length_append] at this
  have a := W.nu
  have b := W.ng
  omega
theorem oc_unf {hs : Hs} {c : Addr} {ns : List Str} {vs : List D} (U : Unf hs) : Unf (Oc hs c ns vs) := unf_app U
section
variable {ad : Ad} (I : IsF ad) {hs : Hs} (C : Clo hs) (U : Unf hs) {T : Tr} (W : Wf T)
include I C U W
theorem s_heads {a : SE} {σ : St} (l : 3 < σ.length) (e : a σ hs = .ok (objD ad 1 T) hs) : eBlt bTuple (aCons (eBlt (bSorted false) (aCons (eLC false [3] (iGen (gCall (f_inside ad 10) [] (aCons a aNil))) (lc1 (gName 3) (tOf (eBlt (bIsi ad.it) (aCons (eVar 3) (aCons (eC (.fn ad.Group)) aNil)))) (eAtt "name" (aT ad.User .fld (aT ad.Group .fld aN)) (eVar 3)))) aNil)) aNil) σ hs = .ok (.tup (sD (sortS (groups T)))) hs := by
  have lc : eLC false [3] (iGen (gCall (f_inside ad 10) [] (aCons a aNil))) (lc1 (gName 3) (tOf (eBlt (bIsi ad.it) (aCons (eVar 3) (aCons (eC (.fn ad.Group)) aNil)))) (eAtt "name" (aT ad.User .fld (aT ad.Group .fld aN)) (eVar 3))) σ hs = .ok (.lst (((subs 1 T).filter fun s => isG s.2).map fun s => D.str (tname s.2))) hs := by
    refine x_LCb (g := oD ad) (ok := fun _ => True) ?_ trivial (by have := W.nodes; omega) fun s hs' => ?_
    · unfold iGen
      rw [x_gcall (h' := hs) (ds := [objD ad 1 T]) (by simp [e]) (by simp [noRefs, nr_obj]) (s_inside I 9 T 1 (by have := W.hi; omega))]
      rfl
    · have g : ((wipe σ [3]).set 3 (some (oD ad s)))[3]? = some (some (oD ad s)) := List.getElem?_set_self (by simpa [wipe] using l)
      have i : bIsi ad.it [oD ad s, .fn ad.Group] hs = .ok (.bl (isG s.2)) hs := isi_obj I (t := s.2) (k := s.1) (hs := hs)
      have n : dAtt "name" (aT ad.User .fld (aT ad.Group .fld aN)) (oD ad s) hs = .ok (.str (tname s.2)) hs := att_name I (t := s.2) (k := s.1) (hs := hs)
      refine ⟨?_, fun _ => ?_⟩
      · simp only [t_Of, x_Blt, x_Cons, x_Var, g, x_C, x_Nil, Res.bind_ok, i, t_bl]
      · simp only [eAtt, x_Var, g, Res.bind_ok, n]
  have e2 : (((subs 1 T).filter fun s => isG s.2).map fun s => D.str (tname s.2)) = sD (groups T) := by
    rw [← subs_groups T 1, sD, List.map_map]; rfl
  rw [e2] at lc
  have so := b_sorted (xs := groups T) (hs := hs) (by have := W.ng; omega)
  have tl := tuple_lst (xs := sD (sortS (groups T))) (hs := hs) (by rw [List.length_map, sortS_len]; have := W.ng; omega)
  simp only [x_Blt, x_Cons, x_Nil, lc, so, tl, Res.bind_ok]
end
section
variable {ad : Ad} (I : IsF ad) {hs : Hs} (C : Clo hs) (U : Unf hs) {T : Tr} (W : Wf T)
include I C U W
theorem tree_init : f_Tree___init__ ad [.ref hs.length, toD T] (Oc hs ad.Tree [] []) = .ok .non (Oc hs ad.Tree tN [toD T, objD ad 1 T, .tup (sD (sortS (groups T)))]) := by
  have nT := nr_toD T
  have nO := nr_obj (ad := ad) T 1
  have nH : noRef (.tup (sD (sortS (groups T)))) = true := by rw [noRef]; exact nr_strs _
  have c1 : Clo (Oc hs ad.Tree [] []) := oc_clo C rfl
  have c2 : Clo (Oc hs ad.Tree ["shape"] [toD T]) := oc_clo C (by simp [noRefs, nT])
  have c3 : Clo (Oc hs ad.Tree ["shape", "top"] [toD T, objD ad 1 T]) := oc_clo C (by simp [noRefs, nT, nO])
  have v := s_valid (ad := ad) I c1 W
  have b := s_build I c2 (oc_unf U) 9 T 1 W.ok (by have := W.hi; omega)
  have f1 := oc_fld (ok := okC ad.Tree okN) (c := ad.Tree) (hs := hs) (n := "shape") (d := toD T) (by simp [okC]) (ns := []) (vs := []) (by decide) rfl
  have f2 := oc_fld (ok := okC ad.Tree okN) (c := ad.Tree) (hs := hs) (n := "top") (d := objD ad 1 T) (by simp [okC]) (ns := ["shape"]) (vs := [toD T]) (by decide) rfl
  have f3 := oc_fld (ok := okC ad.Tree okN) (c := ad.Tree) (hs := hs) (n := "heads") (d := .tup (sD (sortS (groups T)))) (by simp [okC]) (ns := ["shape", "top"]) (vs := [toD T, objD ad 1 T]) (by decide) rfl
  simp only [putK, putV, r1, r2, r3, if_false] at f1 f2 f3
  have tt : aT ad.Tree .fld aN ad.Tree = some .fld := if_pos rfl
  have hd := s_heads I c3 (oc_unf U) W (a := eAtt "top" (aT ad.Tree .fld aN) (eVar 0)) (σ := [some (.ref hs.length), some (toD T), some .non, none]) (by simp) (by
    simp only [eAtt, x_Var, List.getElem?_cons_zero, Res.bind_ok, dAtt, oc_asO, tt]
    simp [List.lookup, r4, r5])
  refine fn_nx (σ' := [some (.ref hs.length), some (toD T), some .non, none]) (h1 := Oc hs ad.Tree tN [toD T, objD ad 1 T, .tup (sD (sortS (groups T)))]) rfl ?_ ?_
  · unfold b_Tree___init__
    have d0 : dIs true .non .non (Oc hs ad.Tree [] []) = .ok (.bl false) (Oc hs ad.Tree [] []) := rfl
    have b' : f_build ad 10 [toD T, .int 1] (Oc hs ad.Tree ["shape"] [toD T]) = .ok (objD ad 1 T) (Oc hs ad.Tree ["shape"] [toD T]) := b
    simp only [u_Cons, u_Asg, u_If, x_fld, x_Op, x_C, x_Call, x_Cons, x_Nil, x_Var, g_Name, t_Of, v_start, List.map_cons, List.map_nil, List.length_cons, List.length_nil, List.replicate, List.cons_append, List.nil_append, List.append_nil, Nat.reduceAdd, Nat.reduceSub, List.set_cons_zero, List.set_cons_succ, List.getElem?_cons_zero, List.getElem?_cons_succ, Res.bind_ok, v, d0, t_bl, Bool.false_eq_true, if_false, u_Nil, f1, f2, f3, b', hd]
  · have := fin_non (oc_clo (c := ad.Tree) (ns := tN) C (show noRefs [toD T, objD ad 1 T, .tup (sD (sortS (groups T)))] = true by simp [noRefs, nT, nO, nH]))
    rwa [List.length_append] at this ⊢
theorem mk_tree {a : SA} {σ : St} {h0 : Hs} (e : a σ h0 = .ok [toD T] hs) : eMake true ad.Tree (f_Tree___init__ ad) [] a σ h0 = .ok (treeD ad T) hs := by
  unfold eMake
  rw [e, Res.bind_ok]
  have := tree_init I C U W
  simp only [List.append_nil]
  rw [this, Res.bind_ok]
  exact oc_fin C (by
    have nH : noRef (.tup (sD (sortS (groups T)))) = true := by rw [noRef]; exact nr_strs _
    simp [noRefs, nr_toD, nr_obj, nH])
end
end Qo
-- M19
set_option maxRecDepth 100000
set_option maxHeartbeats 1000000
namespace Qo
open PySem
theorem n1 : ("walk" : Str) ∉ tN := by decide +kernel
theorem n2 : ("around" : Str) ∉ tN := by decide +kernel
theorem n3 : ("node_of" : Str) ∉ tN := by decide +kernel
theorem nr_tree {ad : Ad} {T : Tr} : noRef (treeD ad T) = true := by
  simp [treeD, noRef, noRefs, nr_toD, nr_obj]
  exact nr_strs _
theorem asO_tree {ad : Ad} {T : Tr} {hs : Hs} : asO hs (treeD ad T) = some (ad.Tree, tN, [toD T, objD ad 1 T, .tup (sD (sortS (groups T)))]) := rfl
theorem aT_t {ad : Ad} {a : Act} : aT ad.Tree a aN ad.Tree = some a := if_pos rfl
theorem mT_t {ad : Ad} {f : SF} : mT ad.Tree f mN ad.Tree = some (f, []) := if_pos rfl
theorem gT_t {ad : Ad} {f : List D → Option (List D)} : gT ad.Tree f ad.Tree = some (f, []) := if_pos rfl
theorem att_top {ad : Ad} {T : Tr} {hs : Hs} : dAtt "top" (aT ad.Tree .fld aN) (treeD ad T) hs = .ok (objD ad 1 T) hs := by
  simp [dAtt, asO_tree, aT_t, List.lookup, r4, r5]
theorem att_heads {ad : Ad} {T : Tr} {hs : Hs} : dAtt "heads" (aT ad.Tree .fld aN) (treeD ad T) hs = .ok (.tup (sD (sortS (groups T)))) hs := by
  simp [dAtt, asO_tree, aT_t, List.lookup, r6, r7, r8]
theorem att_tp {ad : Ad} {T : Tr} {hs : Hs} {m : Str} {f : SF} : dAtt m (aT ad.Tree (.prop f) aN) (treeD ad T) hs = f [treeD ad T] hs := by
  simp [dAtt, asO_tree, aT_t]
theorem x_meth {ad : Ad} {T : Tr} {m : Str} {f : SF} {o : SE} {a : SA} {σ : St} {h hs : Hs} {ds : List D} (eo : o σ h = .ok (treeD ad T) h) (n : m ∉ tN) (ea : a σ h = .ok ds hs) : eMeth m (mT ad.Tree f mN) o a σ h = f (treeD ad T :: ds) hs := by
  unfold eMeth
  rw [eo]
  simp only [Res.bind_ok, asO_tree, mT_t]
  rw [grd_pos n, ea]
  simp only [Res.bind_ok, List.append_nil]
section
variable {ad : Ad} (I : IsF ad) {hs : Hs} (C : Clo hs) {T : Tr} (W : Wf T)
include I C W
theorem s_root : f_Tree_root ad [treeD ad T] hs = .ok (objD ad 1 T) hs := by
  refine fn_rt (σ' := [some (treeD ad T)]) (h1 := hs) rfl ?_ (fin_pure C (nr_obj _ _))
  simp [b_Tree_root, eAtt, att_top]
theorem s_users : f_Tree_users ad [treeD ad T] hs = .ok (.tup (sD (sortS (users T)))) hs := by
  have m := att_members I C 10 T 1 W.ok (by have := W.hi; omega) W.nu
  refine fn_rt (σ' := [some (treeD ad T)]) (h1 := hs) rfl ?_ (fin_pure C (by rw [noRef]; exact nr_strs _))
  simp [b_Tree_users, eAtt, att_top, m]
theorem s_groups : f_Tree_groups ad [treeD ad T] hs = .ok (.tup (sD (sortS (groups T)))) hs := by
  refine fn_rt (σ' := [some (treeD ad T)]) (h1 := hs) rfl ?_ (fin_pure C (by rw [noRef]; exact nr_strs _))
  simp [b_Tree_groups, eAtt, att_heads]
theorem s_len : f_Tree___len__ ad [treeD ad T] hs = .ok (.int (users T).length) hs := by
  have u := s_users I C W
  refine fn_rt (σ' := [some (treeD ad T)]) (h1 := hs) rfl ?_ (fin_int C)
  simp [b_Tree___len__, eAtt, att_tp, u, len_tup, sortS_len]
theorem s_walk : f_Tree_walk ad [treeD ad T] = some ((subs 1 T).map (oD ad)) := by
  refine fnG_of (σ' := [some (treeD ad T)]) rfl ?_
  have c := x_gcall (fn := f_inside ad 10) (a := aCons (eAtt "top" (aT ad.Tree .fld aN) (eVar 0)) aNil) (σ := [some (treeD ad T)]) (h := []) (h' := []) (ds := [objD ad 1 T]) (by simp [eAtt, att_top]) (by simp [noRefs, nr_obj]) (s_inside I 9 T 1 (by have := W.hi; omega))
  have st : startS 1 [treeD ad T] = [some (treeD ad T)] := rfl
  unfold b_Tree_walk
  rw [st, yCons, yFrom, c]
  simp [yNil]
theorem x_walk {o : SE} {σ : St} (eo : o σ hs = .ok (treeD ad T) hs) : gMeth "walk" (gT ad.Tree (f_Tree_walk ad)) o aNil σ hs = .ok ((subs 1 T).map (oD ad)) hs := by
  unfold gMeth
  rw [eo]
  simp only [Res.bind_ok, asO_tree, gT_t]
  rw [grd_pos n1]
  simp only [x_Nil, Res.bind_ok, List.append_nil, gargs]
  rw [wks_pure [treeD ad T] (by simp [noRefs, nr_tree])]
  simp only [s_walk I C W]
theorem s_check {u : Str} (hu : u ∈ users T) (nk : PyData.strOk u = true) : f_check_user ad [treeD ad T, .str u] hs = .ok .non hs := by
  have us := s_users I C W
  have sk : SOk (sortS (users T)) := SOk.of fun x hx => nm_ok T W.ok x ((nm_perm T).mem_iff.mpr (List.mem_append_left _ (sortS_mem.mp hx)))
  have i := in_strs (n := true) (xs := sortS (users T)) (hs := hs) nk sk
  rw [decide_eq_true (sortS_mem.mpr hu)] at i
  refine fn_nx (σ' := [some (treeD ad T), some (.str u)]) (h1 := hs) rfl ?_ (fin_non C)
  simp [b_check_user, eAtt, att_tp, us, i]
end
/-- every name is a name -/
theorem Wf.nameOk {T : Tr} (W : Wf T) {s : Nat × Tr} (h : s ∈ subs 1 T) : NameOk (tname s.2) := by
  refine nm_ok T W.ok _ ?_
  rw [← nm_subs T 1]
  exact List.mem_map.mpr ⟨s, h, rfl⟩
theorem nodeGo {ad : Ad} (I : IsF ad) {hs : Hs} {ok : Hs → Prop} (hok : ok hs) {T : Tr} {x : Str} (nx : PyData.strOk x = true) {s : Nat × Tr} : ∀ (L : List (Nat × Tr)) (v : Option D), s ∈ L → tname s.2 = x → (L.map fun s => tname s.2).Nodup → (∀ r ∈ L, PyData.strOk (tname r.2) = true) →
    forGo ok (gName 2) (sCons (sIf (tOf (eOp (dEq false) (eAtt "name" (aT ad.User .fld (aT ad.Group .fld aN)) (eVar 2)) (eVar 1))) (sCons (sRet (eVar 2)) sNil) sNil) sNil) (L.map (oD ad)) [some (treeD ad T), some (.str x), v] hs = .ok (.rt (oD ad s), [some (treeD ad T), some (.str x), some (oD ad s)]) hs
  | [], v, h, _, _, _ => nomatch h
  | r :: L, v, h, hx, nd, nk => by
    have n : dAtt "name" (aT ad.User .fld (aT ad.Group .fld aN)) (oD ad r) hs = .ok (.str (tname r.2)) hs := att_name I (t := r.2) (k := r.1) (hs := hs)
    have e := eq_str (n := false) (hs := hs) (nk r List.mem_cons_self) nx
    rw [List.map_cons] at nd
    obtain ⟨nd1, nd2⟩ := List.nodup_cons.mp nd
    by_cases hr : tname r.2 = x
    · have : r = s := by
        rcases List.mem_cons.mp h with h | h
        · exact h.symm
        · exact absurd (List.mem_map.mpr ⟨s, h, hx.trans hr.symm⟩) nd1
      subst this
      rw [decide_eq_true hr] at e
      rw [List.map_cons, forGo]
      simp only [g_Name, Res.bind_ok, u_Cons, u_If, u_Ret, x_Op, x_Var, eAtt, t_Of, List.set_cons_zero, List.set_cons_succ, List.getElem?_cons_zero, List.getElem?_cons_succ, n, e, t_bl, bne, Bool.not_true, Bool.false_beq, Bool.not_false, Bool.false_eq_true, if_true, reduceIte]
    · rw [decide_eq_false hr] at e
      have hL : s ∈ L := by
        rcases List.mem_cons.mp h with h | h
        · exact absurd (h ▸ hx) hr
        · exact h
      have ih := nodeGo I hok nx L (some (oD ad r)) hL hx nd2 (fun q hq => nk q (List.mem_cons_of_mem _ hq)) (T := T)
      rw [List.map_cons, forGo]
      simp only [g_Name, Res.bind_ok, u_Cons, u_If, u_Ret, x_Op, x_Var, eAtt, t_Of, List.set_cons_zero, List.set_cons_succ, List.getElem?_cons_zero, List.getElem?_cons_succ, n, e, t_bl, bne, Bool.not_true, Bool.false_beq, Bool.not_false, Bool.false_eq_true, if_false, reduceIte, u_Nil]
      rw [chk_pos hok]
      exact ih
section
variable {ad : Ad} (I : IsF ad) {hs : Hs} (C : Clo hs) {T : Tr} (W : Wf T)
include I C W
theorem s_node_of {s : Nat × Tr} (h : s ∈ subs 1 T) : f_Tree_node_of ad [treeD ad T, .str (tname s.2)] hs = .ok (oD ad s) hs := by
  have w := x_walk I C W (o := eVar 0) (σ := [some (treeD ad T), some (.str (tname s.2)), none]) rfl
  have nd : ((subs 1 T).map fun s => tname s.2).Nodup := by
    rw [nm_subs]
    exact (nm_perm T).nodup_iff.mpr W.nod
  have g := nodeGo I (ok := fun _ => True) (hs := hs) trivial (T := T) (strOk_of (W.nameOk h)) (s := s) (subs 1 T) none h rfl nd (fun r hr => strOk_of (W.nameOk hr))
  refine fn_rt (σ' := [some (treeD ad T), some (.str (tname s.2)), some (oD ad s)]) (h1 := hs) rfl ?_ (fin_pure C (nr_obj _ _))
  have st : startS 3 [treeD ad T, .str (tname s.2)] = [some (treeD ad T), some (.str (tname s.2)), none] := rfl
  unfold b_Tree_node_of
  rw [st, u_Cons, sFor, iGen, w]
  simp only [Res.bind_ok]
  rw [g]
  rfl
end
end Qo
-- M20
set_option maxRecDepth 100000
set_option maxHeartbeats 1000000
namespace Qo
open PySem
/-! ### plain facts of a tree's nodes -/
structure Und (t : Tr) (s : Nat × Tr) : Prop where
  ok : okT t → okT s.2
  hi : hi s.2 ≤ hi t
  us : (users s.2).Sublist (users t)
theorem usersL_mem {u : Str} : ∀ {ps : List Tr}, u ∈ usersL ps → ∃ t ∈ ps, u ∈ users t
  | t :: ts, h => by
    rw [usersL] at h
    rcases List.mem_append.mp h with h | h
    · exact ⟨t, List.mem_cons_self, h⟩
    · obtain ⟨s, hs, hu⟩ := usersL_mem h
      exact ⟨s, List.mem_cons_of_mem _ hs, hu⟩
theorem usersL_sub : ∀ {ps : List Tr} {t : Tr}, t ∈ ps → (users t).Sublist (usersL ps)
  | s :: ts, t, h => by
    rw [usersL]
    rcases List.mem_cons.mp h with rfl | h
    · exact List.sublist_append_left _ _
    · exact (usersL_sub h).trans (List.sublist_append_right _ _)
theorem subsL_mem {s : Nat × Tr} : ∀ {ps : List Tr} {k : Nat}, s ∈ subsL k ps → ∃ t ∈ ps, s ∈ subs k t
  | t :: ts, k, h => by
    rw [subsL] at h
    rcases List.mem_append.mp h with h | h
    · exact ⟨t, List.mem_cons_self, h⟩
    · obtain ⟨r, hr, hu⟩ := subsL_mem h
      exact ⟨r, List.mem_cons_of_mem _ hr, hu⟩
theorem subsL_of {s : Nat × Tr} : ∀ {ps : List Tr} {k : Nat} {t : Tr}, t ∈ ps → s ∈ subs k t → s ∈ subsL k ps
  | r :: ts, k, t, h, hs => by
    rw [subsL]
    rcases List.mem_cons.mp h with rfl | h
    · exact List.mem_append_left _ hs
    · exact List.mem_append_right _ (subsL_of h hs)
theorem subs_und : ∀ (t : Tr) (k : Nat), ∀ s ∈ subs k t, Und t s := by
  refine sub_ind (fun k x l s hs => ?_) fun k x l ps ih s hs => ?_
  · rw [subs, List.mem_singleton] at hs
    subst hs
    exact ⟨fun h => h, Nat.le_refl _, List.Sublist.refl _⟩
  · rw [subs] at hs
    rcases List.mem_cons.mp hs with rfl | hs
    · exact ⟨fun h => h, Nat.le_refl _, List.Sublist.refl _⟩
    · obtain ⟨t, ht, h⟩ := subsL_mem hs
      obtain ⟨a, b, c⟩ := ih t ht s h
      refine ⟨fun o => ?_, ?_, ?_⟩
      · rw [okT] at o
        exact a ((okTs_iff ps).mp o.2.2.2.2 t ht)
      · have := hiL_le ht
        rw [Qo.hi]; omega
      · rw [users]; exact c.trans (usersL_sub ht)
/-- a group that holds u -/
def inn (u : Str) (s : Nat × Tr) : Bool := isG s.2 && decide (u ∈ users s.2)
structure Chn (u : Str) (k : Nat) (t : Tr) (c : List (Nat × Tr)) : Prop where
  lv : c.map Prod.fst = List.range' k c.length
  nest : c.Pairwise fun a b => ∀ x ∈ users b.2, x ∈ users a.2
  sub : ∀ s ∈ c, ∀ x ∈ users s.2, x ∈ users t
  leaf : ∃ l, (k + c.length, Tr.usr u l) ∈ subs k t
  top : isG t = true → ∃ r, c = (k, t) :: r
theorem none_in {u : Str} {k : Nat} {ps : List Tr} (h : u ∉ usersL ps) : (subsL k ps).filter (inn u) = [] := by
  rw [List.filter_eq_nil_iff]
  intro s hs hi
  unfold inn at hi
  rw [Bool.and_eq_true, decide_eq_true_eq] at hi
  obtain ⟨t, ht, h2⟩ := subsL_mem hs
  exact h ((usersL_sub ht).subset ((subs_und t k s h2).us.subset hi.2))
theorem subsL_app {k : Nat} : ∀ a b : List Tr, subsL k (a ++ b) = subsL k a ++ subsL k b
  | [], b => rfl
  | t :: a, b => by rw [List.cons_append, subsL, subsL_app a b, subsL, List.append_assoc]
theorem chain {u : Str} : ∀ (t : Tr) (k : Nat), (users t).Nodup → u ∈ users t → Chn u k t ((subs k t).filter (inn u)) := by
  refine sub_ind (fun k x l nd hu => ?_) fun k x l ps ih nd hu => ?_
  · rw [users, List.mem_singleton] at hu
    subst hu
    have e : (subs k (.usr u l)).filter (inn u) = [] := by simp [subs, inn, isG]
    rw [e]
    exact ⟨rfl, List.Pairwise.nil, fun s hs => (nomatch hs), ⟨l, by simp [subs]⟩, fun h => by cases h⟩
  · rw [users] at nd hu
    obtain ⟨t, ht, htu⟩ := usersL_mem hu
    obtain ⟨a, b, rfl⟩ := List.append_of_mem ht
    rw [usersL_app, usersL] at nd
    have ndt : (users t).Nodup := (List.nodup_append.mp (List.nodup_append.mp nd).2.1).1
    have ua : u ∉ usersL a := fun h => (List.nodup_append.mp nd).2.2 u h u (List.mem_append_left _ htu) rfl
    have ub : u ∉ usersL b := fun h => (List.nodup_append.mp (List.nodup_append.mp nd).2.1).2.2 u htu u h rfl
    have c := ih t ht ndt htu
    have iu : inn u (k, .grp x l (a ++ t :: b)) = true := by
      unfold inn
      rw [Bool.and_eq_true, decide_eq_true_eq]
      exact ⟨rfl, by rw [users]; exact hu⟩
    have e : (subs k (.grp x l (a ++ t :: b))).filter (inn u) = (k, .grp x l (a ++ t :: b)) :: (subs (k + 1) t).filter (inn u) := by
      rw [subs, List.filter_cons_of_pos iu, subsL_app, subsL, List.filter_append, List.filter_append, none_in ua, none_in ub, List.append_nil, List.nil_append]
    rw [e]
    obtain ⟨lv, nest, sub, ⟨lf, leaf⟩, top⟩ := c
    have tsub : ∀ x' ∈ users t, x' ∈ users (.grp x l (a ++ t :: b)) := fun y hy => by
      rw [users]; exact (usersL_sub ht).subset hy
    refine ⟨?_, ?_, ?_, ⟨lf, ?_⟩, fun _ => ⟨_, rfl⟩⟩
    · rw [List.map_cons, lv, List.length_cons, List.range'_succ]
    · exact List.Pairwise.cons (fun s hs y hy => tsub y (sub s hs y hy)) nest
    · intro s hs y hy
      rcases List.mem_cons.mp hs with rfl | hs
      · exact hy
      · exact tsub y (sub s hs y hy)
    · rw [List.length_cons, subs]
      refine List.mem_cons_of_mem _ (subsL_of ht ?_)
      rw [show k + (((subs (k + 1) t).filter (inn u)).length + 1) = k + 1 + ((subs (k + 1) t).filter (inn u)).length by omega]
      exact leaf
end Qo
-- M21
set_option maxRecDepth 100000
set_option maxHeartbeats 1000000
namespace Qo
open PySem
theorem seq_lst {a : SE} {σ : St} {h h' : Hs} {xs : List D} (e : a σ h = .ok (.lst xs) h') : iSeq a σ h = .ok (xs, fun h'' => asL h'' (.lst xs) = some xs) h' := by
  unfold iSeq
  rw [e]
  rfl
/-- the names around u, from the innermost -/
def arnd (T : Tr) (u : Str) : List Str := (((subs 1 T).filter (inn u)).reverse).map fun s => tname s.2
section
variable {ad : Ad} (I : IsF ad) {hs : Hs} (C : Clo hs) {T : Tr} (W : Wf T)
include I C W
theorem mem_sub {s : Nat × Tr} (h : s ∈ subs 1 T) : dAtt "members" (aT ad.User (.prop (f_Node_members ad)) (aT ad.Group (.prop (f_Group_members ad 10)) aN)) (oD ad s) hs = .ok (.tup (sD (sortS (users s.2)))) hs := by
  have d := subs_und T 1 s h
  exact att_members I C 10 s.2 s.1 (d.ok W.ok) (by have := d.hi; have := W.hi; omega) (by have := d.us.length_le; have := W.nu; omega)
theorem sok_sub {s : Nat × Tr} (h : s ∈ subs 1 T) : SOk (sortS (users s.2)) := SOk.of fun x hx => by
  have d := subs_und T 1 s h
  exact nm_ok T W.ok x ((nm_perm T).mem_iff.mpr (List.mem_append_left _ (d.us.subset (sortS_mem.mp hx))))
theorem in_sub {s : Nat × Tr} {u : Str} (h : s ∈ subs 1 T) (nu : PyData.strOk u = true) : dIn false (.str u) (.tup (sD (sortS (users s.2)))) hs = .ok (.bl (decide (u ∈ users s.2))) hs := by
  have := in_strs (n := false) (xs := sortS (users s.2)) (hs := hs) nu (sok_sub I C W h)
  rw [this]
  simp [sortS_mem]
theorem s_around {u : Str} (hu : u ∈ users T) : f_Tree_around ad [treeD ad T, .str u] hs = .ok (.tup (sD (arnd T u))) hs := by
  have nu : PyData.strOk u = true := strOk_of (nm_ok T W.ok u ((nm_perm T).mem_iff.mpr (List.mem_append_left _ hu)))
  have ch := s_check I C W hu nu
  have wk := x_walk I C W (o := eVar 0) (σ := [some (treeD ad T), some (.str u), none, none]) rfl
  have ln := W.nodes
  have m1 : mkL false ((subs 1 T).map (oD ad)) hs = .ok (.lst ((subs 1 T).map (oD ad))) hs := mkL_s (by rw [List.length_map]; omega)
  have m2 : mkL false ((subs 1 T).map (oD ad)).reverse hs = .ok (.lst ((subs 1 T).reverse.map (oD ad))) hs := by
    rw [← List.map_reverse]
    exact mkL_s (by rw [List.length_map, List.length_reverse]; omega)
  have lc : eLC false [3] (iSeq (eVar 2)) (lc1 (gName 3) (tAnd (tOf (eBlt (bIsi ad.it) (aCons (eVar 3) (aCons (eC (.fn ad.Group)) aNil)))) (tOf (eOp (dIn false) (eVar 1) (eAtt "members" (aT ad.User (.prop (f_Node_members ad)) (aT ad.Group (.prop (f_Group_members ad 10)) aN)) (eVar 3))))) (eAtt "name" (aT ad.User .fld (aT ad.Group .fld aN)) (eVar 3))) [some (treeD ad T), some (.str u), some (.lst ((subs 1 T).reverse.map (oD ad))), none] hs = .ok (.lst (sD (arnd T u))) hs := by
    have e : sD (arnd T u) = ((subs 1 T).reverse.filter (inn u)).map fun s => D.str (tname s.2) := by
      rw [arnd, ← List.filter_reverse, sD, List.map_map]; rfl
    rw [e]
    refine x_LCb (g := oD ad) (seq_lst rfl) rfl (by rw [List.length_reverse]; omega) fun s hs' => ?_
    have hm : s ∈ subs 1 T := List.mem_reverse.mp hs'
    have i : bIsi ad.it [oD ad s, .fn ad.Group] hs = .ok (.bl (isG s.2)) hs := isi_obj I (t := s.2) (k := s.1) (hs := hs)
    have n : dAtt "name" (aT ad.User .fld (aT ad.Group .fld aN)) (oD ad s) hs = .ok (.str (tname s.2)) hs := att_name I (t := s.2) (k := s.1) (hs := hs)
    have m := mem_sub I C W hm
    have q := in_sub I C W hm nu
    refine ⟨?_, fun _ => ?_⟩
    · cases hg : isG s.2 with
      | false =>
        rw [hg] at i
        simp only [wipe, t_And, t_Of, x_Blt, x_Cons, x_Var, x_C, x_Nil, List.set_cons_zero, List.set_cons_succ, List.getElem?_cons_zero, List.getElem?_cons_succ, Res.bind_ok, i, t_bl, Bool.false_eq_true, if_false, inn, hg, Bool.false_and]
      | true =>
        rw [hg] at i
        simp only [wipe, t_And, t_Of, x_Op, eAtt, x_Blt, x_Cons, x_Var, x_C, x_Nil, List.set_cons_zero, List.set_cons_succ, List.getElem?_cons_zero, List.getElem?_cons_succ, Res.bind_ok, i, t_bl, if_true, m, q, inn, hg, Bool.true_and]
    · simp only [wipe, eAtt, x_Var, List.set_cons_zero, List.set_cons_succ, List.getElem?_cons_zero, List.getElem?_cons_succ, Res.bind_ok, n]
  have la : (arnd T u).length ≤ 24 := by
    unfold arnd
    rw [List.length_map, List.length_reverse]
    exact Nat.le_trans (List.length_filter_le _ _) ln
  have tl := tuple_lst (xs := sD (arnd T u)) (hs := hs) (by rw [List.length_map]; omega)
  refine fn_rt (σ' := [some (treeD ad T), some (.str u), some (.lst ((subs 1 T).reverse.map (oD ad))), none]) (h1 := hs) rfl ?_ (fin_pure C (by rw [noRef]; exact nr_strs _))
  unfold b_Tree_around
  simp only [u_Cons, u_Asg, u_Ret, sExpr, eRev, eListG, x_Call, x_Blt, x_Cons, x_Nil, x_Var, g_Name, v_start, List.map_cons, List.map_nil, List.length_cons, List.length_nil, List.replicate, List.cons_append, List.nil_append, List.append_nil, Nat.reduceAdd, Nat.reduceSub, List.set_cons_zero, List.set_cons_succ, List.getElem?_cons_zero, List.getElem?_cons_succ, Res.bind_ok, ch, wk, m1, asL, m2, lc, tl]
end
end Qo
-- M22
set_option maxRecDepth 100000
set_option maxHeartbeats 1000000
namespace Qo
open PySem
/-- a loop that never leaves -/
theorem for_skip {α : Type} {g : α → D} {ok : Hs → Prop} {i : Nat} {b : SS} {hs : Hs} {J : St → Prop} (hok : ok hs) : ∀ (as : List α), (∀ a ∈ as, ∀ σ, J σ → ∃ σ', b (σ.set i (some (g a))) hs = .ok (.nx, σ') hs ∧ J σ') → ∀ σ, J σ → ∃ σ', forGo ok (gName i) b (as.map g) σ hs = .ok (.nx, σ') hs ∧ J σ'
  | [], _, σ, j => ⟨σ, rfl, j⟩
  | a :: as, h, σ, j => by
    obtain ⟨σ1, e1, j1⟩ := h a List.mem_cons_self σ j
    obtain ⟨σ2, e2, j2⟩ := for_skip hok as (fun d hd => h d (List.mem_cons_of_mem _ hd)) σ1 j1
    refine ⟨σ2, ?_, j2⟩
    rw [List.map_cons, forGo]
    simp only [g_Name, Res.bind_ok, e1]
    rw [chk_pos hok, e2]
theorem tup_last {xs : List D} {d : D} {hs : Hs} : dIx (.tup (xs ++ [d])) (.int (-1)) hs = .ok d hs := by
  have e : atI (xs ++ [d]) (-1 : Int) = some d := by
    show (L2.ixN (xs ++ [d]).length (-1 : Int)).bind (fun j => (xs ++ [d])[j]?) = _
    unfold L2.ixN
    rw [if_neg (by omega), if_pos (by simp; omega), List.length_append, List.length_singleton]
    simp only [Option.bind_some]
    rw [show ((-1 : Int) + ((xs.length + 1 : Nat) : Int)).toNat = xs.length by omega, List.getElem?_append_right (Nat.le_refl _), Nat.sub_self]
    rfl
  show (match atI (xs ++ [d]) (-1 : Int) with | some d => Res.ok d hs | none => .bad) = _
  rw [e]
theorem max0 {k : Nat} {hs : Hs} : bMax [.int 0, .int ((k : Int) - 1)] hs = .ok (.int ((k - 1 : Nat) : Int)) hs := by
  show Res.ok (D.int (if (k : Int) - 1 > 0 then (k : Int) - 1 else 0)) hs = _
  congr 2
  split <;> omega
theorem all_t {α : Type} {as : List α} {hs : Hs} : bAll [.lst (as.map fun _ => D.bl true)] hs = .ok (.bl true) hs := by
  show (match asL hs (.lst (as.map fun _ => D.bl true)) with | some xs => (match blsOf xs with | some bs => Res.ok (D.bl (bs.all id)) hs | none => .bad) | none => .bad) = _
  simp only [asL, bls_true]
  congr 2
  simp
/-- the chain of u, from the innermost -/
structure Arn (T : Tr) (u : Str) (c : List (Nat × Tr)) : Prop where
  ar : arnd T u = c.map fun s => tname s.2
  mem : ∀ s ∈ c, s ∈ subs 1 T
  le : c.length ≤ 24
  lv : ∀ (i : Nat) (h : i < c.length), (c[i]).1 = c.length - i
  nest : ∀ (i j : Nat) (hi : i < c.length) (hj : j < c.length), i ≤ j → ∀ x ∈ users (c[i]).2, x ∈ users (c[j]).2
  leaf : ∃ l, (1 + c.length, Tr.usr u l) ∈ subs 1 T
  last : ∃ xs, c.map (fun s => tname s.2) = xs ++ [tname T]
  iff : ∀ s ∈ subs 1 T, isG s.2 = true → (u ∈ users s.2 ↔ tname s.2 ∈ c.map fun s => tname s.2)
theorem arn {T : Tr} (W : Wf T) {u : Str} (hu : u ∈ users T) : ∃ c, Arn T u c := by
  have ch := chain T 1 (List.nodup_append.mp W.nod).1 hu
  obtain ⟨c, hc⟩ : ∃ c, c = (subs 1 T).filter (inn u) := ⟨_, rfl⟩
  rw [← hc] at ch
  obtain ⟨lv, nest, sub, leaf, top⟩ := ch
  have cm : ∀ s ∈ c, s ∈ subs 1 T := fun s hs => by rw [hc] at hs; exact (List.mem_filter.mp hs).1
  refine ⟨c.reverse, by rw [arnd, hc], fun s hs => cm s (List.mem_reverse.mp hs), ?_, ?_, ?_, by rw [List.length_reverse]; exact leaf, ?_, ?_⟩
  · rw [List.length_reverse, hc]
    exact Nat.le_trans (List.length_filter_le _ _) W.nodes
  · intro i h
    rw [List.length_reverse] at h ⊢
    rw [List.getElem_reverse]
    have h2 : c.length - 1 - i < c.length := by omega
    have e : (c.map Prod.fst)[c.length - 1 - i]? = some (c[c.length - 1 - i]).1 := by rw [List.getElem?_map, List.getElem?_eq_getElem h2]; rfl
    rw [lv, List.getElem?_range' h2] at e
    have := Option.some.inj e
    omega
  · intro i j hi hj le x hx
    rw [List.length_reverse] at hi hj
    rw [List.getElem_reverse] at hx ⊢
    by_cases ij : i = j
    · subst ij; exact hx
    · exact List.pairwise_iff_getElem.mp nest (c.length - 1 - j) (c.length - 1 - i) (by omega) (by omega) (by omega) x hx
  · obtain ⟨x0, c0, ps0, hT⟩ := W.gr
    obtain ⟨r, hr⟩ := top (by rw [hT]; rfl)
    exact ⟨r.reverse.map fun s => tname s.2, by rw [hr]; simp⟩
  · intro s hs hg
    have nd : ((subs 1 T).map fun s => tname s.2).Nodup := by
      rw [nm_subs]; exact (nm_perm T).nodup_iff.mpr W.nod
    constructor
    · intro h
      refine List.mem_map.mpr ⟨s, List.mem_reverse.mpr ?_, rfl⟩
      rw [hc]
      refine List.mem_filter.mpr ⟨hs, ?_⟩
      unfold inn
      rw [hg, decide_eq_true h]; rfl
    · intro h
      obtain ⟨r, hr, e⟩ := List.mem_map.mp h
      have hr := List.mem_reverse.mp hr
      have : r = s := by
        have uniq : ∀ L : List (Nat × Tr), (L.map fun s => tname s.2).Nodup → ∀ a ∈ L, ∀ b ∈ L, tname a.2 = tname b.2 → a = b := by
          intro L
          induction L with
          | nil => intro _ a ha; exact nomatch ha
          | cons z L ih =>
            intro nd a ha b hb e
            rw [List.map_cons] at nd
            obtain ⟨n1, n2⟩ := List.nodup_cons.mp nd
            rcases List.mem_cons.mp ha with ha1 | ha1
            · rcases List.mem_cons.mp hb with hb1 | hb1
              · rw [ha1, hb1]
              · exact absurd (List.mem_map.mpr ⟨b, hb1, by rw [← e, ha1]⟩) n1
            · rcases List.mem_cons.mp hb with hb1 | hb1
              · exact absurd (List.mem_map.mpr ⟨a, ha1, by rw [e, hb1]⟩) n1
              · exact ih n2 a ha1 b hb1 e
        exact uniq _ nd r (cm r hr) s hs e
      subst this
      rw [hc] at hr
      have := (List.mem_filter.mp hr).2
      unfold inn at this
      rw [Bool.and_eq_true, decide_eq_true_eq] at this
      exact this.2
end Qo
-- M23
set_option maxRecDepth 100000
set_option maxHeartbeats 1000000
namespace Qo
open PySem
noncomputable abbrev urL1 (ad : Ad) : SS := (sCons (sIf (tAnd (tOf (eBlt (bIsi ad.it) (aCons (eVar 4) (aCons (eC (.fn ad.Group)) aNil)))) (tOf (eOp (dEq true) (eOp (dIn false) (eVar 1) (eAtt "members" (aT ad.User (.prop (f_Node_members ad)) (aT ad.Group (.prop (f_Group_members ad 10)) aN)) (eVar 4))) (eOp (dIn false) (eAtt "name" (aT ad.User .fld (aT ad.Group .fld aN)) (eVar 4)) (eVar 3))))) (sCons (sRet (eC (.bl false))) sNil) sNil) sNil)
noncomputable abbrev urL2 (ad : Ad) : SS := (sCons (sIf (tOf (eOp (dEq true) (eAtt "depth" (aT ad.User (.prop (f_Node_depth ad)) (aT ad.Group (.prop (f_Node_depth ad)) aN)) (eMeth "node_of" (mT ad.Tree (f_Tree_node_of ad) mN) (eVar 0) (aCons (eOp dIx (eVar 3) (eVar 5)) aNil))) (eOp dSub (eBlt bLen (aCons (eVar 3) aNil)) (eVar 5)))) (sCons (sRet (eC (.bl false))) sNil) sNil) (sCons (sAsg (eMeth "node_of" (mT ad.Tree (f_Tree_node_of ad) mN) (eVar 0) (aCons (eOp dIx (eVar 3) (eVar 5)) aNil)) (gName 6)) (sCons (sAsg (eMeth "node_of" (mT ad.Tree (f_Tree_node_of ad) mN) (eVar 0) (aCons (eOp dIx (eVar 3) (eBlt bMax (aCons (eC (.int 0)) (aCons (eOp dSub (eVar 5) (eC (.int 1))) aNil)))) aNil)) (gName 7)) (sCons (sIf (tNot (tOf (eBlt bAll (aCons (eLC false [8] (iSeq (eAtt "members" (aT ad.User (.prop (f_Node_members ad)) (aT ad.Group (.prop (f_Group_members ad 10)) aN)) (eVar 7))) (lc1 (gName 8) tYes (eOp (dIn false) (eVar 8) (eAtt "members" (aT ad.User (.prop (f_Node_members ad)) (aT ad.Group (.prop (f_Group_members ad 10)) aN)) (eVar 6))))) aNil)))) (sCons (sRet (eC (.bl false))) sNil) sNil) sNil))))
section
variable {ad : Ad} (I : IsF ad) {hs : Hs} (C : Clo hs) {T : Tr} (W : Wf T)
include I C W
theorem x_node {s : Nat × Tr} (h : s ∈ subs 1 T) {o : SE} {a : SA} {σ : St} (eo : o σ hs = .ok (treeD ad T) hs) (ea : a σ hs = .ok [.str (tname s.2)] hs) : eMeth "node_of" (mT ad.Tree (f_Tree_node_of ad) mN) o a σ hs = .ok (oD ad s) hs := by
  rw [x_meth eo n3 ea]
  exact s_node_of I C W h
theorem dep_sub {s : Nat × Tr} : dAtt "depth" (aT ad.User (.prop (f_Node_depth ad)) (aT ad.Group (.prop (f_Node_depth ad)) aN)) (oD ad s) hs = .ok (.int s.1) hs := att_depth I C (t := s.2) (k := s.1)
/-- the loop over the nodes -/
theorem ur1 {u : Str} {c : List (Nat × Tr)} (A : Arn T u c) (nu : PyData.strOk u = true) {v2 : Option D} {s : Nat × Tr} (h : s ∈ subs 1 T) {v5 v6 v7 v8 : Option D} : urL1 ad [some (treeD ad T), some (.str u), v2, some (.tup (sD (c.map fun s => tname s.2))), some (oD ad s), v5, v6, v7, v8] hs = .ok (.nx, [some (treeD ad T), some (.str u), v2, some (.tup (sD (c.map fun s => tname s.2))), some (oD ad s), v5, v6, v7, v8]) hs := by
  have i : bIsi ad.it [oD ad s, .fn ad.Group] hs = .ok (.bl (isG s.2)) hs := isi_obj I (t := s.2) (k := s.1) (hs := hs)
  have n : dAtt "name" (aT ad.User .fld (aT ad.Group .fld aN)) (oD ad s) hs = .ok (.str (tname s.2)) hs := att_name I (t := s.2) (k := s.1) (hs := hs)
  have m := mem_sub I C W h
  have q := in_sub I C W h nu
  have q2 := in_strs (n := false) (hs := hs) (xs := c.map fun s => tname s.2) (strOk_of (W.nameOk h)) (SOk.of fun x hx => by
    obtain ⟨r, hr, rfl⟩ := List.mem_map.mp hx
    exact W.nameOk (A.mem r hr))
  unfold urL1
  cases hg : isG s.2 with
  | false =>
    rw [hg] at i
    simp only [u_Cons, u_If, t_And, t_Of, x_Blt, x_Cons, x_Var, x_C, x_Nil, List.getElem?_cons_zero, List.getElem?_cons_succ, Res.bind_ok, i, t_bl, Bool.false_eq_true, if_false, u_Nil]
  | true =>
    have e : decide (u ∈ users s.2) = decide (tname s.2 ∈ c.map fun s => tname s.2) := decide_eq_decide.mpr (A.iff s h hg)
    rw [hg] at i
    rw [e] at q
    generalize decide (tname s.2 ∈ c.map fun s => tname s.2) = z at q q2
    simp only [u_Cons, u_If, t_And, t_Of, x_Op, eAtt, x_Blt, x_Cons, x_Var, x_C, x_Nil, List.getElem?_cons_zero, List.getElem?_cons_succ, Res.bind_ok, i, t_bl, if_true, m, q, n, q2, eq_bool, decide_true, bne, Bool.false_beq, Bool.not_not, Bool.true_beq, Bool.not_true, Bool.false_eq_true, if_false, u_Nil]
/-- the loop over the places -/
theorem ur2 {u : Str} {c : List (Nat × Tr)} (A : Arn T u c) {v1 v2 v4 v6 v7 v8 : Option D} {k : Nat} (hk : k < c.length) : ∃ v6' v7', urL2 ad [some (treeD ad T), v1, v2, some (.tup (sD (c.map fun s => tname s.2))), v4, some (.int (k : Nat)), v6, v7, v8] hs = .ok (.nx, [some (treeD ad T), v1, v2, some (.tup (sD (c.map fun s => tname s.2))), v4, some (.int (k : Nat)), v6', v7', v8]) hs := by
  have hj : k - 1 < c.length := by omega
  have ix : ∀ (i : Nat) (h : i < c.length), dIx (.tup (sD (c.map fun s => tname s.2))) (.int (i : Nat)) hs = .ok (.str (tname (c[i]).2)) hs := fun i h => tupIx (by simp [List.getElem?_map, List.getElem?_eq_getElem h])
  have n1 := s_node_of I C W (A.mem _ (List.getElem_mem hk))
  have n2' := s_node_of I C W (A.mem _ (List.getElem_mem hj))
  have d1 := dep_sub I C W (ad := ad) (hs := hs) (s := c[k])
  have m1 := mem_sub I C W (A.mem _ (List.getElem_mem hk))
  have m2 := mem_sub I C W (A.mem _ (List.getElem_mem hj))
  have lc : eLC false [8] (iSeq (eAtt "members" (aT ad.User (.prop (f_Node_members ad)) (aT ad.Group (.prop (f_Group_members ad 10)) aN)) (eVar 7))) (lc1 (gName 8) tYes (eOp (dIn false) (eVar 8) (eAtt "members" (aT ad.User (.prop (f_Node_members ad)) (aT ad.Group (.prop (f_Group_members ad 10)) aN)) (eVar 6)))) [some (treeD ad T), v1, v2, some (.tup (sD (c.map fun s => tname s.2))), v4, some (.int (k : Nat)), some (oD ad c[k]), some (oD ad c[k - 1]), v8] hs = .ok (.lst ((sortS (users (c[k - 1]).2)).map fun _ => .bl true)) hs := by
    refine x_LCy (g := D.str) (ok := fun _ => True) (seq_tup (by simp only [eAtt, x_Var, List.getElem?_cons_zero, List.getElem?_cons_succ, Res.bind_ok, m2])) trivial (by
      rw [sortS_len]
      have := (subs_und T 1 _ (A.mem _ (List.getElem_mem hj))).us.length_le
      have := W.nu
      omega) fun x hx => ?_
    have hx' := sortS_mem.mp hx
    have q := in_sub I C W (u := x) (A.mem _ (List.getElem_mem hk)) (sok_sub I C W (A.mem _ (List.getElem_mem hj)) x hx)
    rw [decide_eq_true (A.nest (k - 1) k hj hk (by omega) x hx')] at q
    simp only [wipe, eAtt, x_Op, x_Var, List.set_cons_zero, List.set_cons_succ, List.getElem?_cons_zero, List.getElem?_cons_succ, Res.bind_ok, m1, q]
  have al := all_t (as := sortS (users (c[k - 1]).2)) (hs := hs)
  have lv := A.lv k hk
  have eD : ((c[k]).1 : Int) = ((sD (c.map fun s => tname s.2)).length : Nat) - (k : Int) := by simp; omega
  refine ⟨some (oD ad c[k]), some (oD ad c[k - 1]), ?_⟩
  unfold urL2
  have xm : ∀ {a : SA} {σ : St} {ds : List D}, σ[0]? = some (some (treeD ad T)) → a σ hs = .ok ds hs → eMeth "node_of" (mT ad.Tree (f_Tree_node_of ad) mN) (eVar 0) a σ hs = f_Tree_node_of ad (treeD ad T :: ds) hs := fun h0 ha => x_meth (by rw [x_Var, h0]) n3 ha
  have a1 : ∀ v6 v7, eMeth "node_of" (mT ad.Tree (f_Tree_node_of ad) mN) (eVar 0) (aCons (eOp dIx (eVar 3) (eVar 5)) aNil) [some (treeD ad T), v1, v2, some (.tup (sD (c.map fun s => tname s.2))), v4, some (.int (k : Nat)), v6, v7, v8] hs = .ok (oD ad c[k]) hs := fun v6 v7 => by
    rw [xm rfl (ds := [.str (tname (c[k]).2)]) (by simp only [x_Cons, x_Op, x_Var, x_Nil, List.getElem?_cons_zero, List.getElem?_cons_succ, Res.bind_ok, ix k hk]), n1]
  have a2 : ∀ v6 v7, eMeth "node_of" (mT ad.Tree (f_Tree_node_of ad) mN) (eVar 0) (aCons (eOp dIx (eVar 3) (eBlt bMax (aCons (eC (.int 0)) (aCons (eOp dSub (eVar 5) (eC (.int 1))) aNil)))) aNil) [some (treeD ad T), v1, v2, some (.tup (sD (c.map fun s => tname s.2))), v4, some (.int (k : Nat)), v6, v7, v8] hs = .ok (oD ad c[k - 1]) hs := fun v6 v7 => by
    rw [xm rfl (ds := [.str (tname (c[k - 1]).2)]) (by simp only [x_Cons, x_Op, x_Blt, x_C, x_Var, x_Nil, List.getElem?_cons_zero, List.getElem?_cons_succ, Res.bind_ok, sub_int, max0, ix (k - 1) hj]), n2']
  simp only [u_Cons, u_If, u_Asg, g_Name, t_Of, t_Not, x_Op, eAtt, x_Blt, x_Cons, x_Var, x_C, x_Nil, List.set_cons_zero, List.set_cons_succ, List.getElem?_cons_zero, List.getElem?_cons_succ, Res.bind_ok, a1, a2, d1, len_tup, sub_int, eq_int, eD, decide_true, bne, Bool.true_beq, Bool.not_true, Bool.not_not, beq_self_eq_true, Bool.false_eq_true, if_false, t_bl, u_Nil, lc, al]
end
end Qo
-- M24
set_option maxRecDepth 100000
set_option maxHeartbeats 1000000
namespace Qo
open PySem
theorem sc {p q : SS} {σ σ1 : St} {hs h1 : Hs} (e : p σ hs = .ok (.nx, σ1) h1) : sCons p q σ hs = q σ1 h1 := by
  rw [u_Cons, e]
  rfl
section
variable {ad : Ad} (I : IsF ad) {hs : Hs} (C : Clo hs) {T : Tr} (W : Wf T)
include I C W
theorem s_user_right {u : Str} (hu : u ∈ users T) : f__law_user_right ad [treeD ad T, .str u, .lst ((subs 1 T).map (oD ad))] hs = .ok (.bl true) hs := by
  obtain ⟨c, A⟩ := arn W hu
  have nu : PyData.strOk u = true := strOk_of (nm_ok T W.ok u ((nm_perm T).mem_iff.mpr (List.mem_append_left _ hu)))
  have ar := s_around I C W hu
  rw [A.ar] at ar
  obtain ⟨lf, leaf⟩ := A.leaf
  have nd := s_node_of I C W leaf
  have ml := mem_sub I C W leaf
  have dl := dep_sub I C W (ad := ad) (hs := hs) (s := (1 + c.length, Tr.usr u lf))
  have su : sD (sortS (users (Tr.usr u lf))) = [.str u] := by rw [users, sort_one]; rfl
  simp only [su, tname] at ml nd dl
  have sk1 : SOk [u] := fun x hx => by rw [List.mem_singleton] at hx; subst hx; exact nu
  have eu := eq_strs (n := true) (xs := [u]) (ys := [u]) (hs := hs) sk1 sk1
  simp only [sD, List.map_cons, List.map_nil, decide_true, bne, beq_self_eq_true, Bool.not_true] at eu
  obtain ⟨xs, hl⟩ := A.last
  have lst : dIx (.tup (sD (c.map fun s => tname s.2))) (.int (-1)) hs = .ok (.str (tname T)) hs := by
    rw [hl, sD, List.map_append]
    exact tup_last
  have nT := strOk_of (nm_ok T W.ok (tname T) (by rw [nm_eq]; exact List.mem_cons_self))
  have eT := eq_str (n := true) (hs := hs) nT nT
  simp only [decide_true, bne, beq_self_eq_true, Bool.not_true] at eT
  have rt := s_root I C W
  have aT' := att_name I (t := T) (k := 1) (hs := hs)
  have wu : ∀ v3 v4 v5 v6 v7 v8 : Option D, eMeth "node_of" (mT ad.Tree (f_Tree_node_of ad) mN) (eVar 0) (aCons (eVar 1) aNil) [some (treeD ad T), some (.str u), some (.lst ((subs 1 T).map (oD ad))), v3, v4, v5, v6, v7, v8] hs = .ok (oD ad (1 + c.length, Tr.usr u lf)) hs := fun v3 v4 v5 v6 v7 v8 => by
    rw [x_meth (ds := [.str u]) rfl n3 rfl, nd]
  have wa : eMeth "around" (mT ad.Tree (f_Tree_around ad) mN) (eVar 0) (aCons (eVar 1) aNil) [some (treeD ad T), some (.str u), some (.lst ((subs 1 T).map (oD ad))), none, none, none, none, none, none] hs = .ok (.tup (sD (c.map fun s => tname s.2))) hs := by
    rw [x_meth (ds := [.str u]) rfl n2 rfl, ar]
  obtain ⟨σ1, e1, ⟨w4, hσ1⟩⟩ := for_skip (g := oD ad) (ok := fun h' => asL h' (.lst ((subs 1 T).map (oD ad))) = some ((subs 1 T).map (oD ad))) (i := 4) (b := urL1 ad) (hs := hs) (J := fun σ => ∃ v4, σ = [some (treeD ad T), some (.str u), some (.lst ((subs 1 T).map (oD ad))), some (.tup (sD (c.map fun s => tname s.2))), v4, none, none, none, none]) rfl (subs 1 T) (by
    rintro s hs' _ ⟨v4, rfl⟩
    exact ⟨_, ur1 I C W A nu hs', some (oD ad s), rfl⟩) [some (treeD ad T), some (.str u), some (.lst ((subs 1 T).map (oD ad))), some (.tup (sD (c.map fun s => tname s.2))), none, none, none, none, none] ⟨none, rfl⟩
  subst hσ1
  obtain ⟨σ2, e2, -⟩ := for_skip (g := fun k : Nat => D.int (0 + (k : Int))) (ok := fun _ => True) (i := 5) (b := urL2 ad) (hs := hs) (J := fun σ => ∃ v5 v6 v7, σ = [some (treeD ad T), some (.str u), some (.lst ((subs 1 T).map (oD ad))), some (.tup (sD (c.map fun s => tname s.2))), w4, v5, v6, v7, none]) trivial (List.range c.length) (by
    rintro k hk _ ⟨v5, v6, v7, rfl⟩
    obtain ⟨a, b, e⟩ := ur2 I C W A (v1 := some (.str u)) (v2 := some (.lst ((subs 1 T).map (oD ad)))) (v4 := w4) (v6 := v6) (v7 := v7) (v8 := none) (List.mem_range.mp hk)
    rw [show D.int (0 + (k : Int)) = D.int (k : Int) by rw [Int.zero_add]]
    exact ⟨_, e, _, _, _, rfl⟩) _ ⟨none, none, none, rfl⟩
  refine fn_rt (σ' := σ2) (h1 := hs) rfl ?_ (fin_bl C)
  have ln : (sD (c.map fun s => tname s.2)).length = c.length := by simp
  have rg : ∀ σ : St, σ[3]? = some (some (.tup (sD (c.map fun s => tname s.2)))) → iRng1 (aCons (eBlt bLen (aCons (eVar 3) aNil)) aNil) σ hs = .ok (rangeD 0 c.length, fun _ => True) hs := fun σ h3 => rng1 (by simp only [x_Blt, x_Cons, x_Var, h3, x_Nil, Res.bind_ok, len_tup, ln]) (by have := A.le; omega)
  have f1 : sFor (iSeq (eVar 2)) (gName 4) (urL1 ad) [some (treeD ad T), some (.str u), some (.lst ((subs 1 T).map (oD ad))), some (.tup (sD (c.map fun s => tname s.2))), none, none, none, none, none] hs = .ok (.nx, [some (treeD ad T), some (.str u), some (.lst ((subs 1 T).map (oD ad))), some (.tup (sD (c.map fun s => tname s.2))), w4, none, none, none, none]) hs := e1
  have f2 : sFor (iRng1 (aCons (eBlt bLen (aCons (eVar 3) aNil)) aNil)) (gName 5) (urL2 ad) [some (treeD ad T), some (.str u), some (.lst ((subs 1 T).map (oD ad))), some (.tup (sD (c.map fun s => tname s.2))), w4, none, none, none, none] hs = .ok (.nx, σ2) hs := by
    unfold sFor
    rw [rg _ rfl]
    exact e2
  have ec : ((1 + c.length : Nat) : Int) = (c.length : Int) + 1 := by omega
  have t1 : tOf (eOp (dEq true) (eAtt "members" (aT ad.User (.prop (f_Node_members ad)) (aT ad.Group (.prop (f_Group_members ad 10)) aN)) (eMeth "node_of" (mT ad.Tree (f_Tree_node_of ad) mN) (eVar 0) (aCons (eVar 1) aNil))) (eTup (aCons (eVar 1) aNil))) [some (treeD ad T), some (.str u), some (.lst ((subs 1 T).map (oD ad))), some (.tup (sD (c.map fun s => tname s.2))), none, none, none, none, none] hs = .ok false hs := by
    rw [t_Of, x_Op, eAtt, wu, Res.bind_ok, ml, Res.bind_ok, x_Tup, x_Cons]
    show ((mkT [.str u] hs).bind fun y h => dEq true (.tup [.str u]) y h).bind (fun d h => truR d h) = _
    rw [mkT_s (by simp), Res.bind_ok, eu, Res.bind_ok, t_bl]
  have t2 : tOf (eOp (dEq true) (eAtt "depth" (aT ad.User (.prop (f_Node_depth ad)) (aT ad.Group (.prop (f_Node_depth ad)) aN)) (eMeth "node_of" (mT ad.Tree (f_Tree_node_of ad) mN) (eVar 0) (aCons (eVar 1) aNil))) (eOp (dAdd false) (eBlt bLen (aCons (eVar 3) aNil)) (eC (.int 1)))) [some (treeD ad T), some (.str u), some (.lst ((subs 1 T).map (oD ad))), some (.tup (sD (c.map fun s => tname s.2))), none, none, none, none, none] hs = .ok false hs := by
    rw [t_Of, x_Op, eAtt, wu, Res.bind_ok, dl, Res.bind_ok]
    have : eOp (dAdd false) (eBlt bLen (aCons (eVar 3) aNil)) (eC (.int 1)) [some (treeD ad T), some (.str u), some (.lst ((subs 1 T).map (oD ad))), some (.tup (sD (c.map fun s => tname s.2))), none, none, none, none, none] hs = .ok (.int ((c.length : Int) + 1)) hs := by
      show (bLen [.tup (sD (c.map fun s => tname s.2))] hs).bind (fun x h => (eC (.int 1) [some (treeD ad T), some (.str u), some (.lst ((subs 1 T).map (oD ad))), some (.tup (sD (c.map fun s => tname s.2))), none, none, none, none, none] h).bind fun y h => dAdd false x y h) = _
      rw [len_tup, ln]
      rfl
    rw [this, Res.bind_ok, eq_int, Res.bind_ok, t_bl]
    have : decide (((1 + c.length : Nat) : Int) = (c.length : Int) + 1) = true := decide_eq_true ec
    rw [this]
    rfl
  have t3 : tOf (eOp (dEq true) (eOp dIx (eVar 3) (eC (.int (-1)))) (eAtt "name" (aT ad.User .fld (aT ad.Group .fld aN)) (eAtt "root" (aT ad.Tree (.prop (f_Tree_root ad)) aN) (eVar 0)))) [some (treeD ad T), some (.str u), some (.lst ((subs 1 T).map (oD ad))), some (.tup (sD (c.map fun s => tname s.2))), none, none, none, none, none] hs = .ok false hs := by
    have z1 : eOp dIx (eVar 3) (eC (.int (-1))) [some (treeD ad T), some (.str u), some (.lst ((subs 1 T).map (oD ad))), some (.tup (sD (c.map fun s => tname s.2))), none, none, none, none, none] hs = .ok (.str (tname T)) hs := lst
    have z2 : eAtt "name" (aT ad.User .fld (aT ad.Group .fld aN)) (eAtt "root" (aT ad.Tree (.prop (f_Tree_root ad)) aN) (eVar 0)) [some (treeD ad T), some (.str u), some (.lst ((subs 1 T).map (oD ad))), some (.tup (sD (c.map fun s => tname s.2))), none, none, none, none, none] hs = .ok (.str (tname T)) hs := by
      have z3 : eAtt "root" (aT ad.Tree (.prop (f_Tree_root ad)) aN) (eVar 0) [some (treeD ad T), some (.str u), some (.lst ((subs 1 T).map (oD ad))), some (.tup (sD (c.map fun s => tname s.2))), none, none, none, none, none] hs = .ok (objD ad 1 T) hs := by
        show dAtt "root" (aT ad.Tree (.prop (f_Tree_root ad)) aN) (treeD ad T) hs = _
        rw [att_tp, rt]
      rw [eAtt, z3, Res.bind_ok, aT']
    rw [t_Of, x_Op, z1, Res.bind_ok, z2, Res.bind_ok, eT, Res.bind_ok, t_bl]
  have st : startS 9 [treeD ad T, .str u, .lst ((subs 1 T).map (oD ad))] = [some (treeD ad T), some (.str u), some (.lst ((subs 1 T).map (oD ad))), none, none, none, none, none, none] := rfl
  unfold b__law_user_right
  rw [st, u_Cons, u_Asg, wa]
  simp only [Res.bind_ok, g_Name, List.set_cons_zero, List.set_cons_succ]
  rw [u_Cons, u_If, t_Or, t1]
  simp only [Res.bind_ok, Bool.false_eq_true, if_false, t2, u_Nil]
  rw [u_Cons, u_If, t3]
  simp only [Res.bind_ok, Bool.false_eq_true, if_false, u_Nil]
  exact (sc f1).trans ((sc f2).trans rfl)
end
end Qo
-- M25
set_option maxRecDepth 100000
set_option maxHeartbeats 1000000
namespace Qo
open PySem
noncomputable abbrev grL (ad : Ad) : SS := (sCons (sAsg (eOp (dAdd false) (eVar 1) (eBlt (bList false) (aCons (eAtt "members" (aT ad.User (.prop (f_Node_members ad)) (aT ad.Group (.prop (f_Group_members ad 10)) aN)) (eVar 2)) aNil))) (gName 1)) (sCons (sIf (tOf (eOp (dEq true) (eAtt "depth" (aT ad.User (.prop (f_Node_depth ad)) (aT ad.Group (.prop (f_Node_depth ad)) aN)) (eVar 2)) (eOp (dAdd false) (eAtt "depth" (aT ad.User (.prop (f_Node_depth ad)) (aT ad.Group (.prop (f_Node_depth ad)) aN)) (eVar 0)) (eC (.int 1))))) (sCons (sRet (eC (.bl false))) sNil) sNil) sNil))
section
variable {ad : Ad} (I : IsF ad) {hs : Hs} (C : Clo hs)
include I C
theorem grStep {k : Nat} {o t : Tr} {acc : List Str} (ot : okT t) (ht : hi t ≤ 10) (ut : (users t).length ≤ 12) (la : acc.length + (users t).length ≤ 1000) : grL ad [some (objD ad k o), some (.lst (sD acc)), some (objD ad (k + 1) t)] hs = .ok (.nx, [some (objD ad k o), some (.lst (sD (acc ++ sortS (users t)))), some (objD ad (k + 1) t)]) hs := by
  have m := att_members I C 10 t (k + 1) ot ht ut
  have d1 := att_depth I C (t := t) (k := k + 1)
  have d0 := att_depth I C (t := o) (k := k)
  have bl : bList false [.tup (sD (sortS (users t)))] hs = .ok (.lst (sD (sortS (users t)))) hs := mkL_s (by rw [List.length_map, sortS_len]; omega)
  have ad1 : dAdd false (.lst (sD acc)) (.lst (sD (sortS (users t)))) hs = .ok (.lst (sD (acc ++ sortS (users t)))) hs := by
    rw [add_s (by rw [List.length_map, List.length_map, sortS_len]; exact la), sD, sD, sD, List.map_append]
  have ec : ((k + 1 : Nat) : Int) = (k : Int) + 1 := by omega
  unfold grL
  simp only [u_Cons, u_Asg, u_If, g_Name, t_Of, x_Op, eAtt, x_Blt, x_Cons, x_Var, x_C, x_Nil, List.set_cons_zero, List.set_cons_succ, List.getElem?_cons_zero, List.getElem?_cons_succ, Res.bind_ok, m, bl, ad1, d1, d0, add_int, eq_int, ec, decide_true, bne, beq_self_eq_true, Bool.not_true, t_bl, Bool.false_eq_true, if_false, u_Nil]
theorem grLoop {k : Nat} {o : Tr} : ∀ (as : List Tr), (∀ t ∈ as, okT t ∧ hi t ≤ 10 ∧ (users t).length ≤ 12) → ∀ (acc : List Str) (v : Option D), acc.length + (as.flatMap fun t => sortS (users t)).length ≤ 1000 →
    ∃ w, forGo (fun _ => True) (gName 2) (grL ad) (as.map (objD ad (k + 1))) [some (objD ad k o), some (.lst (sD acc)), v] hs = .ok (.nx, [some (objD ad k o), some (.lst (sD (acc ++ as.flatMap fun t => sortS (users t)))), w]) hs
  | [], _, acc, v, _ => ⟨v, by rw [List.flatMap_nil, List.append_nil]; rfl⟩
  | t :: as, h, acc, v, z => by
    obtain ⟨o1, o2, o3⟩ := h t List.mem_cons_self
    rw [List.flatMap_cons, List.length_append, sortS_len] at z
    obtain ⟨w, e⟩ := grLoop as (fun a ha => h a (List.mem_cons_of_mem _ ha)) (acc ++ sortS (users t)) (some (objD ad (k + 1) t)) (by rw [List.length_append, sortS_len]; omega)
    refine ⟨w, ?_⟩
    have s1 := grStep I C (k := k) (o := o) (acc := acc) o1 o2 o3 (by omega)
    rw [List.map_cons, forGo]
    simp only [g_Name, Res.bind_ok, List.set_cons_zero, List.set_cons_succ]
    rw [s1]
    simp only [Res.bind_ok]
    rw [chk_pos trivial, e, List.flatMap_cons, List.append_assoc]
theorem s_group_right {T : Tr} (W : Wf T) {s : Nat × Tr} (hs' : s ∈ subs 1 T) (hg : isG s.2 = true) : f__law_group_right ad [oD ad s] hs = .ok (.bl true) hs := by
  have un := subs_und T 1 s hs'
  have ok := un.ok W.ok
  have hh := un.hi
  have hu := un.us.length_le
  have h6 := W.hi
  have h12 := W.nu
  have mm := mem_sub I C W hs'
  have sk := sok_sub I C W hs'
  obtain ⟨k, o⟩ := s
  cases o with
  | usr x l => exact absurd hg Bool.false_ne_true
  | grp x l ps =>
    rw [okT] at ok
    simp only [oD] at mm ⊢
    simp only at hh hu sk
    rw [Qo.hi] at hh
    simp only [users] at mm hu sk
    have pm := sort_flat ps
    have pl := pm.length_eq
    have pt : ∀ t ∈ ps, okT t ∧ hi t ≤ 10 ∧ (users t).length ≤ 12 := fun t ht => by
      have a := hiL_le ht
      have b := (usersL_sub ht).length_le
      exact ⟨(okTs_iff ps).mp ok.2.2.2.2 t ht, by omega, by omega⟩
    obtain ⟨w, e⟩ := grLoop I C (k := k) (o := .grp x l ps) ps pt [] none (by rw [List.length_nil, pl]; omega)
    rw [List.nil_append] at e
    have f1 : sFor (iSeq (eAtt "parts" (aT ad.Group .fld aN) (eVar 0))) (gName 2) (grL ad) [some (objD ad k (.grp x l ps)), some (.lst []), none] hs = .ok (.nx, [some (objD ad k (.grp x l ps)), some (.lst (sD (ps.flatMap fun t => sortS (users t)))), w]) hs := by
      have hm : iSeq (eAtt "parts" (aT ad.Group .fld aN) (eVar 0)) [some (objD ad k (.grp x l ps)), some (.lst []), none] hs = .ok (objDs ad (k + 1) ps, fun _ => True) hs := seq_tup (by simp [eAtt, att_parts I])
      unfold sFor
      rw [hm, Res.bind_ok, objDs_map]
      exact e
    have so := b_sorted (xs := ps.flatMap fun t => sortS (users t)) (hs := hs) (by omega)
    rw [sortS_eq pm] at so
    have tl := tuple_lst (xs := sD (sortS (usersL ps))) (hs := hs) (by rw [List.length_map, sortS_len]; omega)
    have eq1 := eq_strs (n := false) (hs := hs) sk sk
    have n1 : (sD (ps.flatMap fun t => sortS (users t))).length = (sD (sortS (usersL ps))).length := by rw [List.length_map, List.length_map, sortS_len, pl]
    have last : ∀ w, sCons (sRet (eAnd (eOp (dEq false) (eBlt bTuple (aCons (eBlt (bSorted false) (aCons (eVar 1) aNil)) aNil)) (eAtt "members" (aT ad.User (.prop (f_Node_members ad)) (aT ad.Group (.prop (f_Group_members ad 10)) aN)) (eVar 0))) (eOp (dEq false) (eBlt bLen (aCons (eVar 1) aNil)) (eBlt bLen (aCons (eAtt "members" (aT ad.User (.prop (f_Node_members ad)) (aT ad.Group (.prop (f_Group_members ad 10)) aN)) (eVar 0)) aNil))))) sNil [some (objD ad k (.grp x l ps)), some (.lst (sD (ps.flatMap fun t => sortS (users t)))), w] hs = .ok (.rt (.bl true), [some (objD ad k (.grp x l ps)), some (.lst (sD (ps.flatMap fun t => sortS (users t)))), w]) hs := fun w => by
      simp only [u_Cons, u_Ret, x_And, x_Op, eAtt, x_Blt, x_Cons, x_Var, x_C, x_Nil, List.getElem?_cons_zero, List.getElem?_cons_succ, Res.bind_ok, so, tl, mm, eq1, decide_true, bne, beq_self_eq_true, Bool.not_true, Bool.false_beq, Bool.not_false, t_bl, if_true, len_lst, len_tup, n1, eq_int]
    refine fn_rt (σ' := [some (objD ad k (.grp x l ps)), some (.lst (sD (ps.flatMap fun t => sortS (users t)))), w]) (h1 := hs) rfl ?_ (fin_bl C)
    unfold b__law_group_right
    have st : startS 3 [objD ad k (.grp x l ps)] = [some (objD ad k (.grp x l ps)), none, none] := rfl
    have a0 : sAsg (eLst false aNil) (gName 1) [some (objD ad k (.grp x l ps)), none, none] hs = .ok (.nx, [some (objD ad k (.grp x l ps)), some (.lst []), none]) hs := by
      rw [u_Asg, x_Lst, x_Nil, Res.bind_ok, mkL_s (by simp), Res.bind_ok, g_Name]
      rfl
    rw [st]
    exact (sc a0).trans ((sc f1).trans (last w))
end
end Qo
-- M26
set_option maxRecDepth 100000
set_option maxHeartbeats 1000000
namespace Qo
open PySem
noncomputable abbrev rA (ad : Ad) : SS := (sAsg (eMake true ad.Tree (f_Tree___init__ ad) [] (aCons (eCall (f__law_drawn ad) [] (aCons (eVar 0) (aCons (eC (.int 9)) aNil))) aNil)) (gName 1))
noncomputable abbrev rB (ad : Ad) : SS := (sAsg (eListG false (gMeth "walk" (gT ad.Tree (f_Tree_walk ad)) (eVar 1) aNil)) (gName 2))
noncomputable abbrev rC (ad : Ad) : SS := (sAsg (eBlt (bSorted false) (aCons (eLC false [4] (iSeq (eVar 2)) (lc1 (gName 4) (tOf (eBlt (bIsi ad.it) (aCons (eVar 4) (aCons (eC (.fn ad.Group)) aNil)))) (eAtt "name" (aT ad.User .fld (aT ad.Group .fld aN)) (eVar 4)))) aNil)) (gName 3))
noncomputable abbrev rD (ad : Ad) : SS := (sAsg (eBlt (bSorted false) (aCons (eLC false [4] (iSeq (eVar 2)) (lc1 (gName 4) (tNot (tOf (eBlt (bIsi ad.it) (aCons (eVar 4) (aCons (eC (.fn ad.Group)) aNil))))) (eAtt "name" (aT ad.User .fld (aT ad.Group .fld aN)) (eVar 4)))) aNil)) (gName 5))
noncomputable abbrev rE (ad : Ad) : SS := (sIf (tOr (tOf (eOp (dEq true) (eAtt "users" (aT ad.Tree (.prop (f_Tree_users ad)) aN) (eVar 1)) (eBlt bTuple (aCons (eVar 5) aNil)))) (tOr (tOf (eOp (dEq true) (eAtt "groups" (aT ad.Tree (.prop (f_Tree_groups ad)) aN) (eVar 1)) (eBlt bTuple (aCons (eVar 3) aNil)))) (tOf (eOp (dEq true) (eLenO (mT ad.Tree (f_Tree___len__ ad) mN) (aCons (eVar 1) aNil)) (eBlt bLen (aCons (eVar 5) aNil)))))) (sCons (sRet (eC (.bl false))) sNil) sNil)
noncomputable abbrev rF (ad : Ad) : SS := (sIf (tOr (tOf (eOp (dEq true) (eAtt "members" (aT ad.User (.prop (f_Node_members ad)) (aT ad.Group (.prop (f_Group_members ad 10)) aN)) (eAtt "root" (aT ad.Tree (.prop (f_Tree_root ad)) aN) (eVar 1))) (eAtt "users" (aT ad.Tree (.prop (f_Tree_users ad)) aN) (eVar 1)))) (tOr (tOf (eOp (dEq true) (eAtt "depth" (aT ad.User (.prop (f_Node_depth ad)) (aT ad.Group (.prop (f_Node_depth ad)) aN)) (eAtt "root" (aT ad.Tree (.prop (f_Tree_root ad)) aN) (eVar 1))) (eC (.int 1)))) (tOf (eOp (dEq true) (eAtt "name" (aT ad.User .fld (aT ad.Group .fld aN)) (eOp dIx (eVar 2) (eC (.int 0)))) (eAtt "name" (aT ad.User .fld (aT ad.Group .fld aN)) (eAtt "root" (aT ad.Tree (.prop (f_Tree_root ad)) aN) (eVar 1))))))) (sCons (sRet (eC (.bl false))) sNil) sNil)
noncomputable abbrev rG (ad : Ad) : SS := (sIf (tNot (tOf (eBlt bAll (aCons (eLC false [6] (iSeq (eVar 5)) (lc1 (gName 6) tYes (eCall (f__law_user_right ad) [] (aCons (eVar 1) (aCons (eVar 6) (aCons (eVar 2) aNil)))))) aNil)))) (sCons (sRet (eC (.bl false))) sNil) sNil)
noncomputable abbrev rH (ad : Ad) : SS := (sRet (eBlt bAll (aCons (eLC false [4] (iSeq (eVar 2)) (lc1 (gName 4) (tOf (eBlt (bIsi ad.it) (aCons (eVar 4) (aCons (eC (.fn ad.Group)) aNil)))) (eCall (f__law_group_right ad) [] (aCons (eVar 4) aNil)))) aNil)))
theorem lenO_int {tbl : Addr → Option (SF × List D)} {o : SA} {σ : St} {h h1 h2 : Hs} {x : D} {c : Addr} {ns : List Str} {vs : List D} {fn : SF} {n : Int} (eo : o σ h = .ok [x] h1) (ea : asO h1 x = some (c, ns, vs)) (et : tbl c = some (fn, [])) (ef : fn [x] h1 = .ok (.int n) h2) (g0 : 0 ≤ n) (g : n < 2 ^ 63) : eLenO tbl o σ h = .ok (.int n) h2 := by
  unfold eLenO
  rw [eo, Res.bind_ok]
  dsimp only
  rw [ea]
  dsimp only
  rw [et]
  dsimp only
  rw [ef, Res.bind_ok]
  dsimp only
  exact grd_pos ⟨g0, g⟩
theorem small_len {T : Tr} (W : Wf T) : ((users T).length : Int) < 2 ^ 63 := by
  have := W.nu
  have h : ((users T).length : Int) < 13 := by omega
  exact Int.lt_trans h (by decide)
theorem unf_set {hs : Hs} {p : Nat} {t : T3} (U : Unf hs) : Unf (At hs p t) := by
  unfold Unf at *
  rw [List.all_eq_true] at *
  intro x hx
  rcases List.mem_or_eq_of_mem_set hx with h | h
  · exact U x h
  · subst h; rfl
section
variable {ad : Ad} (I : IsF ad) {hs : Hs} (C : Clo hs) {T : Tr} (W : Wf T) {r : D}
include I C W
theorem rB_s : rB ad [some r, some (treeD ad T), none, none, none, none, none] hs = .ok (.nx, [some r, some (treeD ad T), some (.lst ((subs 1 T).map (oD ad))), none, none, none, none]) hs := by
  have w := x_walk I C W (o := eVar 1) (σ := [some r, some (treeD ad T), none, none, none, none, none]) rfl
  have ln := W.nodes
  unfold rB
  rw [u_Asg, eListG, w, Res.bind_ok, mkL_s (by rw [List.length_map]; omega), Res.bind_ok, g_Name]
  rfl
theorem rC_s : rC ad [some r, some (treeD ad T), some (.lst ((subs 1 T).map (oD ad))), none, none, none, none] hs = .ok (.nx, [some r, some (treeD ad T), some (.lst ((subs 1 T).map (oD ad))), some (.lst (sD (sortS (groups T)))), none, none, none]) hs := by
  have lc : eLC false [4] (iSeq (eVar 2)) (lc1 (gName 4) (tOf (eBlt (bIsi ad.it) (aCons (eVar 4) (aCons (eC (.fn ad.Group)) aNil)))) (eAtt "name" (aT ad.User .fld (aT ad.Group .fld aN)) (eVar 4))) [some r, some (treeD ad T), some (.lst ((subs 1 T).map (oD ad))), none, none, none, none] hs = .ok (.lst (((subs 1 T).filter fun s => isG s.2).map fun s => D.str (tname s.2))) hs := by
    refine x_LCb (g := oD ad) (seq_lst rfl) rfl (by have := W.nodes; omega) fun s hs' => ?_
    have i : bIsi ad.it [oD ad s, .fn ad.Group] hs = .ok (.bl (isG s.2)) hs := isi_obj I (t := s.2) (k := s.1) (hs := hs)
    have n : dAtt "name" (aT ad.User .fld (aT ad.Group .fld aN)) (oD ad s) hs = .ok (.str (tname s.2)) hs := att_name I (t := s.2) (k := s.1) (hs := hs)
    refine ⟨?_, fun _ => ?_⟩
    · simp only [wipe, t_Of, x_Blt, x_Cons, x_Var, x_C, x_Nil, List.set_cons_zero, List.set_cons_succ, List.getElem?_cons_zero, List.getElem?_cons_succ, Res.bind_ok, i, t_bl]
    · simp only [wipe, eAtt, x_Var, List.set_cons_zero, List.set_cons_succ, List.getElem?_cons_zero, List.getElem?_cons_succ, Res.bind_ok, n]
  have e2 : (((subs 1 T).filter fun s => isG s.2).map fun s => D.str (tname s.2)) = sD (groups T) := by
    rw [← subs_groups T 1, sD, List.map_map]; rfl
  rw [e2] at lc
  have so := b_sorted (xs := groups T) (hs := hs) (by have := W.ng; omega)
  unfold rC
  rw [u_Asg, x_Blt, x_Cons, lc, Res.bind_ok, x_Nil, Res.bind_ok, Res.bind_ok, so, Res.bind_ok, g_Name]
  rfl
theorem rD_s : rD ad [some r, some (treeD ad T), some (.lst ((subs 1 T).map (oD ad))), some (.lst (sD (sortS (groups T)))), none, none, none] hs = .ok (.nx, [some r, some (treeD ad T), some (.lst ((subs 1 T).map (oD ad))), some (.lst (sD (sortS (groups T)))), none, some (.lst (sD (sortS (users T)))), none]) hs := by
  have lc : eLC false [4] (iSeq (eVar 2)) (lc1 (gName 4) (tNot (tOf (eBlt (bIsi ad.it) (aCons (eVar 4) (aCons (eC (.fn ad.Group)) aNil))))) (eAtt "name" (aT ad.User .fld (aT ad.Group .fld aN)) (eVar 4))) [some r, some (treeD ad T), some (.lst ((subs 1 T).map (oD ad))), some (.lst (sD (sortS (groups T)))), none, none, none] hs = .ok (.lst (((subs 1 T).filter fun s => !isG s.2).map fun s => D.str (tname s.2))) hs := by
    refine x_LCb (g := oD ad) (seq_lst rfl) rfl (by have := W.nodes; omega) fun s hs' => ?_
    have i : bIsi ad.it [oD ad s, .fn ad.Group] hs = .ok (.bl (isG s.2)) hs := isi_obj I (t := s.2) (k := s.1) (hs := hs)
    have n : dAtt "name" (aT ad.User .fld (aT ad.Group .fld aN)) (oD ad s) hs = .ok (.str (tname s.2)) hs := att_name I (t := s.2) (k := s.1) (hs := hs)
    refine ⟨?_, fun _ => ?_⟩
    · simp only [wipe, t_Not, t_Of, x_Blt, x_Cons, x_Var, x_C, x_Nil, List.set_cons_zero, List.set_cons_succ, List.getElem?_cons_zero, List.getElem?_cons_succ, Res.bind_ok, i, t_bl]
    · simp only [wipe, eAtt, x_Var, List.set_cons_zero, List.set_cons_succ, List.getElem?_cons_zero, List.getElem?_cons_succ, Res.bind_ok, n]
  have e2 : (((subs 1 T).filter fun s => !isG s.2).map fun s => D.str (tname s.2)) = sD (users T) := by
    rw [← subs_users T 1, sD, List.map_map]; rfl
  rw [e2] at lc
  have so := b_sorted (xs := users T) (hs := hs) (by have := W.nu; omega)
  unfold rD
  rw [u_Asg, x_Blt, x_Cons, lc, Res.bind_ok, x_Nil, Res.bind_ok, Res.bind_ok, so, Res.bind_ok, g_Name]
  rfl
theorem sok_users : SOk (sortS (users T)) := SOk.of fun x hx => nm_ok T W.ok x ((nm_perm T).mem_iff.mpr (List.mem_append_left _ (sortS_mem.mp hx)))
theorem sok_groups : SOk (sortS (groups T)) := SOk.of fun x hx => nm_ok T W.ok x ((nm_perm T).mem_iff.mpr (List.mem_append_right _ (sortS_mem.mp hx)))
theorem x_lenT {σ : St} (h1 : σ[1]? = some (some (treeD ad T))) : eLenO (mT ad.Tree (f_Tree___len__ ad) mN) (aCons (eVar 1) aNil) σ hs = .ok (.int (users T).length) hs := by
  have ar : aCons (eVar 1) aNil σ hs = .ok [treeD ad T] hs := by simp only [x_Cons, x_Var, h1, x_Nil, Res.bind_ok]
  exact lenO_int ar asO_tree mT_t (s_len I C W) (by have := W.nu; omega) (small_len W)
theorem rE_s : rE ad [some r, some (treeD ad T), some (.lst ((subs 1 T).map (oD ad))), some (.lst (sD (sortS (groups T)))), none, some (.lst (sD (sortS (users T)))), none] hs = .ok (.nx, [some r, some (treeD ad T), some (.lst ((subs 1 T).map (oD ad))), some (.lst (sD (sortS (groups T)))), none, some (.lst (sD (sortS (users T)))), none]) hs := by
  have u := s_users I C W
  have g := s_groups I C W
  have ln := x_lenT I C W (σ := [some r, some (treeD ad T), some (.lst ((subs 1 T).map (oD ad))), some (.lst (sD (sortS (groups T)))), none, some (.lst (sD (sortS (users T)))), none]) rfl
  have tu := tuple_lst (xs := sD (sortS (users T))) (hs := hs) (by rw [List.length_map, sortS_len]; have := W.nu; omega)
  have tg := tuple_lst (xs := sD (sortS (groups T))) (hs := hs) (by rw [List.length_map, sortS_len]; have := W.ng; omega)
  have su := sok_users I C W (ad := ad) (hs := hs)
  have sg := sok_groups I C W (ad := ad) (hs := hs)
  have eu := eq_strs (n := true) (hs := hs) su su
  have eg := eq_strs (n := true) (hs := hs) sg sg
  have nl : (sD (sortS (users T))).length = (users T).length := by rw [List.length_map, sortS_len]
  unfold rE
  simp only [u_If, t_Or, t_Of, x_Op, eAtt, x_Blt, x_Cons, x_Nil, x_Var, List.getElem?_cons_zero, List.getElem?_cons_succ, Res.bind_ok, att_tp, u, g, tu, tg, eu, eg, decide_true, bne, beq_self_eq_true, Bool.not_true, t_bl, Bool.false_eq_true, if_false, ln, len_lst, nl, eq_int, u_Nil]
theorem rF_s : rF ad [some r, some (treeD ad T), some (.lst ((subs 1 T).map (oD ad))), some (.lst (sD (sortS (groups T)))), none, some (.lst (sD (sortS (users T)))), none] hs = .ok (.nx, [some r, some (treeD ad T), some (.lst ((subs 1 T).map (oD ad))), some (.lst (sD (sortS (groups T)))), none, some (.lst (sD (sortS (users T)))), none]) hs := by
  have u := s_users I C W
  have rt := s_root I C W
  obtain ⟨rest, hsb⟩ : ∃ rest, subs 1 T = (1, T) :: rest := by
    cases T with
    | usr x l => exact ⟨_, rfl⟩
    | grp x l ps => exact ⟨_, rfl⟩
  have m := mem_sub I C W (s := (1, T)) (by rw [hsb]; exact List.mem_cons_self)
  have d := att_depth I C (t := T) (k := 1)
  have n := att_name I (t := T) (k := 1) (hs := hs)
  have su := sok_users I C W (ad := ad) (hs := hs)
  have eu := eq_strs (n := true) (hs := hs) su su
  have nT := strOk_of (nm_ok T W.ok (tname T) (by rw [nm_eq]; exact List.mem_cons_self))
  have eT := eq_str (n := true) (hs := hs) nT nT
  have o1 : ((1 : Nat) : Int) = 1 := rfl
  rw [hsb]
  simp only [oD] at m
  unfold rF
  simp only [List.map_cons, u_If, t_Or, t_Of, x_Op, eAtt, x_Blt, x_Cons, x_C, x_Nil, x_Var, List.getElem?_cons_zero, List.getElem?_cons_succ, Res.bind_ok, att_tp, rt, u, m, eu, d, o1, decide_true, bne, beq_self_eq_true, Bool.not_true, t_bl, Bool.false_eq_true, if_false, lst0, oD, n, eT, eq_int, u_Nil]
theorem rG_s : rG ad [some r, some (treeD ad T), some (.lst ((subs 1 T).map (oD ad))), some (.lst (sD (sortS (groups T)))), none, some (.lst (sD (sortS (users T)))), none] hs = .ok (.nx, [some r, some (treeD ad T), some (.lst ((subs 1 T).map (oD ad))), some (.lst (sD (sortS (groups T)))), none, some (.lst (sD (sortS (users T)))), none]) hs := by
  have lc : eLC false [6] (iSeq (eVar 5)) (lc1 (gName 6) tYes (eCall (f__law_user_right ad) [] (aCons (eVar 1) (aCons (eVar 6) (aCons (eVar 2) aNil))))) [some r, some (treeD ad T), some (.lst ((subs 1 T).map (oD ad))), some (.lst (sD (sortS (groups T)))), none, some (.lst (sD (sortS (users T)))), none] hs = .ok (.lst ((sortS (users T)).map fun _ => .bl true)) hs := by
    refine x_LCy (g := D.str) (seq_lst rfl) rfl (by rw [sortS_len]; have := W.nu; omega) fun x hx => ?_
    have q := s_user_right I C W (sortS_mem.mp hx)
    simp only [wipe, x_Call, x_Cons, x_Nil, x_Var, List.set_cons_zero, List.set_cons_succ, List.getElem?_cons_zero, List.getElem?_cons_succ, Res.bind_ok, List.append_nil, q]
  have al := all_t (as := sortS (users T)) (hs := hs)
  unfold rG
  simp only [u_If, t_Not, t_Of, x_Blt, x_Cons, x_Nil, Res.bind_ok, lc, al, t_bl, Bool.not_true, Bool.false_eq_true, if_false, u_Nil]
theorem rH_s : rH ad [some r, some (treeD ad T), some (.lst ((subs 1 T).map (oD ad))), some (.lst (sD (sortS (groups T)))), none, some (.lst (sD (sortS (users T)))), none] hs = .ok (.rt (.bl true), [some r, some (treeD ad T), some (.lst ((subs 1 T).map (oD ad))), some (.lst (sD (sortS (groups T)))), none, some (.lst (sD (sortS (users T)))), none]) hs := by
  have lc : eLC false [4] (iSeq (eVar 2)) (lc1 (gName 4) (tOf (eBlt (bIsi ad.it) (aCons (eVar 4) (aCons (eC (.fn ad.Group)) aNil)))) (eCall (f__law_group_right ad) [] (aCons (eVar 4) aNil))) [some r, some (treeD ad T), some (.lst ((subs 1 T).map (oD ad))), some (.lst (sD (sortS (groups T)))), none, some (.lst (sD (sortS (users T)))), none] hs = .ok (.lst (((subs 1 T).filter fun s => isG s.2).map fun _ => .bl true)) hs := by
    refine x_LCb (g := oD ad) (seq_lst rfl) rfl (by have := W.nodes; omega) fun s hs' => ?_
    have i : bIsi ad.it [oD ad s, .fn ad.Group] hs = .ok (.bl (isG s.2)) hs := isi_obj I (t := s.2) (k := s.1) (hs := hs)
    refine ⟨?_, fun hg => ?_⟩
    · simp only [wipe, t_Of, x_Blt, x_Cons, x_Var, x_C, x_Nil, List.set_cons_zero, List.set_cons_succ, List.getElem?_cons_zero, List.getElem?_cons_succ, Res.bind_ok, i, t_bl]
    · have q := s_group_right I C W hs' hg
      simp only [wipe, x_Call, x_Cons, x_Nil, x_Var, List.set_cons_zero, List.set_cons_succ, List.getElem?_cons_zero, List.getElem?_cons_succ, Res.bind_ok, List.append_nil, q]
  have al := all_t (as := (subs 1 T).filter fun s => isG s.2) (hs := hs)
  unfold rH
  simp only [u_Ret, x_Blt, x_Cons, x_Nil, Res.bind_ok, lc, al]
end
theorem s_right {ad : Ad} (I : IsF ad) {hs : Hs} (C : Clo hs) (U : Unf hs) {p : Nat} (lt : p < hs.length) {t : T3} : ∃ t', f__law_right ad [.ref p] (At hs p t) = .ok (.bl true) (At hs p t') := by
  obtain ⟨T, t', e, W⟩ := s_drawn (ad := ad) C lt (t := t)
  have C' : Clo (At hs p t') := clo_set C
  have mk := mk_tree I C' (unf_set U) W (a := aCons (eCall (f__law_drawn ad) [] (aCons (eVar 0) (aCons (eC (.int 9)) aNil))) aNil) (σ := [some (.ref p), none, none, none, none, none, none]) (h0 := At hs p t) (by
    simp only [x_Call, x_Cons, x_Nil, x_C, x_Var, List.getElem?_cons_zero, Res.bind_ok, List.append_nil, e])
  have a1 : rA ad [some (.ref p), none, none, none, none, none, none] (At hs p t) = .ok (.nx, [some (.ref p), some (treeD ad T), none, none, none, none, none]) (At hs p t') := by
    unfold rA
    rw [u_Asg, mk, Res.bind_ok, g_Name]
    rfl
  have len : (At hs p t').length = (At hs p t).length := by rw [List.length_set, List.length_set]
  refine ⟨t', fn_rt (σ' := [some (.ref p), some (treeD ad T), some (.lst ((subs 1 T).map (oD ad))), some (.lst (sD (sortS (groups T)))), none, some (.lst (sD (sortS (users T)))), none]) (h1 := At hs p t') rfl ?_ (by rw [← len]; exact fin_bl C')⟩
  have st : startS 7 [D.ref p] = [some (.ref p), none, none, none, none, none, none] := rfl
  rw [st]
  have l8 : sCons (rH ad) sNil [some (.ref p), some (treeD ad T), some (.lst ((subs 1 T).map (oD ad))), some (.lst (sD (sortS (groups T)))), none, some (.lst (sD (sortS (users T)))), none] (At hs p t') = .ok (.rt (.bl true), [some (.ref p), some (treeD ad T), some (.lst ((subs 1 T).map (oD ad))), some (.lst (sD (sortS (groups T)))), none, some (.lst (sD (sortS (users T)))), none]) (At hs p t') := by
    rw [u_Cons, rH_s I C' W]
    rfl
  unfold b__law_right
  refine (sc (q := sCons (rB ad) (sCons (rC ad) (sCons (rD ad) (sCons (rE ad) (sCons (rF ad) (sCons (rG ad) (sCons (rH ad) sNil))))))) a1).trans ?_
  refine (sc (rB_s I C' W)).trans ?_
  refine (sc (rC_s I C' W)).trans ?_
  refine (sc (rD_s I C' W)).trans ?_
  refine (sc (rE_s I C' W)).trans ?_
  refine (sc (rF_s I C' W)).trans ?_
  exact (sc (rG_s I C' W)).trans l8
end Qo
-- M27
set_option maxRecDepth 100000
set_option maxHeartbeats 1000000
namespace Qo
open PySem
noncomputable abbrev ceA : SS := (sIf (tOf (eOp (dCmp .lt) (eVar 1) (eBlt bLen (aCons (eVar 0) aNil)))) (sCons (sRet (eOp dIx (eVar 0) (eVar 1))) sNil) sNil)
noncomputable abbrev ceB : SS := (sAsg (eOp dMod (eOp (dMul false) (eC (.int 50021)) (eOp (dAdd false) (eOp (dAdd false) (eOp (dMul false) (eVar 1) (eVar 1)) (eOp (dMul false) (eC (.int 7)) (eVar 1))) (eC (.int 3)))) (eC (.int 1000000007))) (gName 2))
noncomputable abbrev ceL : SS := (sCons (sAsg (eOp dMod (eOp (dAdd false) (eOp (dMul false) (eVar 2) (eC (.int 30011))) (eVar 3)) (eC (.int 1000000007))) (gName 2)) sNil)
theorem lstIx {xs : List D} {k : Nat} {d : D} {hs : Hs} (h : xs[k]? = some d) : dIx (.lst xs) (.int (k : Int)) hs = .ok d hs := by
  have l : k < xs.length := (List.getElem?_eq_some_iff.mp h).1
  have e : atI xs (k : Int) = some d := by
    show (L2.ixN xs.length (k : Int)).bind (fun j => xs[j]?) = _
    unfold L2.ixN
    rw [if_pos (by omega), if_pos (by omega)]
    simpa using h
  show (match asL hs (.lst xs) with | some xs => (match atI xs (k : Int) with | some d => Res.ok d hs | none => .bad) | none => .bad) = _
  simp only [asL, e]
theorem ce_step {v0 v1 : Option D} {hs : Hs} {a x : Int} : ceL [v0, v1, some (.int a), some (.int x)] hs = .ok (.nx, [v0, v1, some (.int ((a * 30011 + x) % 1000000007)), some (.int x)]) hs := by
  unfold ceL
  simp only [u_Cons, u_Asg, g_Name, x_Op, x_Var, x_C, List.set_cons_zero, List.set_cons_succ, List.getElem?_cons_zero, List.getElem?_cons_succ, Res.bind_ok, mul_int (i := a) (j := 30011) (.inl (.inr (by decide))), add_int, mod_int (j := 1000000007) (by decide), u_Nil]
/-- a number of the script, or one that is made of it -/
theorem s_cell {ad : Ad} {hs : Hs} (C : Clo hs) {ns : List Int} {k : Nat} (hk : k ≤ 5) (hn : ns.length ≤ 63) : ∃ v, f__law_cell ad [.lst (ns.map D.int), .int k] hs = .ok (.int v) hs := by
  have st : startS 4 [D.lst (ns.map D.int), .int k] = [some (.lst (ns.map D.int)), some (.int k), none, none] := rfl
  by_cases l : k < ns.length
  · refine ⟨ns[k], fn_rt (σ' := [some (.lst (ns.map D.int)), some (.int k), none, none]) (h1 := hs) rfl ?_ (fin_int C)⟩
    have ix : dIx (.lst (ns.map D.int)) (.int (k : Int)) hs = .ok (.int ns[k]) hs := lstIx (by simp [l])
    have c : cmpI .lt (k : Int) ((ns.map D.int).length : Nat) = true := by
      rw [List.length_map]
      exact decide_eq_true (by omega)
    rw [st]
    unfold b__law_cell
    rw [u_Cons]
    simp only [u_Cons, u_If, u_Ret, t_Of, x_Op, x_Blt, x_Cons, x_Nil, x_Var, List.getElem?_cons_zero, List.getElem?_cons_succ, Res.bind_ok, len_lst, lt_int, c, t_bl, if_true, ix]
  · have c : cmpI .lt (k : Int) ((ns.map D.int).length : Nat) = false := by
      rw [List.length_map]
      exact decide_eq_false (by omega)
    have a1 : ceA [some (.lst (ns.map D.int)), some (.int k), none, none] hs = .ok (.nx, [some (.lst (ns.map D.int)), some (.int k), none, none]) hs := by
      unfold ceA
      simp only [u_If, t_Of, x_Op, x_Blt, x_Cons, x_Nil, x_Var, List.getElem?_cons_zero, List.getElem?_cons_succ, Res.bind_ok, len_lst, lt_int, c, t_bl, Bool.false_eq_true, if_false, u_Nil]
    have a2 : ceB [some (.lst (ns.map D.int)), some (.int k), none, none] hs = .ok (.nx, [some (.lst (ns.map D.int)), some (.int k), some (.int ((50021 * (((k : Int) * k + 7 * k) + 3)) % 1000000007)), none]) hs := by
      unfold ceB
      simp only [u_Asg, g_Name, x_Op, x_Var, x_C, List.set_cons_zero, List.set_cons_succ, List.getElem?_cons_zero, List.getElem?_cons_succ, Res.bind_ok, mul_int (i := (k : Int)) (j := k) (.inl (.inl (by omega))), mul_int (i := 7) (j := k) (.inl (.inl (by decide))), add_int, mul_int (i := 50021) (.inl (.inl (by decide))), mod_int (j := 1000000007) (by decide)]
    obtain ⟨xs, hx, lx⟩ : ∃ xs : List Int, dSl false (.lst (ns.map D.int)) none (some 3) hs = .ok (.lst (xs.map D.int)) hs ∧ xs.length ≤ 63 := by
      have := sl_n (xs := ns.map D.int) (hs := hs) none (some 3) (by rw [List.length_map]; omega)
      simp only [Option.map_none, Option.map_some, Option.elim_none, Option.elim_some, List.drop_zero, Nat.sub_zero, ← List.map_take] at this
      exact ⟨_, this, Nat.le_trans (List.length_take_le' _ _) hn⟩
    obtain ⟨σ3, e3, ⟨a, w, h3⟩⟩ := for_skip (g := D.int) (ok := fun h' => asL h' (.lst (xs.map D.int)) = some (xs.map D.int)) (i := 3) (b := ceL) (hs := hs) (J := fun σ => ∃ a w, σ = [some (.lst (ns.map D.int)), some (.int k), some (.int a), w]) rfl xs (by
      rintro x hx _ ⟨a, w, rfl⟩
      exact ⟨_, ce_step, _, _, rfl⟩) _ ⟨(50021 * (((k : Int) * k + 7 * k) + 3)) % 1000000007, none, rfl⟩
    subst h3
    have f1 : sFor (iSeq (eSl (dSl false) (eVar 0) oNone (oSome (eC (.int 3))))) (gName 3) ceL [some (.lst (ns.map D.int)), some (.int k), some (.int ((50021 * (((k : Int) * k + 7 * k) + 3)) % 1000000007)), none] hs = .ok (.nx, [some (.lst (ns.map D.int)), some (.int k), some (.int a), w]) hs := by
      have hm : iSeq (eSl (dSl false) (eVar 0) oNone (oSome (eC (.int 3)))) [some (.lst (ns.map D.int)), some (.int k), some (.int ((50021 * (((k : Int) * k + 7 * k) + 3)) % 1000000007)), none] hs = .ok (xs.map D.int, fun h' => asL h' (.lst (xs.map D.int)) = some (xs.map D.int)) hs := seq_lst hx
      unfold sFor
      rw [hm]
      exact e3
    refine ⟨a, fn_rt (σ' := [some (.lst (ns.map D.int)), some (.int k), some (.int a), w]) (h1 := hs) rfl ?_ (fin_int C)⟩
    rw [st]
    unfold b__law_cell
    exact (sc a1).trans ((sc a2).trans ((sc f1).trans rfl))
/-- a pool -/
theorem s_pool {ad : Ad} {hs : Hs} {v : Int} : ∃ t : T3, f__law_pool ad [.int v] hs = .ok (.ref hs.length) (hs ++ [c3 t]) := by
  have pw : dPow (.int 10) (.int 18) hs = .ok (.int (10 ^ 18)) hs := grd_pos (by decide)
  have mk : ∀ w, mkL true [.int (v % 1000000007), .int w, .int 0] hs = .ok (.ref hs.length) (hs ++ [c3 (v % 1000000007, w, 0)]) := fun w => by
    unfold mkL
    rw [grd_pos (szK (by simp)), if_pos rfl]
    rfl
  have st : startS 2 [D.int v] = [some (.int v), none] := rfl
  have tt : tOr (tOf (eOp (dCmp .lt) (eVar 0) (eC (.int 0)))) (tOf (eOp (dCmp .ge) (eVar 0) (eOp dPow (eC (.int 10)) (eC (.int 18))))) [some (.int v), some (.int 0)] hs = .ok (cmpI .lt v 0 || cmpI .ge v (10 ^ 18)) hs := by
    simp only [t_Or, t_Of, x_Op, x_Var, x_C, List.getElem?_cons_zero, List.getElem?_cons_succ, Res.bind_ok, lt_int, pw, t_bl]
    cases cmpI .lt v 0 <;> rfl
  obtain ⟨w, hw⟩ : ∃ w : Int, sIf (tOr (tOf (eOp (dCmp .lt) (eVar 0) (eC (.int 0)))) (tOf (eOp (dCmp .ge) (eVar 0) (eOp dPow (eC (.int 10)) (eC (.int 18)))))) (sCons (sAsg (eBlt bAbs (aCons (eVar 0) aNil)) (gName 1)) sNil) sNil [some (.int v), some (.int 0)] hs = .ok (.nx, [some (.int v), some (.int w)]) hs := by
    rw [u_If, tt, Res.bind_ok]
    cases cmpI .lt v 0 || cmpI .ge v (10 ^ 18) with
    | true => exact ⟨_, rfl⟩
    | false => exact ⟨_, rfl⟩
  refine ⟨(v % 1000000007, w, 0), fn_rt (σ' := [some (.int v), some (.int w)]) rfl ?_ (if_pos rfl)⟩
  rw [st]
  unfold b__law_pool
  have a0 : sAsg (eC (.int 0)) (gName 1) [some (.int v), none] hs = .ok (.nx, [some (.int v), some (.int 0)]) hs := rfl
  refine (sc a0).trans ((sc hw).trans ?_)
  rw [u_Cons, u_Ret, x_Lst]
  simp only [x_Cons, x_Op, x_Var, x_C, x_Nil, List.getElem?_cons_zero, List.getElem?_cons_succ, Res.bind_ok, mod_int (j := 1000000007) (i := v) (by decide), mk]
abbrev OkH (h : Hs) : Prop := Clo h ∧ Unf h
theorem law_el {ad : Ad} (I : IsF ad) {ns : List Int} (hn : ns.length ≤ 63) {k : Nat} (hk : k ≤ 5) {h : Hs} (P : OkH h) : ∃ h', (eCall (f__law_right ad) [] (aCons (eCall (f__law_pool ad) [] (aCons (eCall (f__law_cell ad) [] (aCons (eVar 0) (aCons (eVar 1) aNil))) aNil)) aNil)) [some (.lst (ns.map D.int)), some (.int (k : Int))] h = .ok (.bl true) h' ∧ OkH h' := by
  obtain ⟨C, U⟩ := P
  obtain ⟨v, e1⟩ := s_cell (ad := ad) C (ns := ns) hk hn
  obtain ⟨t, e2⟩ := s_pool (ad := ad) (hs := h) (v := v)
  have C2 : Clo (h ++ [c3 t]) := clo_app C fun x hx => by
    rw [List.mem_singleton] at hx; subst hx; rfl
  have U2 : Unf (h ++ [c3 t]) := unf_app U
  have lt : h.length < (h ++ [c3 t]).length := by rw [List.length_append]; exact Nat.lt_succ_self _
  obtain ⟨t', e3⟩ := s_right I C2 U2 lt (t := t)
  have same : At (h ++ [c3 t]) h.length t = h ++ [c3 t] := by
    show (h ++ [c3 t]).set h.length (c3 t) = _
    rw [List.set_append_right _ _ (Nat.le_refl _), Nat.sub_self]
    rfl
  rw [same] at e3
  refine ⟨At (h ++ [c3 t]) h.length t', ?_, clo_set C2, unf_set U2⟩
  simp only [x_Call, x_Cons, x_Nil, x_Var, List.getElem?_cons_zero, List.getElem?_cons_succ, Res.bind_ok, List.append_nil, e1, e2, e3]
theorem math {ad : Ad} (I : IsF ad) {ns : List Int} (hn : ns.length ≤ 63) : ∃ hs', f_law ad [.lst (ns.map D.int)] [] = .ok (.bl true) hs' := by
  have st : startS 2 [D.lst (ns.map D.int)] = [some (.lst (ns.map D.int)), none] := rfl
  obtain ⟨n, n5, en⟩ : ∃ n : Nat, n ≤ 5 ∧ (eBlt bMax (aCons (eC (.int 2)) (aCons (eBlt bMin (aCons (eBlt bLen (aCons (eVar 0) aNil)) (aCons (eC (.int 5)) aNil))) aNil))) [some (.lst (ns.map D.int)), none] [] = .ok (.int n) [] := by
    have mn : ∃ m : Nat, m ≤ 5 ∧ bMin [.int ((ns.map D.int).length : Nat), .int 5] [] = .ok (.int m) [] := by
      by_cases h : (5 : Int) < ((ns.map D.int).length : Nat)
      · exact ⟨5, by omega, by show Res.ok (D.int (if (5 : Int) < ((ns.map D.int).length : Nat) then 5 else ((ns.map D.int).length : Nat))) [] = _; rw [if_pos h]; rfl⟩
      · exact ⟨(ns.map D.int).length, by omega, by show Res.ok (D.int (if (5 : Int) < ((ns.map D.int).length : Nat) then 5 else ((ns.map D.int).length : Nat))) [] = _; rw [if_neg h]⟩
    obtain ⟨m, m5, em⟩ := mn
    have mx : ∃ n : Nat, n ≤ 5 ∧ bMax [.int 2, .int (m : Nat)] [] = .ok (.int n) [] := by
      by_cases h : (m : Int) > 2
      · exact ⟨m, m5, by show Res.ok (D.int (if (m : Int) > 2 then (m : Int) else 2)) [] = _; rw [if_pos h]⟩
      · exact ⟨2, by omega, by show Res.ok (D.int (if (m : Int) > 2 then (m : Int) else 2)) [] = _; rw [if_neg h]; rfl⟩
    obtain ⟨n, n5, e⟩ := mx
    refine ⟨n, n5, ?_⟩
    simp only [x_Blt, x_Cons, x_C, x_Nil, x_Var, List.getElem?_cons_zero, Res.bind_ok, len_lst, em, e]
  obtain ⟨xs, h', e, w, -⟩ := x_LCa (g := fun k : Nat => D.int (0 + (k : Int))) (P := OkH) (ok := fun _ => True) (R := fun _ x => x = D.bl true) (i := 1) (own := [1]) (as := List.range n) (h1 := []) (el := (eCall (f__law_right ad) [] (aCons (eCall (f__law_pool ad) [] (aCons (eCall (f__law_cell ad) [] (aCons (eVar 0) (aCons (eVar 1) aNil))) aNil)) aNil))) (σ := [some (.lst (ns.map D.int)), none]) (h0 := []) (m := (iRng1 (aCons (eBlt bMax (aCons (eC (.int 2)) (aCons (eBlt bMin (aCons (eBlt bLen (aCons (eVar 0) aNil)) (aCons (eC (.int 5)) aNil))) aNil))) aNil))) (rng1 en (by omega)) ⟨rfl, rfl⟩ (fun _ _ => trivial) (by rw [List.length_range]; omega) (fun k hk h P => by
    obtain ⟨h', e, P'⟩ := law_el I hn (k := k) (by have := List.mem_range.mp hk; omega) P
    refine ⟨_, h', ?_, rfl, P'⟩
    show ((eCall (f__law_right ad) [] (aCons (eCall (f__law_pool ad) [] (aCons (eCall (f__law_cell ad) [] (aCons (eVar 0) (aCons (eVar 1) aNil))) aNil)) aNil))) [some (.lst (ns.map D.int)), some (.int (0 + (k : Int)))] h = _
    rw [Int.zero_add]
    exact e)
  have al := all_t (as := List.range n) (hs := h')
  rw [← w.map (f := fun _ => D.bl true)] at al
  have fn0 : finR false ([] : Hs).length (.bl true) h' = .ok (.bl true) [] := by
    unfold finR
    rw [if_neg Bool.false_ne_true, frz_bl]
    simp only [List.length_nil, List.take_zero]
    exact grd_pos rfl
  refine ⟨[], fn_rt (σ' := [some (.lst (ns.map D.int)), none]) (h1 := h') rfl ?_ fn0⟩
  rw [st]
  unfold b_law
  rw [u_Cons, u_Ret, x_Blt, x_Cons, e, Res.bind_ok, x_Nil, Res.bind_ok, Res.bind_ok, al]
  rfl
end Qo
-- T6
set_option maxRecDepth 100000
set_option maxHeartbeats 0
namespace Qo
open PySem PySem.W PySem.Calls PyProof.Rows
abbrev R : OpenRow := OpenLaw.row PySem.Challenge.rw_quotaorders_k87_whole_walk_around_and_me
abbrev qv : Program := view R.prog [48]
def nm0 : List PySem.Str := ["_wall", "LETTERS", "DIGITS", "is_whole", "is_from", "is_name", "is_limit", "read_number", "QuotaError", "InvalidTree", "InvalidUser", "InvalidName", "InvalidText", "MAX_USERS", "MAX_GROUPS", "MAX_DEPTH", "is_group", "is_node", "invalid_path", "head_text", "read_head", "read_node", "read_shape", "Node", "User"]
def nm1 : List PySem.Str := ["Group", "build", "inside", "Tree", "check_user", "_law_cell", "_law_pool", "_law_draw", "_law_words", "_law_big", "_law_cap", "_law_high", "_law_scheme", "_law_rows", "_law_user_right", "_law_group_right", "_law_drawn", "_law_right"]
def names : List PySem.Str := nm0 ++ nm1
def tl0 : List (Frag → Bool) := [fun K => (He.Fa.glo "Group").ok K,
  fun K => (He.Fa.glo "Tree").ok K,
  fun K => (He.Fa.glo "User").ok K,
  fun K => (He.Fa.glo "_law_big").ok K,
  fun K => (He.Fa.glo "_law_cap").ok K,
  fun K => (He.Fa.glo "_law_cell").ok K,
  fun K => (He.Fa.glo "_law_draw").ok K,
  fun K => (He.Fa.glo "_law_drawn").ok K,
  fun K => (He.Fa.glo "_law_group_right").ok K,
  fun K => (He.Fa.glo "_law_high").ok K,
  fun K => (He.Fa.glo "_law_pool").ok K,
  fun K => (He.Fa.glo "_law_right").ok K,
  fun K => (He.Fa.glo "_law_scheme").ok K,
  fun K => (He.Fa.glo "_law_user_right").ok K,
  fun K => (He.Fa.glo "_law_words").ok K,
  fun K => (He.Fa.glo "build").ok K,
  fun K => (He.Fa.glo "check_user").ok K,
  fun K => (He.Fa.glo "invalid_path").ok K,
  fun K => (He.Fa.glo "is_from").ok K,
  fun K => (He.Fa.glo "is_group").ok K]
def tl1 : List (Frag → Bool) := [fun K => (He.Fa.glo "is_limit").ok K,
  fun K => (He.Fa.glo "is_name").ok K,
  fun K => (He.Fa.glo "is_node").ok K,
  fun K => (He.Fa.glo "is_whole").ok K,
  fun K => (He.Fa.glo "law").ok K,
  fun K => (He.Fa.glo "inside").ok K,
  fun K => (He.Fa.free "abs").ok K,
  fun K => (He.Fa.free "all").ok K,
  fun K => (He.Fa.free "bool").ok K,
  fun K => (He.Fa.free "divmod").ok K,
  fun K => (He.Fa.free "enumerate").ok K,
  fun K => (He.Fa.free "int").ok K,
  fun K => (He.Fa.free "isinstance").ok K,
  fun K => (He.Fa.free "len").ok K,
  fun K => (He.Fa.free "list").ok K,
  fun K => (He.Fa.free "max").ok K,
  fun K => (He.Fa.free "min").ok K,
  fun K => (He.Fa.free "range").ok K,
  fun K => (He.Fa.free "sorted").ok K,
  fun K => (He.Fa.free "str").ok K]
def tl2 : List (Frag → Bool) := [fun K => (He.Fa.free "tuple").ok K,
  fun K => (He.Fa.str "LETTERS" "abcdefghijklmnopqrstuvwxyz").ok K,
  fun K => (He.Fa.int "MAX_DEPTH" 6).ok K,
  fun K => (He.Fa.int "MAX_GROUPS" 12).ok K,
  fun K => (He.Fa.int "MAX_USERS" 12).ok K,
  fun K => (He.Fa.cls "Group").ok K,
  fun K => (He.Fa.cls "Tree").ok K,
  fun K => (He.Fa.cls "User").ok K,
  fun K => (He.Fa.meth "Tree" "__len__").ok K,
  fun K => (He.Fa.meth "Tree" "around").ok K,
  fun K => (He.Fa.meth "Tree" "node_of").ok K,
  fun K => (He.Fa.meth "Tree" "walk").ok K,
  fun K => (He.Fa.mkr "Group").ok K,
  fun K => (He.Fa.mkr "Tree").ok K,
  fun K => (He.Fa.mkr "User").ok K,
  fun K => (He.Fa.noat "Group" "level").ok K,
  fun K => (He.Fa.noat "Group" "limit").ok K,
  fun K => (He.Fa.noat "Group" "name").ok K,
  fun K => (He.Fa.noat "Group" "parts").ok K,
  fun K => (He.Fa.noat "Tree" "heads").ok K]
def tl3 : List (Frag → Bool) := [fun K => (He.Fa.noat "Tree" "shape").ok K,
  fun K => (He.Fa.noat "Tree" "top").ok K,
  fun K => (He.Fa.noat "User" "level").ok K,
  fun K => (He.Fa.noat "User" "limit").ok K,
  fun K => (He.Fa.noat "User" "name").ok K,
  fun K => propB K (He.ga K "Group") "depth",
  fun K => decide (gtr K (He.ga K "Group") "depth" = gtr K (He.ga K "User") "depth"),
  fun K => propB K (He.ga K "Group") "members",
  fun K => propB K (He.ga K "Tree") "groups",
  fun K => propB K (He.ga K "Tree") "root",
  fun K => propB K (He.ga K "Tree") "users",
  fun K => propB K (He.ga K "User") "depth",
  fun K => propB K (He.ga K "User") "members",
  fun K => PySem.W.fnIn K (He.ma K (He.ga K "User") "__init__"),
  fun K => decide (PySem.W.mroIn K (He.ga K "Group") (.ref (He.ga K "Group")) = some true),
  fun K => He.eqO (PySem.W.ks_superIn K (He.ga K "Group") (He.ga K "Group") "__init__") (some (some (.ref (He.ma K (He.ga K "User") "__init__")))),
  fun K => decide (PySem.W.typeIn K (.ref (He.ma K (He.ga K "User") "__init__")) = some (.type "function")),
  fun K => supB R.prog K (He.ma K (He.ga K "Group") "__init__") (He.ga K "Group"),
  fun K => (He.Fa.free "super").ok K,
  fun K => clsIB K (He.ga K "User")]
def tl4 : List (Frag → Bool) := [fun K => clsIB K (He.ga K "Group"),
  fun K => clsIB K (He.ga K "Tree"),
  fun K => decide (PySem.W.kitOne K (.type "int") (.type "int") = some true),
  fun K => decide (PySem.W.kitOne K (.type "int") (.type "bool") = some false),
  fun K => decide (PySem.W.kitOne K (.type "str") (.type "str") = some true),
  fun K => decide (PySem.W.kitOne K (.type "tuple") (.type "tuple") = some true),
  fun K => decide (PySem.W.kitOne K (.ref (He.ga K "User")) (.ref (He.ga K "Group")) = some false),
  fun K => decide (PySem.W.kitOne K (.ref (He.ga K "Group")) (.ref (He.ga K "Group")) = some true),
  fun K => decide (PySem.W.kitOne K (.ref (He.ga K "Tree")) (.ref (He.ga K "Tree")) = some true),
  fun K => decide (He.ga K "User" ≠ He.ga K "Group" ∧ He.ga K "Tree" ≠ He.ga K "Group" ∧ He.ga K "Tree" ≠ He.ga K "User")]
def tl : List (Frag → Bool) := tl0 ++ tl1 ++ tl2 ++ tl3 ++ tl4
def dx0 : List DX := [⟨fun K => He.ga K "_law_big", "_law_big", "_law_big", (top 39), false⟩,
  ⟨fun K => He.ga K "_law_cap", "_law_cap", "_law_cap", (top 40), false⟩,
  ⟨fun K => He.ga K "_law_cell", "_law_cell", "_law_cell", (top 35), false⟩,
  ⟨fun K => He.ga K "_law_draw", "_law_draw", "_law_draw", (top 37), false⟩,
  ⟨fun K => He.ga K "_law_drawn", "_law_drawn", "_law_drawn", (top 46), false⟩,
  ⟨fun K => He.ga K "_law_group_right", "_law_group_right", "_law_group_right", (top 45), false⟩,
  ⟨fun K => He.ga K "_law_high", "_law_high", "_law_high", (top 41), false⟩,
  ⟨fun K => He.ga K "_law_pool", "_law_pool", "_law_pool", (top 36), false⟩,
  ⟨fun K => He.ga K "_law_right", "_law_right", "_law_right", (top 47), false⟩,
  ⟨fun K => He.ga K "_law_scheme", "_law_scheme", "_law_scheme", (top 42), false⟩,
  ⟨fun K => He.ga K "_law_user_right", "_law_user_right", "_law_user_right", (top 44), false⟩,
  ⟨fun K => He.ga K "_law_words", "_law_words", "_law_words", (top 38), false⟩,
  ⟨fun K => He.ga K "build", "build", "build", (top 30), false⟩,
  ⟨fun K => He.ga K "check_user", "check_user", "check_user", (top 33), false⟩,
  ⟨fun K => He.ga K "invalid_path", "invalid_path", "invalid_path", (top 21), false⟩,
  ⟨fun K => He.ga K "is_from", "is_from", "is_from", (top 5), false⟩,
  ⟨fun K => He.ga K "is_group", "is_group", "is_group", (top 19), false⟩,
  ⟨fun K => He.ga K "is_limit", "is_limit", "is_limit", (top 7), false⟩,
  ⟨fun K => He.ga K "is_name", "is_name", "is_name", (top 6), false⟩,
  ⟨fun K => He.ga K "is_node", "is_node", "is_node", (top 20), false⟩]
def dx1 : List DX := [⟨fun K => He.ga K "is_whole", "is_whole", "is_whole", (top 4), false⟩,
  ⟨fun K => He.ga K "law", "law", "law", (top 48), false⟩,
  ⟨fun K => He.ma K (He.ga K "Group") "__init__", "__init__", "Group.__init__", (cst (top 29) 0), true⟩,
  ⟨fun K => gtr K (He.ga K "Group") "members", "members", "Group.members", (cst (top 29) 1), false⟩,
  ⟨fun K => He.ma K (He.ga K "User") "__init__", "__init__", "Node.__init__", (cst (top 27) 0), false⟩,
  ⟨fun K => gtr K (He.ga K "User") "depth", "depth", "Node.depth", (cst (top 27) 2), false⟩,
  ⟨fun K => gtr K (He.ga K "User") "members", "members", "Node.members", (cst (top 27) 1), false⟩,
  ⟨fun K => He.ma K (He.ga K "Tree") "__init__", "__init__", "Tree.__init__", (cst (top 32) 2), false⟩,
  ⟨fun K => He.ma K (He.ga K "Tree") "__len__", "__len__", "Tree.__len__", (cst (top 32) 11), false⟩,
  ⟨fun K => He.ma K (He.ga K "Tree") "around", "around", "Tree.around", (cst (top 32) 16), false⟩,
  ⟨fun K => gtr K (He.ga K "Tree") "groups", "groups", "Tree.groups", (cst (top 32) 9), false⟩,
  ⟨fun K => He.ma K (He.ga K "Tree") "node_of", "node_of", "Tree.node_of", (cst (top 32) 15), false⟩,
  ⟨fun K => gtr K (He.ga K "Tree") "root", "root", "Tree.root", (cst (top 32) 7), false⟩,
  ⟨fun K => gtr K (He.ga K "Tree") "users", "users", "Tree.users", (cst (top 32) 8), false⟩,
  ⟨fun K => He.ma K (He.ga K "Tree") "walk", "walk", "Tree.walk", (cst (top 32) 14), false⟩,
  ⟨fun K => He.ga K "inside", "inside", "inside", (top 31), false⟩]
def dxs : List DX := dx0 ++ dx1
theorem prop_at {S : Stat} {C g g2 : Addr} {m : PySem.Str} (h : g = g2) (p : PropF S C m g) : PropF S C m g2 := h ▸ p
def tests (K : Frag) : Bool := tl.all fun f => f K
abbrev hk : Hook := hookX 6 tests dxs
def ob (s : SharedT) : Bool × List FX := obsXG 6 tests dxs (HandSHeadRun.getT s)
theorem run (w : World) : HandSHeadRun.RunEq R qv hk ob 20000 names w := by
  intro os
  kernel_rfl
def adOf (K : Frag) : Ad where
  Group := He.ga K "Group"
  Group___init__ := He.ma K (He.ga K "Group") "__init__"
  Group_members := gtr K (He.ga K "Group") "members"
  Node___init__ := He.ma K (He.ga K "User") "__init__"
  Node_depth := gtr K (He.ga K "User") "depth"
  Node_members := gtr K (He.ga K "User") "members"
  Tree := He.ga K "Tree"
  Tree___init__ := He.ma K (He.ga K "Tree") "__init__"
  Tree___len__ := He.ma K (He.ga K "Tree") "__len__"
  Tree_around := He.ma K (He.ga K "Tree") "around"
  Tree_groups := gtr K (He.ga K "Tree") "groups"
  Tree_node_of := He.ma K (He.ga K "Tree") "node_of"
  Tree_root := gtr K (He.ga K "Tree") "root"
  Tree_users := gtr K (He.ga K "Tree") "users"
  Tree_walk := He.ma K (He.ga K "Tree") "walk"
  User := He.ga K "User"
  cc_Group := ccOf K (He.ma K (He.ga K "Group") "__init__")
  cda_Group___init__ := cdOf K (He.ma K (He.ga K "Group") "__init__")
  inside := He.ga K "inside"
  it := itK K [He.ga K "User", He.ga K "Group", He.ga K "Tree"]
theorem tget {K : Frag} (c : SaysX tests dxs K) (i : Nat) {f : Frag → Bool} (h : tl[i]? = some f) : f K = true := List.all_eq_true.mp c.test f (List.mem_of_getElem? h)
theorem isf {K : Frag} (c : SaysX tests dxs K) : IsF (adOf K) where
  i0 := of_decide_eq_true (tget c 82 rfl)
  i1 := of_decide_eq_true (tget c 83 rfl)
  i2 := of_decide_eq_true (tget c 84 rfl)
  i3 := of_decide_eq_true (tget c 85 rfl)
  i4 := (if_pos (by simp [adOf])).trans (of_decide_eq_true (tget c 86 rfl))
  i5 := (if_pos (by simp [adOf])).trans (of_decide_eq_true (tget c 87 rfl))
  i6 := (if_pos (by simp [adOf])).trans (of_decide_eq_true (tget c 88 rfl))
  dis := of_decide_eq_true (tget c 89 rfl)
theorem isiOf {K : Frag} (c : SaysX tests dxs K) : IsOk K (adOf K).it := itK_ok fun a h => by
    simp only [List.mem_cons, List.not_mem_nil, or_false] at h
    rcases h with rfl | rfl | rfl
    · exact clsIB_ok (tget c 79 rfl) (He.cls_ok (tget c 47 rfl))
    · exact clsIB_ok (tget c 80 rfl) (He.cls_ok (tget c 45 rfl))
    · exact clsIB_ok (tget c 81 rfl) (He.cls_ok (tget c 46 rfl))

theorem factsOf {S : Stat} (hP : S.P = R.prog) (mod : L2.Mod S.K S.mg S.base) (c : SaysX tests dxs S.K) : Facts S (adOf S.K) := by
  obtain ⟨P0, w, K, mg, base⟩ := S
  subst hP
  exact {
    isi := isiOf c
    c_Group := He.glo_ok mod.kin mod.glob (tget c 0 rfl)
    c_Tree := He.glo_ok mod.kin mod.glob (tget c 1 rfl)
    c_User := He.glo_ok mod.kin mod.glob (tget c 2 rfl)
    d__law_big := let ⟨fd, F⟩ := DX.fun_ (c.at 0 rfl).1 (c.at 0 rfl).2 rfl; ⟨He.ga K "_law_big", fd, He.glo_ok mod.kin mod.glob (tget c 3 rfl), F⟩
    d__law_cap := let ⟨fd, F⟩ := DX.fun_ (c.at 1 rfl).1 (c.at 1 rfl).2 rfl; ⟨He.ga K "_law_cap", fd, He.glo_ok mod.kin mod.glob (tget c 4 rfl), F⟩
    d__law_cell := let ⟨fd, F⟩ := DX.fun_ (c.at 2 rfl).1 (c.at 2 rfl).2 rfl; ⟨He.ga K "_law_cell", fd, He.glo_ok mod.kin mod.glob (tget c 5 rfl), F⟩
    d__law_draw := let ⟨fd, F⟩ := DX.fun_ (c.at 3 rfl).1 (c.at 3 rfl).2 rfl; ⟨He.ga K "_law_draw", fd, He.glo_ok mod.kin mod.glob (tget c 6 rfl), F⟩
    d__law_drawn := let ⟨fd, F⟩ := DX.fun_ (c.at 4 rfl).1 (c.at 4 rfl).2 rfl; ⟨He.ga K "_law_drawn", fd, He.glo_ok mod.kin mod.glob (tget c 7 rfl), F⟩
    d__law_group_right := let ⟨fd, F⟩ := DX.fun_ (c.at 5 rfl).1 (c.at 5 rfl).2 rfl; ⟨He.ga K "_law_group_right", fd, He.glo_ok mod.kin mod.glob (tget c 8 rfl), F⟩
    d__law_high := let ⟨fd, F⟩ := DX.fun_ (c.at 6 rfl).1 (c.at 6 rfl).2 rfl; ⟨He.ga K "_law_high", fd, He.glo_ok mod.kin mod.glob (tget c 9 rfl), F⟩
    d__law_pool := let ⟨fd, F⟩ := DX.fun_ (c.at 7 rfl).1 (c.at 7 rfl).2 rfl; ⟨He.ga K "_law_pool", fd, He.glo_ok mod.kin mod.glob (tget c 10 rfl), F⟩
    d__law_right := let ⟨fd, F⟩ := DX.fun_ (c.at 8 rfl).1 (c.at 8 rfl).2 rfl; ⟨He.ga K "_law_right", fd, He.glo_ok mod.kin mod.glob (tget c 11 rfl), F⟩
    d__law_scheme := let ⟨fd, F⟩ := DX.fun_ (c.at 9 rfl).1 (c.at 9 rfl).2 rfl; ⟨He.ga K "_law_scheme", fd, He.glo_ok mod.kin mod.glob (tget c 12 rfl), F⟩
    d__law_user_right := let ⟨fd, F⟩ := DX.fun_ (c.at 10 rfl).1 (c.at 10 rfl).2 rfl; ⟨He.ga K "_law_user_right", fd, He.glo_ok mod.kin mod.glob (tget c 13 rfl), F⟩
    d__law_words := let ⟨fd, F⟩ := DX.fun_ (c.at 11 rfl).1 (c.at 11 rfl).2 rfl; ⟨He.ga K "_law_words", fd, He.glo_ok mod.kin mod.glob (tget c 14 rfl), F⟩
    d_build := let ⟨fd, F⟩ := DX.fun_ (c.at 12 rfl).1 (c.at 12 rfl).2 rfl; ⟨He.ga K "build", fd, He.glo_ok mod.kin mod.glob (tget c 15 rfl), F⟩
    d_check_user := let ⟨fd, F⟩ := DX.fun_ (c.at 13 rfl).1 (c.at 13 rfl).2 rfl; ⟨He.ga K "check_user", fd, He.glo_ok mod.kin mod.glob (tget c 16 rfl), F⟩
    d_invalid_path := let ⟨fd, F⟩ := DX.fun_ (c.at 14 rfl).1 (c.at 14 rfl).2 rfl; ⟨He.ga K "invalid_path", fd, He.glo_ok mod.kin mod.glob (tget c 17 rfl), F⟩
    d_is_from := let ⟨fd, F⟩ := DX.fun_ (c.at 15 rfl).1 (c.at 15 rfl).2 rfl; ⟨He.ga K "is_from", fd, He.glo_ok mod.kin mod.glob (tget c 18 rfl), F⟩
    d_is_group := let ⟨fd, F⟩ := DX.fun_ (c.at 16 rfl).1 (c.at 16 rfl).2 rfl; ⟨He.ga K "is_group", fd, He.glo_ok mod.kin mod.glob (tget c 19 rfl), F⟩
    d_is_limit := let ⟨fd, F⟩ := DX.fun_ (c.at 17 rfl).1 (c.at 17 rfl).2 rfl; ⟨He.ga K "is_limit", fd, He.glo_ok mod.kin mod.glob (tget c 20 rfl), F⟩
    d_is_name := let ⟨fd, F⟩ := DX.fun_ (c.at 18 rfl).1 (c.at 18 rfl).2 rfl; ⟨He.ga K "is_name", fd, He.glo_ok mod.kin mod.glob (tget c 21 rfl), F⟩
    d_is_node := let ⟨fd, F⟩ := DX.fun_ (c.at 19 rfl).1 (c.at 19 rfl).2 rfl; ⟨He.ga K "is_node", fd, He.glo_ok mod.kin mod.glob (tget c 22 rfl), F⟩
    d_is_whole := let ⟨fd, F⟩ := DX.fun_ (c.at 20 rfl).1 (c.at 20 rfl).2 rfl; ⟨He.ga K "is_whole", fd, He.glo_ok mod.kin mod.glob (tget c 23 rfl), F⟩
    d_law := let ⟨fd, F⟩ := DX.fun_ (c.at 21 rfl).1 (c.at 21 rfl).2 rfl; ⟨He.ga K "law", fd, He.glo_ok mod.kin mod.glob (tget c 24 rfl), F⟩
    fun_Group___init__ := DX.funs (c.at 22 rfl).1 (c.at 22 rfl).2 rfl
    fun_Group_members := DX.fun_ (c.at 23 rfl).1 (c.at 23 rfl).2 rfl
    fun_Node___init__ := DX.fun_ (c.at 24 rfl).1 (c.at 24 rfl).2 rfl
    fun_Node_depth := DX.fun_ (c.at 25 rfl).1 (c.at 25 rfl).2 rfl
    fun_Node_members := DX.fun_ (c.at 26 rfl).1 (c.at 26 rfl).2 rfl
    fun_Tree___init__ := DX.fun_ (c.at 27 rfl).1 (c.at 27 rfl).2 rfl
    fun_Tree___len__ := DX.fun_ (c.at 28 rfl).1 (c.at 28 rfl).2 rfl
    fun_Tree_around := DX.fun_ (c.at 29 rfl).1 (c.at 29 rfl).2 rfl
    fun_Tree_groups := DX.fun_ (c.at 30 rfl).1 (c.at 30 rfl).2 rfl
    fun_Tree_node_of := DX.fun_ (c.at 31 rfl).1 (c.at 31 rfl).2 rfl
    fun_Tree_root := DX.fun_ (c.at 32 rfl).1 (c.at 32 rfl).2 rfl
    fun_Tree_users := DX.fun_ (c.at 33 rfl).1 (c.at 33 rfl).2 rfl
    fun_Tree_walk := DX.fun_ (c.at 34 rfl).1 (c.at 34 rfl).2 rfl
    fun_inside := DX.fun_ (c.at 35 rfl).1 (c.at 35 rfl).2 rfl
    g_inside := He.glo_ok mod.kin mod.glob (tget c 25 rfl)
    k_Group := (He.cls_ok (tget c 45 rfl))
    k_Tree := (He.cls_ok (tget c 46 rfl))
    k_User := (He.cls_ok (tget c 47 rfl))
    me_Tree___len__ := He.meth_ok (tget c 48 rfl)
    me_Tree_around := He.meth_ok (tget c 49 rfl)
    me_Tree_node_of := He.meth_ok (tget c 50 rfl)
    me_Tree_walk := He.meth_ok (tget c 51 rfl)
    mk_Group := He.mkr_ok (tget c 52 rfl)
    mk_Tree := He.mkr_ok (tget c 53 rfl)
    mk_User := He.mkr_ok (tget c 54 rfl)
    n_abs := He.free_ok mod.kin mod.glob (tget c 26 rfl)
    n_all := He.free_ok mod.kin mod.glob (tget c 27 rfl)
    n_bool := He.free_ok mod.kin mod.glob (tget c 28 rfl)
    n_divmod := He.free_ok mod.kin mod.glob (tget c 29 rfl)
    n_enumerate := He.free_ok mod.kin mod.glob (tget c 30 rfl)
    n_int := He.free_ok mod.kin mod.glob (tget c 31 rfl)
    n_isinstance := He.free_ok mod.kin mod.glob (tget c 32 rfl)
    n_len := He.free_ok mod.kin mod.glob (tget c 33 rfl)
    n_list := He.free_ok mod.kin mod.glob (tget c 34 rfl)
    n_max := He.free_ok mod.kin mod.glob (tget c 35 rfl)
    n_min := He.free_ok mod.kin mod.glob (tget c 36 rfl)
    n_range := He.free_ok mod.kin mod.glob (tget c 37 rfl)
    n_sorted := He.free_ok mod.kin mod.glob (tget c 38 rfl)
    n_str := He.free_ok mod.kin mod.glob (tget c 39 rfl)
    n_tuple := He.free_ok mod.kin mod.glob (tget c 40 rfl)
    na_Group_level := He.noat_ok (tget c 55 rfl)
    na_Group_limit := He.noat_ok (tget c 56 rfl)
    na_Group_name := He.noat_ok (tget c 57 rfl)
    na_Group_parts := He.noat_ok (tget c 58 rfl)
    na_Tree_heads := He.noat_ok (tget c 59 rfl)
    na_Tree_shape := He.noat_ok (tget c 60 rfl)
    na_Tree_top := He.noat_ok (tget c 61 rfl)
    na_User_level := He.noat_ok (tget c 62 rfl)
    na_User_limit := He.noat_ok (tget c 63 rfl)
    na_User_name := He.noat_ok (tget c 64 rfl)
    p_Group_depth := prop_at (of_decide_eq_true (tget c 66 rfl)) (propB_ok (tget c 65 rfl) (He.cls_ok (tget c 45 rfl)))
    p_Group_members := propB_ok (tget c 67 rfl) (He.cls_ok (tget c 45 rfl))
    p_Tree_groups := propB_ok (tget c 68 rfl) (He.cls_ok (tget c 46 rfl))
    p_Tree_root := propB_ok (tget c 69 rfl) (He.cls_ok (tget c 46 rfl))
    p_Tree_users := propB_ok (tget c 70 rfl) (He.cls_ok (tget c 46 rfl))
    p_User_depth := propB_ok (tget c 71 rfl) (He.cls_ok (tget c 47 rfl))
    p_User_members := propB_ok (tget c 72 rfl) (He.cls_ok (tget c 47 rfl))
    q_inside := (Bool.and_eq_true_iff.mp (c.at 35 rfl).2).1
    sfn := (tget c 73 rfl)
    smro := of_decide_eq_true (tget c 74 rfl)
    ssup := He.eqO_ok (tget c 75 rfl)
    stf := of_decide_eq_true (tget c 76 rfl)
    sup_Group___init__ := supB_ok (tget c 77 rfl) (DX.funs (c.at 22 rfl).1 (c.at 22 rfl).2 rfl) (by rfl) (by rfl) (He.free_ok mod.kin mod.glob (tget c 78 rfl)) (by rfl)
    v_LETTERS := He.str_ok mod.kin mod.glob (tget c 41 rfl)
    v_MAX_DEPTH := He.int_ok mod.kin mod.glob (tget c 42 rfl)
    v_MAX_GROUPS := He.int_ok mod.kin mod.glob (tget c 43 rfl)
    v_MAX_USERS := He.int_ok mod.kin mod.glob (tget c 44 rfl) }
theorem law_holds (math : ∀ (ad : Ad), IsF ad → ∀ ns : List Int, ns.length ≤ 63 → ∃ hs', f_law ad [.lst (ns.map D.int)] [] = .ok (.bl true) hs') : PySem.Challenge.rw_quotaorders_k87_whole_walk_around_and_me.Holds := by
  w_on; o_law
  refine law_rowK (l := PySem.Challenge.rw_quotaorders_k87_whole_walk_around_and_me) (n := 63) (k := 47) (q := qv) (H := hk) (ob := ob) (M := 20000) (loose := names) (d := HandSHeadRun.topDef (OpenLaw.row PySem.Challenge.rw_quotaorders_k87_whole_walk_around_and_me).prog 48) (fun s => obsXG_eq (HandSHeadRun.getT_eq s))
    (by kernel_rfl) (fun s => by kernel_rfl) run (by kernel_rfl) (by kernel_rfl) (by kernel_rfl) (by rfl) (by first | assumption | decide +kernel) (by decide +kernel) ⟨rfl, rfl, rfl, rfl, rfl, by decide +kernel⟩ ?hw rfl (by decide) (by kernel_rfl) ⟨⟨rfl, by decide, by decide⟩, rfl⟩ ?F
  case hw => w_witness2
  case F =>
    intro w mg fa h Y G hmg
    obtain ⟨K, KX, c⟩ := Y
    have hmg : mg ("law" : PySem.Str) = some (.ref fa) := by
      have e : (HandSHeadRun.topDef (OpenLaw.row PySem.Challenge.rw_quotaorders_k87_whole_walk_around_and_me).prog 48).name = ("law" : PySem.Str) := by kernel_rfl
      rw [← e]; exact hmg
    have e := hmg.symm.trans (He.glo_ok KX G (tget c 24 rfl))
    cases e
    refine ⟨K, f_law (adOf K), KX, fun ns hl => math _ (isf c) ns hl, fun base mod => ?_⟩
    obtain ⟨f, fd', ps, a1, a2, a3, a4⟩ := ok_law (factsOf (S := ⟨PySem.Challenge.rw_quotaorders_k87_whole_walk_around_and_me.prog, w, K, mg, base⟩) rfl mod c)
    have a1 : mg ("law" : PySem.Str) = some (.ref f) := a1
    rw [hmg] at a1
    cases a1
    exact ⟨fd', ps, a3, a4⟩
end Qo
theorem PySem.Challenge.cw_quotaorders_k87_whole_walk_around_and_me_holds : PySem.Challenge.rw_quotaorders_k87_whole_walk_around_and_me.Holds := by
  exact Qo.law_holds fun ad I ns hn => Qo.math I hn
