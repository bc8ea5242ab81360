import PyProof.Rows.All
import Wide.All
import OpenK.AllK
import Wide.FinOn
import Lean
import PySem.Challenge.RW_nt0555_01
set_option Elab.async false
set_option linter.all false
section
open PySem PySem.Spec PySem.Calls PySem.W PyProof.Rows
open Sem (wp)
set_option Elab.async false
set_option maxRecDepth 100000
namespace Mine
/-! wpAny over the contexts alone that have the claim's caller below: only there is it known that no decoder holds a bytearray -/
def callerCode : Code := .builtin "claim.caller" {}
/-- these codes lie below, the newest first -/
def Has (cs : List Code) (Γ : PySem.Ctx) : Prop := List.Sublist cs (Γ.below.map (·.1))
theorem Has.enter {cs : List Code} {Γ : PySem.Ctx} (h : Has cs Γ) (c : Code) (hd : Option Value) (p : Pos) : Has cs (Γ.enter c hd p) := h.cons _
theorem Has.own {cs : List Code} {Γ : PySem.Ctx} (h : Has cs Γ) {c' : Code} (hc : Γ.code = c') (c : Code) (hd : Option Value) (p : Pos) : Has (c' :: cs) (Γ.enter c hd p) := by
  subst hc
  exact h.cons_cons _
theorem Has.goto {cs : List Code} {Γ : PySem.Ctx} (h : Has cs Γ) (c : Code) : Has cs (Γ.goto c) := h

def wpG {α : Type} (cs : List Code) (M : Model) (A : Around) (t : Sem α) (Q : α → Shared → Prop) (s : Shared) : Prop :=
  ∀ (Γ : PySem.Ctx) (p : Pos), Γ.In A → Has cs Γ → wp M Γ t (fun a _ s' => Q a s') (fun _ _ _ => False) p s
def codeG (cs : List Code) (M : Model) (A : Around) (c : Code) (R : Result → Shared → Prop) (s : Shared) : Prop :=
  ∀ (Γ : PySem.Ctx) (p : Pos), Γ.code = c → Γ.Below A → Has cs Γ → wpCode M Γ R p s
/-- what a value gives on -/
def RetG (Q : Value → Shared → Prop) (r : Result) (s : Shared) : Prop := match r with | .ok (.ret v) => Q v s | _ => False
def FlowG (Q : Flow → Shared → Prop) (r : Result) (s : Shared) : Prop := match r with | .ok f => Q f s | _ => False
def NextG (P : Shared → Prop) (Q : Flow → Shared → Prop) (f : Flow) (s : Shared) : Prop := match f with | .next => P s | f => Q f s

section
variable {α β : Type} {cs : List Code} {M : Model} {A : Around} {s : Shared}
theorem wpG_of {t : Sem α} {Q : α → Shared → Prop} (h : wpAny M A t Q (fun _ _ => False) s) : wpG cs M A t Q s := fun Γ p hΓ _ => h Γ p hΓ
theorem wpG_pure {a : α} {Q : α → Shared → Prop} (h : Q a s) : wpG cs M A (pure a) Q s := fun _ _ _ _ => h
theorem wpG_mono {t : Sem α} {Q Q' : α → Shared → Prop} (h : wpG cs M A t Q s) (hQ : ∀ a s, Q a s → Q' a s) : wpG cs M A t Q' s :=
  fun Γ p hΓ hg => Sem.wp_mono M Γ t (fun a _ s => hQ a s) (fun _ _ _ x => x) p s (h Γ p hΓ hg)
theorem wpG_bind {m : Sem α} {f : α → Sem β} {Q : β → Shared → Prop} (h : wpG cs M A m (fun a s' => wpG cs M A (f a) Q s') s) : wpG cs M A (m >>= f) Q s := fun Γ p hΓ hg => by
  rw [Sem.wp_bind']
  exact Sem.wp_mono M Γ m (fun a p' s' h' => h' Γ p' hΓ hg) (fun _ _ _ x => x) p s (h Γ p hΓ hg)
theorem wpG_standAt {pos : Pos} {Q : Unit → Shared → Prop} (h : Q () s) : wpG cs M A (standAt pos) Q s := wpG_of (wpAny_standAt h)
theorem wpG_holding {vs : List Value} {m : Sem α} {Q : α → Shared → Prop} (h : wpG cs M A m Q s) : wpG cs M A (holding vs m) Q s :=
  fun Γ p hΓ hg => by rw [Sem.wp_holding]; exact h Γ p hΓ hg
theorem wpG_onRaise {m : Sem α} {k : Value → Sem Unit} {Q : α → Shared → Prop} (h : wpG cs M A m Q s) : wpG cs M A (m.onRaise k) Q s := fun Γ p hΓ hg => by
  rw [Sem.wp_onRaise]
  exact Sem.wp_mono M Γ m (fun _ _ _ x => x) (fun _ _ _ x => x.elim) p s (h Γ p hΓ hg)
theorem codeG_mono {c : Code} {R R' : Result → Shared → Prop} (h : codeG cs M A c R s) (hR : ∀ r s, R r s → R' r s) : codeG cs M A c R' s :=
  fun Γ p hc hΓ hg => wpCode_mono hR (h Γ p hc hΓ hg)
theorem wpG_run {c : Code} {Q : Flow → Shared → Prop} (hc : codeG cs M A c (FlowG Q) s) : wpG cs M A (run c none) Q s := fun Γ p hΓ hg => by
  rw [Sem.wp_run]
  refine wpCode_mono (fun r s' h => ?_) (hc _ p rfl (hΓ.enter c none p (by intro x; cases x)) (hg.enter c none p))
  cases r <;> exact h
theorem wpG_runOwn {c : Code} {env : Env} {Q : Flow → Shared → Prop} (hc : codeG cs M A c (FlowG Q) s) : wpG cs M A (runOwn c env) Q s := by
  unfold runOwn
  exact wpG_onRaise (wpG_run hc)
theorem wpG_call {f : Value} {pos : List Value} {Q : Value → Shared → Prop} (hc : codeG cs M A (.call f ⟨pos, []⟩) (RetG Q) s) : wpG cs M A (call f pos) Q s := fun Γ p hΓ hg => by
  show wp M Γ (runValue (.call f ⟨pos, []⟩)) _ _ p s
  rw [Sem.wp_runValue]
  refine wpCode_mono (fun r s' h => ?_) (hc _ p rfl (hΓ.enter _ none p (by intro x; cases x)) (hg.enter _ none p))
  cases r with
  | error e => exact h
  | ok f => cases f <;> exact h
theorem codeG_of_tree {c : Code} {R : Result → Shared → Prop}
    (h : wpG cs M (A.under c) (M.den c) (fun fin s' => match fin with | .done f => R (.ok f) s' | .again c' => c'.quiet = true ∧ codeG cs M A c' R s') s) : codeG cs M A c R s := fun Γ p hc hΓ hg => by
  rw [wpCode_iff_wp, hc]
  refine Sem.wp_mono M Γ _ (fun fin p' s' h' => ?_) (fun _ _ _ h' => h'.elim) p s (h Γ p (hc ▸ hΓ.in) hg)
  cases fin with
  | done f => exact h'
  | again c' => exact ⟨h'.1, h'.2 (Γ.goto c') p' rfl (hΓ.goto c') (hg.goto c')⟩
theorem codeG_loop {c : Code} {R : Result → Shared → Prop} (hq : c.quiet = true) (I : Nat → Shared → Prop)
    (turn : ∀ n s, I n s → wpG cs M (A.under c) (M.den c) (fun fin s' => match fin with | .done f => R (.ok f) s' | .again c' => c' = c ∧ ∃ m, m < n ∧ I m s') s)
    (n : Nat) (h : I n s) : codeG cs M A c R s := by
  induction n using Nat.strongRecOn generalizing s with
  | ind n ih =>
    refine codeG_of_tree (wpG_mono (turn n s h) fun fin s' hf => ?_)
    cases fin with
    | done f => exact hf
    | again c' => obtain ⟨rfl, m, hm, hI⟩ := hf; exact ⟨hq, ih m hm hI⟩
end

section
variable {cs : List Code} {M : Model} {A : Around} {s : Shared} {env : Env}
theorem wpG_execs_nil {Q : Flow → Shared → Prop} (h : Q .next s) : wpG cs M A (execs [] env) Q s := wpG_pure h
/-- a statement that does not need the caller, then the rest -/
theorem wpG_execs_any {st : Stmt} {rest : List Stmt} {Q : Flow → Shared → Prop} (h : wpAny M A (exec st env) (NextG (fun s' => wpG cs M A (execs rest env) Q s') Q) (fun _ _ => False) s) : wpG cs M A (execs (st :: rest) env) Q s := by
  rw [execs_cons]
  refine wpG_bind (wpG_mono (wpG_of h) fun f s' h' => ?_)
  cases f <;> first | exact h' | exact wpG_pure h'
theorem wpG_execs_cons {st : Stmt} {rest : List Stmt} {Q : Flow → Shared → Prop} (h : wpG cs M A (exec st env) (NextG (fun s' => wpG cs M A (execs rest env) Q s') Q) s) : wpG cs M A (execs (st :: rest) env) Q s := by
  rw [execs_cons]
  refine wpG_bind (wpG_mono h fun f s' h' => ?_)
  cases f <;> first | exact h' | exact wpG_pure h'
theorem wpG_If {test : Expr} {body orelse : List Stmt} {pos : Pos} {Q : Flow → Shared → Prop}
    (h : wpAny M A (isTrue test env (eval test env)) (fun b s₂ => if b = true then wpG cs M A (execs body env) Q s₂ else wpG cs M A (execs orelse env) Q s₂) (fun _ _ => False) s) : wpG cs M A (exec (.If test body orelse pos) env) Q s := by
  rw [exec_If]
  refine wpG_bind (wpG_standAt (wpG_bind (wpG_mono (wpG_of h) fun b s₂ h₂ => ?_)))
  cases b <;> exact h₂
theorem wpG_While {test : Expr} {body orelse : List Stmt} {pos : Pos} {Q : Flow → Shared → Prop} (h : codeG cs M A (.whileLoop test body orelse env) (FlowG Q) s) : wpG cs M A (exec (.While test body orelse pos) env) Q s := by
  rw [exec_While]; exact wpG_bind (wpG_standAt (wpG_runOwn h))
/-- an expression as a statement; its value is no object -/
theorem wpG_Expr {e : Expr} {pos : Pos} {Q : Flow → Shared → Prop} (h : wpG cs M A (eval e env) (fun v s' => (∀ a, v ≠ .ref a) ∧ Q .next s') s) (hi : interactive env = false := by rfl) (hs : swapsWith e none pos.line env = pure false := by rfl) : wpG cs M A (exec (.Expr e pos) env) Q s := by
  rw [exec_Expr env e pos hi hs]
  refine wpG_bind (wpG_standAt (wpG_bind (wpG_mono h fun v s' h' => ?_)))
  rw [dropValue_plain h'.1]
  exact wpG_pure h'.2
theorem wpG_Assign_Name {x : Str} {pos' pos : Pos} {value : Expr} {Q : Flow → Shared → Prop}
    (h : wpG cs M A (eval value env) (fun v s₁ => wpAny M A (storeName env x v) (fun _ => Q .next) (fun _ _ => False) s₁) s)
    (hs : swapsWith value (some (.Name x pos')) pos.line env = pure false := by rfl) : wpG cs M A (exec (.Assign [.Name x pos'] value pos) env) Q s := by
  rw [exec_Assign_Name env x pos' value pos hs]
  exact wpG_bind (wpG_standAt (wpG_bind (wpG_mono h fun v s₁ h₁ => wpG_bind (wpG_standAt (wpG_bind (wpG_of (wpAny_bindName (wpAny_mono h₁ (fun _ _ q => wpG_pure q) fun _ _ x => x))))))))
/-- o.name(args): the receiver, the method and the arguments without the caller, the call with it -/
theorem wpG_Method {o : Expr} {name : Str} {apos pos : Pos} {args : List Expr} {pl : Sem Bool} {Q : Value → Shared → Prop}
    (h : wpAny M A (eval o env) (fun ov s₁ => wpAny M A (getMethod ov name pl) (fun fx s₂ => wpG cs M A (callWith pos fx.1 fx.2 (backTo pos (starEach args env)) []) Q s₂) (fun _ _ => False) s₁) (fun _ _ => False) s)
    (he : eval (.Call (.Attribute o name apos) args [] pos) env = (do
      let ov ← eval o env
      standAt apos.atName
      let (f, first) ← holding [ov] (getMethod ov name pl)
      callWith pos f first (backTo pos (starEach args env)) []) := by rfl) :
    wpG cs M A (eval (.Call (.Attribute o name apos) args [] pos) env) Q s := by
  rw [he]
  exact wpG_bind (wpG_mono (wpG_of h) fun ov s₁ h₁ => wpG_bind (wpG_standAt (wpG_bind (wpG_holding (wpG_of h₁)))))
end
end Mine
end
section
open PySem PySem.Spec PySem.Calls PySem.W PyProof.Rows
open Sem (wp)
set_option Elab.async false
set_option maxRecDepth 100000
namespace Mine
/-! the head again, for a law that is known to stand right above the claim's caller -/
def wpR {α : Type} (M : Model) (t : Sem α) (Q : α → Shared → Prop) (s : Shared) : Prop :=
  ∀ p, wp M ⟨callerCode, none, none, [], none⟩ t (fun a _ s' => Q a s') (fun _ _ _ => False) p s
section
variable {α β : Type} {M : Model} {s : Shared}
theorem wpR_of {t : Sem α} {Q : α → Shared → Prop} (h : wpAny M callerA t Q (fun _ _ => False) s) : wpR M t Q s := fun p => h _ p caller_in
theorem wpR_bind {m : Sem α} {f : α → Sem β} {Q : β → Shared → Prop} (h : wpR M m (fun a s' => wpR M (f a) Q s') s) : wpR M (m >>= f) Q s := fun p => by
  rw [Sem.wp_bind']
  exact Sem.wp_mono M _ m (fun a p' s' h' => h' p') (fun _ _ _ x => x) p s (h p)
theorem wpR_call {f : Value} {vs : List Value} {Q : Value → Shared → Prop} (h : codeG [callerCode] M callerA (.call f ⟨vs, []⟩) (RetG Q) s) : wpR M (call f vs) Q s := fun p => by
  show wp M _ (runValue (.call f ⟨vs, []⟩)) _ _ p s
  rw [Sem.wp_runValue]
  refine wpCode_mono (fun r s' h => ?_) (h _ p rfl (caller_in.enter _ none p (by intro x; cases x)) (List.Sublist.refl _))
  cases r with
  | error e => exact h
  | ok f => cases f <;> exact h
end
/-- what the head asks of the walk -/
abbrev WalkG (q : Program) (loose : List Str) (XP : (Str → Option Value) → Heap → Prop) (YP : World → Heap → Prop) (r : RowW) (d : DefRec) (kwd : List (Str × Expr)) : Prop :=
  ∀ (w : World) (s₀ s₁ : Shared) (mg mb : Str → Option Value), Ground q loose r.records XP w s₀ mg mb s₁.heap → YP w s₁.heap → ∀ (a : Addr) (o : Obj) (pm cd doc dV kV : Value), s₁.heap.get? a = some o →
    o.data = .func { docDef d.name d.params d.body d.scope pm cd doc with defaults := dV, kwdefaults := kV } → s₁.heap.CodeRec cd d.name → Dflts mg s₁.heap d.params kwd dV kV → mg d.name = some (.ref a) → s₁.gens = #[] →
    ∀ (args : List WData) (vals : List Value) (as : List Addr), r.claim.pre args = true → WData.layableAll args = true → ReadsAllW r.records (classAt s₀.heap) s₁.heap vals args as → WellAll w.params s₁.heap vals args → (∀ a ∈ as, (a == sysModules) = false) →
      codeG [callerCode] (model r.prog w) callerA (.call (.ref a) ⟨vals, []⟩) (RetG fun v s' => GoodWG r.claim (classAt s₀.heap) (ExcName.means s₀.heap) args s₁ (.ok (.ret v)) s') s₁

theorem _root_.Mine.PySem.W.holds_open {r : OpenRow} {q : Program} {loose : List Str} {Xt : Shared → Bool} {XP : (Str → Option Value) → Heap → Prop} {α : Type} {Yf : Shared → α} {Ya : World → α} {YP : World → Heap → Prop} {d : DefRec} {kwd : List (Str × Expr)} {N : Nat}
    (left : LeftO r.prog q loose Xt Yf Ya N) (hY : ∀ w s, Yf s = Ya w → YP w s.heap) (hYk : ∀ w h h', YP w h → (∀ b o, h.get? b = some o → h'.get? b = some o) → YP w h')
    (hX : ∀ s, Xt s = true → XP (s.heap.nsMap mainGlobals) s.heap) (hXk : ∀ mg h h', XP mg h → (∀ b o, h.get? b = some o → h'.get? b = some o) → XP mg h')
    (hdef : defOf q r.name = some (d, kwd)) (hp : r.prog.theDef r.name = some (d.params, d.body, d.scope)) (hk : kwWritten? d.params.kwonlyargs d.params.kw_defaults = some kwd) (hRf : ∀ s, Xt s = true → RecFacts r.records s.heap) (hwr : (!r.writes || r.records.isEmpty) = true)
    (k1 : r.wellSaid = true) (ok : (chainsOk q && opensWell r.prog && (frees r.toRowW && r.within.isEmpty)) = true) (hb : r.prog.bare) (hw : r.toRowW.promised)
    (call : WalkG q loose XP YP r.toRowW d kwd) : r.Holds := by
  simp only [Bool.and_eq_true] at ok
  obtain ⟨⟨hch, ho⟩, hfr, hwi⟩ := ok
  obtain ⟨hsame, hun, hal, hap, hmk⟩ := frees_parts hfr
  have within0 : r.toRowW.claim.within = [] := List.isEmpty_iff.mp hwi
  refine ⟨k1, hw, ⟨hb, ho, by show r.toRowW.makers.map _ = []; rw [hmk]; rfl⟩, hw.witness, fun w => ?_⟩
  have top := left.behind (XP := fun mg h => XP mg h ∧ RecFacts r.records h) (fun s e => ⟨hX s e, hRf s e⟩) hch w
  refine ⟨top.1, fun s' hs' => ?_⟩
  obtain ⟨sF, eF, gF, s, ran, asl, g0, hns, GX, ey⟩ := top.2 s' hs'
  have gens0 : s.gens = #[] := Array.eq_empty_of_size_eq_zero (beq_iff_eq.mp g0)
  have G0 : Ground q loose [] XP w s (s.heap.nsMap mainGlobals) (s.heap.nsMap builtinsNs) s.heap := { GX with X := GX.X.1 }
  have GR := GX.X.2.ground G0
  refine ⟨sF, eF, gF, s, ran, fun n hn => ?_, GX.X.2.1, GX.X.2.2.1, fun args hpre hlay ord hord => ?_⟩
  · obtain rfl : n = r.name := by split at hn <;> simp_all
    exact pinned_of_view hns G0 hdef hp hk
  obtain ⟨⟨vs, s₁⟩, laid⟩ := Option.isSome_iff_exists.mp (layAllW_isSome (P := w.params) (ord := ord) GR.has args r.args s (pre_splitW hpre).1)
  have kept := layAllW_keeps _ _ _ laid
  have rest := layAllW_rest _ _ _ laid
  obtain ⟨as, hrd, hin, hold⟩ := reads_layAllW hord _ _ _ laid hlay s₁.heap (fun _ _ e => e)
  have L : Laid r.records w s s₁ args vs as := ⟨⟨ord, hord, laid⟩, hrd, hin, hold, kept, rest.1.trans gens0, rest.2.2.1⟩
  have G₁ := GR.keeps hXk kept
  obtain ⟨a, o, pm, cd, doc, dV, kV, f1, f2, f3, f4, f5⟩ := G₁.fn hdef
  have run := call w s s₁ _ _ G₁ (hYk _ _ _ (hY w s ey) kept) a o pm cd doc dV kV f2 f3 f4 f5 (defOf_name hdef ▸ f1) L.gens args vs as hpre hlay L.reads L.well (L.low GR.low)
  have tree : wpR (model r.prog w) (callStub r.name vs).cur (fun fin s' => ∃ f, fin = .done f ∧ ((r.toRowW.claim.Ends s args vs s₁ (.ok f) s' ∧ s'.os = s.os ∧ (r.writes = true → namesKept r.prog r.keeps s.heap s'.heap ∧ ∀ x ∈ r.records, ∀ a, classAt s.heap x.1 = some a → recordClass s'.heap a x.1 (x.2.map (·.1)) = true)) ∧ leftWithCleanup s'.gens = false)) s₁ := by
    refine wpR_bind (wpR_of (wpAny_nsGet G₁.T.g ?_))
    rw [f1]
    refine wpR_bind (fun p => Sem.wp_mono _ _ _ (fun v p' s' g => ?_) (fun _ _ _ x => x) _ _ (wpR_call run p))
    have z := GoodWG.laid (c := r.toRowW.claim) hsame within0 (ident_freeW hun hal hap) L g
    exact fun _ => ⟨_, rfl, ⟨z.1, z.2.1, fun q => ⟨namesKept_of ran hns r.keeps kept g.2.1.old, noTable hwr q⟩⟩, leftWithCleanup_false_of_bare z.2.2⟩
  obtain ⟨n, rr, s2, s3, hs, hn, hfo, hR⟩ := wp_halts_full (M := model r.prog w) (R := fun rr s' => r.toRowW.claim.Ends s args vs s₁ rr s' ∧ s'.os = s.os ∧ (r.writes = true → namesKept r.prog r.keeps s.heap s'.heap ∧ ∀ x ∈ r.records, ∀ a, classAt s.heap x.1 = some a → recordClass s'.heap a x.1 (x.2.map (·.1)) = true))
    (Shared.asleep_of_life rest.2.2.2 asl) (Sem.wp_mono _ _ _ (fun fin p' s' h' => by obtain ⟨f, rfl, hf⟩ := h'; exact hf) (fun _ _ _ x => x.elim) _ _ (tree default))
  obtain ⟨eh, _, _, eo, _⟩ := Shared.forget_eq hfo
  have hlife := (runN_life _ _ _ hn).trans rest.2.2.2
  obtain ⟨hE, hos, hkp⟩ := hR
  have hE := hE.congr eh
  refine ⟨vs, s₁, laid, n, _, s3, hs, ?_, (fun _ i x hx => by rw [gens0] at hx; simp at hx), by rw [eh]; exact hkp, by rw [hlife], Shared.rest_eq (eo.trans hos)⟩
  rcases hE with ⟨v, rfl, d1, d2, d3, d4, d5⟩ | ⟨e, ob, cls, rfl, d1, d2, d3, d4, d5⟩
  · exact .inl ⟨v, rfl, d1, d2, d3, fun b o y _ => d4 b o y, d5⟩
  · exact .inr ⟨e, ob, cls, rfl, d1, d2, d3, d4, fun b o y _ => d5 b o y⟩
end Mine
end
section
open PySem PySem.W PyProof.Rows
set_option Elab.async false
set_option maxRecDepth 100000
set_option linter.unusedVariables false
set_option maxHeartbeats 8000000
namespace Mine.Lit
/-- a row of the same text under which the head lays down its literals and asks nothing -/
theorem _root_.Mine.Lit.PySem.W.holds_open {r : OpenRow} {q : Program} {loose : List Str} {Xt : Shared → Bool} {XP : (Str → Option Value) → Heap → Prop} {α : Type} {Yf : Shared → α} {Ya : World → α} {YP : World → Heap → Prop} {N : Nat}
    (left : True) (hY : ∀ w s, Yf s = Ya w → YP w s.heap) (hYk : ∀ w h h', YP w h → (∀ b o, h.get? b = some o → h'.get? b = some o) → YP w h')
    (hX : ∀ s, Xt s = true → XP (s.heap.nsMap mainGlobals) s.heap) (hXk : ∀ mg h h', XP mg h → (∀ b o, h.get? b = some o → h'.get? b = some o) → XP mg h')
    (hdef : 0 = 0) (hp : 0 = 0) (hk : 0 = 0) (hRf : ∀ s, Xt s = true → RecFacts r.records s.heap) (hwr : 0 = 0)
    (k1 : 0 = 0) (ok : 0 = 0) (hb : 0 = 0 ∧ 0 = 0 ∧ 0 = 0 ∧ 0 = 0 ∧ 0 = 0 ∧ True) (hw : True)
    (call : r.Holds) : r.Holds := call
theorem lt (h : OpenRow.Holds PySem.Challenge.rw_nt0555_01.row) : OpenRow.Holds PySem.Challenge.rw_nt0555_01.row := by
  have z : True ∧ True ∧ OpenRow.Holds PySem.Challenge.rw_nt0555_01.row := ⟨?hl, ?hw, ?hc⟩
  rotate_left
  exact trivial
  exact trivial
  exact h
  k_head
end Mine.Lit
end
section
open PySem PySem.W PyProof.Rows
set_option Elab.async false
namespace Mine
/-! many at once: one step instead of a case for each part -/
theorem and2 {P p0 p1 : Prop} (h : p0 ∧ p1) (k : p0 → p1 → P) : P := k h.1 h.2
theorem and3 {P p0 p1 p2 : Prop} (h : p0 ∧ p1 ∧ p2) (k : p0 → p1 → p2 → P) : P := k h.1 h.2.1 h.2.2
theorem and5 {P p0 p1 p2 p3 p4 : Prop} (h : p0 ∧ p1 ∧ p2 ∧ p3 ∧ p4) (k : p0 → p1 → p2 → p3 → p4 → P) : P := k h.1 h.2.1 h.2.2.1 h.2.2.2.1 h.2.2.2.2
theorem and9 {P p0 p1 p2 p3 p4 p5 p6 p7 p8 : Prop} (h : p0 ∧ p1 ∧ p2 ∧ p3 ∧ p4 ∧ p5 ∧ p6 ∧ p7 ∧ p8) (k : p0 → p1 → p2 → p3 → p4 → p5 → p6 → p7 → p8 → P) : P := k h.1 h.2.1 h.2.2.1 h.2.2.2.1 h.2.2.2.2.1 h.2.2.2.2.2.1 h.2.2.2.2.2.2.1 h.2.2.2.2.2.2.2.1 h.2.2.2.2.2.2.2.2
theorem ex1and3 {A0 : Sort _} {p0 p1 p2 : A0 → Prop} {P : Prop} (h : ∃ x0, p0 x0 ∧ p1 x0 ∧ p2 x0) (k : ∀ x0, p0 x0 → p1 x0 → p2 x0 → P) : P := match h with | ⟨x0, h0, h1, h2⟩ => k x0 h0 h1 h2
theorem ex1and4 {A0 : Sort _} {p0 p1 p2 p3 : A0 → Prop} {P : Prop} (h : ∃ x0, p0 x0 ∧ p1 x0 ∧ p2 x0 ∧ p3 x0) (k : ∀ x0, p0 x0 → p1 x0 → p2 x0 → p3 x0 → P) : P := match h with | ⟨x0, h0, h1, h2, h3⟩ => k x0 h0 h1 h2 h3
theorem ex1and5 {A0 : Sort _} {p0 p1 p2 p3 p4 : A0 → Prop} {P : Prop} (h : ∃ x0, p0 x0 ∧ p1 x0 ∧ p2 x0 ∧ p3 x0 ∧ p4 x0) (k : ∀ x0, p0 x0 → p1 x0 → p2 x0 → p3 x0 → p4 x0 → P) : P := match h with | ⟨x0, h0, h1, h2, h3, h4⟩ => k x0 h0 h1 h2 h3 h4
theorem ex3and2 {A0 : Sort _} {A1 : Sort _} {A2 : Sort _} {p0 p1 : A0 → A1 → A2 → Prop} {P : Prop} (h : ∃ x0 x1 x2, p0 x0 x1 x2 ∧ p1 x0 x1 x2) (k : ∀ x0 x1 x2, p0 x0 x1 x2 → p1 x0 x1 x2 → P) : P := match h with | ⟨x0, x1, x2, h0, h1⟩ => k x0 x1 x2 h0 h1
theorem cj1 {p q : Prop} (h : p ∧ q) : p := h.1
theorem cj2 {a1 p q : Prop} (h : a1 ∧ p ∧ q) : p := h.2.1
theorem cj3 {a1 a2 p q : Prop} (h : a1 ∧ a2 ∧ p ∧ q) : p := h.2.2.1
theorem cj4 {a1 a2 a3 p q : Prop} (h : a1 ∧ a2 ∧ a3 ∧ p ∧ q) : p := h.2.2.2.1
theorem cj5 {a1 a2 a3 a4 p q : Prop} (h : a1 ∧ a2 ∧ a3 ∧ a4 ∧ p ∧ q) : p := h.2.2.2.2.1
theorem cj6 {a1 a2 a3 a4 a5 p q : Prop} (h : a1 ∧ a2 ∧ a3 ∧ a4 ∧ a5 ∧ p ∧ q) : p := h.2.2.2.2.2.1
theorem cj7 {a1 a2 a3 a4 a5 a6 p q : Prop} (h : a1 ∧ a2 ∧ a3 ∧ a4 ∧ a5 ∧ a6 ∧ p ∧ q) : p := h.2.2.2.2.2.2.1
theorem cj8 {a1 a2 a3 a4 a5 a6 a7 p q : Prop} (h : a1 ∧ a2 ∧ a3 ∧ a4 ∧ a5 ∧ a6 ∧ a7 ∧ p ∧ q) : p := h.2.2.2.2.2.2.2.1
theorem cj9 {a1 a2 a3 a4 a5 a6 a7 a8 p q : Prop} (h : a1 ∧ a2 ∧ a3 ∧ a4 ∧ a5 ∧ a6 ∧ a7 ∧ a8 ∧ p ∧ q) : p := h.2.2.2.2.2.2.2.2.1
theorem cl2 {a1 p : Prop} (h : a1 ∧ p) : p := h.2
theorem cl3 {a1 a2 p : Prop} (h : a1 ∧ a2 ∧ p) : p := h.2.2
theorem cl4 {a1 a2 a3 p : Prop} (h : a1 ∧ a2 ∧ a3 ∧ p) : p := h.2.2.2
theorem cl5 {a1 a2 a3 a4 p : Prop} (h : a1 ∧ a2 ∧ a3 ∧ a4 ∧ p) : p := h.2.2.2.2
theorem cl6 {a1 a2 a3 a4 a5 p : Prop} (h : a1 ∧ a2 ∧ a3 ∧ a4 ∧ a5 ∧ p) : p := h.2.2.2.2.2
theorem cl7 {a1 a2 a3 a4 a5 a6 p : Prop} (h : a1 ∧ a2 ∧ a3 ∧ a4 ∧ a5 ∧ a6 ∧ p) : p := h.2.2.2.2.2.2
theorem cl8 {a1 a2 a3 a4 a5 a6 a7 p : Prop} (h : a1 ∧ a2 ∧ a3 ∧ a4 ∧ a5 ∧ a6 ∧ a7 ∧ p) : p := h.2.2.2.2.2.2.2
theorem cl9 {a1 a2 a3 a4 a5 a6 a7 a8 p : Prop} (h : a1 ∧ a2 ∧ a3 ∧ a4 ∧ a5 ∧ a6 ∧ a7 ∧ a8 ∧ p) : p := h.2.2.2.2.2.2.2.2
end Mine
end
section
open PySem PySem.W PyProof.Rows
set_option Elab.async false
namespace Mine
theorem ex7and6 {A0 : Sort _} {A1 : Sort _} {A2 : Sort _} {A3 : Sort _} {A4 : Sort _} {A5 : Sort _} {A6 : Sort _} {p0 p1 p2 p3 p4 p5 : A0 → A1 → A2 → A3 → A4 → A5 → A6 → Prop} {P : Prop} (h : ∃ x0 x1 x2 x3 x4 x5 x6, p0 x0 x1 x2 x3 x4 x5 x6 ∧ p1 x0 x1 x2 x3 x4 x5 x6 ∧ p2 x0 x1 x2 x3 x4 x5 x6 ∧ p3 x0 x1 x2 x3 x4 x5 x6 ∧ p4 x0 x1 x2 x3 x4 x5 x6 ∧ p5 x0 x1 x2 x3 x4 x5 x6) (k : ∀ x0 x1 x2 x3 x4 x5 x6, p0 x0 x1 x2 x3 x4 x5 x6 → p1 x0 x1 x2 x3 x4 x5 x6 → p2 x0 x1 x2 x3 x4 x5 x6 → p3 x0 x1 x2 x3 x4 x5 x6 → p4 x0 x1 x2 x3 x4 x5 x6 → p5 x0 x1 x2 x3 x4 x5 x6 → P) : P := match h with | ⟨x0, x1, x2, x3, x4, x5, x6, h0, h1, h2, h3, h4, h5⟩ => k x0 x1 x2 x3 x4 x5 x6 h0 h1 h2 h3 h4 h5
theorem offs8 {P : Prop} {I a0 a1 a2 a3 a4 a5 a6 a7 : Addr} {o0 o1 o2 o3 o4 o5 o6 o7 : Obj} {tl : List (Addr × Obj)} (h : ∀ p ∈ (a0, o0) :: (a1, o1) :: (a2, o2) :: (a3, o3) :: (a4, o4) :: (a5, o5) :: (a6, o6) :: (a7, o7) :: tl, p.1 ≠ I) (k : a0 ≠ I → a1 ≠ I → a2 ≠ I → a3 ≠ I → a4 ≠ I → a5 ≠ I → a6 ≠ I → a7 ≠ I → (∀ p ∈ tl, p.1 ≠ I) → P) : P := k (h _ (.head _)) (h _ (.tail _ (.head _))) (h _ (.tail _ (.tail _ (.head _)))) (h _ (.tail _ (.tail _ (.tail _ (.head _))))) (h _ (.tail _ (.tail _ (.tail _ (.tail _ (.head _)))))) (h _ (.tail _ (.tail _ (.tail _ (.tail _ (.tail _ (.head _))))))) (h _ (.tail _ (.tail _ (.tail _ (.tail _ (.tail _ (.tail _ (.head _)))))))) (h _ (.tail _ (.tail _ (.tail _ (.tail _ (.tail _ (.tail _ (.tail _ (.head _))))))))) fun p hp => h p (.tail _ (.tail _ (.tail _ (.tail _ (.tail _ (.tail _ (.tail _ (.tail _ hp))))))))
theorem if_no {c : Prop} [Decidable c] {A B : Prop} (h : ¬ c) (k : B) : if c then A else B := by rw [if_neg h]; exact k
theorem done_sub {α : Type} {y1 y2 y3 y4 y5 y6 y7 b1 b2 b3 b4 b5 b6 s : α} {ex tu : List α} : ∀ p ∈ b1 :: b2 :: b3 :: b4 :: b5 :: b6 :: s :: (tu ++ ex), p ∈ y1 :: y2 :: y3 :: y4 :: y5 :: y6 :: y7 :: s :: (ex ++ b1 :: b2 :: b3 :: b4 :: b5 :: b6 :: tu) := by
  intro p hp
  simp only [List.mem_cons, List.mem_append] at hp ⊢
  rcases hp with h | h | h | h | h | h | h | h | h <;> simp [h]
theorem mem_pre {α : Type} {l : List α} (m : List α) : ∀ b ∈ l, b ∈ l ++ m := fun _ h => List.mem_append_left m h
end Mine
end
section
set_option maxRecDepth 100000
namespace Mine
/-! the plain law: no program in sight -/

/-- double until 32768 is reached -/
def norm : Nat → Nat → Nat → Nat → Nat × Nat × Nat
  | 0, C, z, n => (C, z, n)
  | f + 1, C, z, n => if z < 32768 then norm f (2 * C) (2 * z) (n + 1) else (C, z, n)

theorem norm_done {f C z n : Nat} (h : 32768 ≤ z) : norm f C z n = (C, z, n) := by
  cases f with
  | zero => rfl
  | succ f => rw [norm, if_neg (by omega)]
theorem norm_more {f C z n : Nat} (h : z < 32768) : norm (f + 1) C z n = norm f (2 * C) (2 * z) (n + 1) := by
  rw [norm, if_pos h]

theorem norm_spec : ∀ (f C z n : Nat), z ≤ 65536 → 32768 ≤ z * 2 ^ f → ∃ j, j ≤ f ∧ norm f C z n = (C * 2 ^ j, z * 2 ^ j, n + j) ∧ 32768 ≤ z * 2 ^ j ∧ z * 2 ^ j ≤ 65536
  | 0, C, z, n, h, h' => ⟨0, Nat.le_refl _, by simp [norm], by simpa using h', by simpa using h⟩
  | f + 1, C, z, n, h, h' => by
    by_cases hz : z < 32768
    · obtain ⟨j, hj, e, a, b⟩ := norm_spec f (2 * C) (2 * z) (n + 1) (by omega) (by rw [Nat.pow_succ] at h'; rw [Nat.mul_assoc, Nat.mul_comm 2, Nat.mul_assoc]; omega)
      have p1 : ∀ x : Nat, 2 * x * 2 ^ j = x * 2 ^ (j + 1) := fun x => by rw [Nat.pow_succ, Nat.mul_comm 2 x, Nat.mul_assoc, Nat.mul_comm 2]
      rw [p1] at a b
      refine ⟨j + 1, by omega, ?_, a, b⟩
      rw [norm_more hz, e, p1, p1]
      simp only [Prod.mk.injEq, true_and]
      omega
    · exact ⟨0, by omega, by rw [norm_done (by omega)]; simp, by omega, by omega⟩

theorem norm16 {C z n : Nat} (h1 : 1 ≤ z) (h2 : z ≤ 65536) : ∃ j, j ≤ 16 ∧ norm 16 C z n = (C * 2 ^ j, z * 2 ^ j, n + j) ∧ 32768 ≤ z * 2 ^ j ∧ z * 2 ^ j ≤ 65536 :=
  norm_spec 16 C z n h2 (by omega)

/-- the first m octets as a number; behind the end lie zeros -/
def R (b : List UInt8) : Nat → Nat
  | 0 => 0
  | m + 1 => R b m * 256 + (b.getD m 0).toNat
def N (b : List UInt8) : Nat := R b b.length

theorem R_congr {a b : List UInt8} : ∀ {m : Nat}, (∀ i, i < m → a.getD i 0 = b.getD i 0) → R a m = R b m
  | 0, _ => rfl
  | m + 1, h => by rw [R, R, R_congr (fun i hi => h i (by omega)), h m (by omega)]
theorem getD_append_left' {a b : List UInt8} {i : Nat} (h : i < a.length) : (a ++ b).getD i 0 = a.getD i 0 := by
  rw [List.getD_eq_getElem?_getD, List.getD_eq_getElem?_getD, List.getElem?_append_left h]
theorem R_append {a b : List UInt8} {m : Nat} (h : m ≤ a.length) : R (a ++ b) m = R a m :=
  R_congr fun i hi => getD_append_left' (by omega)
theorem N_snoc (a : List UInt8) (x : UInt8) : N (a ++ [x]) = N a * 256 + x.toNat := by
  unfold N
  rw [List.length_append, List.length_singleton, R, R_append (Nat.le_refl _)]
  congr 1
  rw [List.getD_eq_getElem?_getD, List.getElem?_append_right (Nat.le_refl _)]
  simp
theorem N_nil : N [] = 0 := rfl
theorem replicate_snoc (i : Nat) (x : UInt8) (a : List UInt8) : a ++ List.replicate (i + 1) x = (a ++ List.replicate i x) ++ [x] := by
  rw [List.replicate_succ', List.append_assoc]
theorem N_full (a : List UInt8) : ∀ i, N (a ++ List.replicate i 255) + 1 = (N a + 1) * 256 ^ i
  | 0 => by simp
  | i + 1 => by
    rw [replicate_snoc, N_snoc]
    have := N_full a i
    have e : (255 : UInt8).toNat = 255 := rfl
    rw [Nat.pow_succ, ← Nat.mul_assoc, ← this, e]
    omega
theorem N_zero (a : List UInt8) : ∀ i, N (a ++ List.replicate i 0) = N a * 256 ^ i
  | 0 => by simp
  | i + 1 => by
    rw [replicate_snoc, N_snoc, N_zero a i]
    have e : (0 : UInt8).toNat = 0 := rfl
    rw [Nat.pow_succ, ← Nat.mul_assoc, e]
    omega

theorem R_between {b : List UInt8} (m : Nat) : ∀ d, R b m * 256 ^ d ≤ R b (m + d) ∧ R b (m + d) < (R b m + 1) * 256 ^ d
  | 0 => by simp
  | d + 1 => by
    obtain ⟨h1, h2⟩ := R_between (b := b) m d
    have hx : (b.getD (m + d) 0).toNat < 256 := UInt8.toNat_lt _
    rw [← Nat.add_assoc, R, Nat.pow_succ, ← Nat.mul_assoc, ← Nat.mul_assoc]
    omega
theorem R_zeros {b : List UInt8} {T : Nat} (h : ∀ i, T ≤ i → b.getD i 0 = 0) : ∀ d, R b (T + d) = R b T * 256 ^ d
  | 0 => by simp
  | d + 1 => by
    rw [← Nat.add_assoc, R, R_zeros h d, h _ (by omega), Nat.pow_succ, ← Nat.mul_assoc]
    rfl
theorem R_floor {b : List UInt8} {T : Nat} (h : ∀ i, T ≤ i → b.getD i 0 = 0) (m : Nat) : R b m * 256 ^ T ≤ R b T * 256 ^ m ∧ R b T * 256 ^ m < (R b m + 1) * 256 ^ T := by
  have hp : ∀ k, 0 < 256 ^ k := fun k => Nat.pow_pos (by omega)
  by_cases hm : m ≤ T
  · obtain ⟨d, rfl⟩ := Nat.exists_eq_add_of_le hm
    obtain ⟨h1, h2⟩ := R_between (b := b) m d
    have e : 256 ^ (m + d) = 256 ^ d * 256 ^ m := by rw [Nat.pow_add, Nat.mul_comm]
    rw [e, ← Nat.mul_assoc, ← Nat.mul_assoc]
    exact ⟨Nat.mul_le_mul_right _ h1, Nat.mul_lt_mul_of_pos_right h2 (hp m)⟩
  · obtain ⟨d, rfl⟩ := Nat.exists_eq_add_of_le (Nat.le_of_not_le hm)
    rw [R_zeros h d]
    have e : 256 ^ (T + d) = 256 ^ d * 256 ^ T := by rw [Nat.pow_add, Nat.mul_comm]
    rw [e, ← Nat.mul_assoc]
    refine ⟨Nat.le_refl _, ?_⟩
    rw [Nat.add_mul (R b T * 256 ^ d) 1 (256 ^ T)]
    have := hp T
    omega

/-- the reader's compare is a compare of the whole number -/
theorem R_lt_iff {b : List UInt8} {T m l V lf nf ni X : Nat} (h : ∀ i, T ≤ i → b.getD i 0 = 0) (hV : R b T * 2 ^ 19 = V * 2 ^ (lf + 8)) (hT : 8 * T = nf + lf + 5) (hm : 8 * m = 16 + ni + l) (hn : ni ≤ nf) :
    R b m < X * 2 ^ l ↔ V < X * 2 ^ (nf - ni) := by
  obtain ⟨f1, f2⟩ := R_floor h m
  have hp : ∀ k, 0 < 2 ^ k := fun k => Nat.pow_pos (by omega)
  have p8 : ∀ k, 256 ^ k = 2 ^ (8 * k) := fun k => by rw [Nat.pow_mul]
  have step : R b m < X * 2 ^ l ↔ R b T * 256 ^ m < X * 2 ^ l * 256 ^ T := by
    constructor
    · intro q
      exact Nat.lt_of_lt_of_le f2 (Nat.mul_le_mul_right _ q)
    · intro q
      refine Nat.lt_of_mul_lt_mul_right (a := 256 ^ T) (Nat.lt_of_le_of_lt f1 q)
  rw [step, ← Nat.mul_lt_mul_right (a := 2 ^ 19) (hp 19)]
  have e1 : R b T * 256 ^ m * 2 ^ 19 = V * 2 ^ (24 + ni + l + lf) := by
    rw [Nat.mul_right_comm, hV, p8, Nat.mul_assoc, ← Nat.pow_add]
    congr 2; omega
  have e2 : X * 2 ^ l * 256 ^ T * 2 ^ 19 = X * 2 ^ (nf - ni) * 2 ^ (24 + ni + l + lf) := by
    rw [p8, Nat.mul_assoc, Nat.mul_assoc, Nat.mul_assoc, ← Nat.pow_add, ← Nat.pow_add, ← Nat.pow_add]
    congr 2; omega
  rw [e1, e2]
  exact Nat.mul_lt_mul_right (hp _)

/-! ## the reader's state -/
def DecRep (b : List UInt8) (C n : Nat) (at_ left code : Int) : Prop :=
  ∃ m l : Nat, left = (l : Int) ∧ l ≤ 8 ∧ n + l + 16 = 8 * m ∧ at_ = ((min m b.length : Nat) : Int) ∧ code + (C : Int) * 65536 = ((R b m * 2 ^ (16 - l) : Nat) : Int)

theorem DecRep.at_nonneg {b C n at_ left code} (h : DecRep b C n at_ left code) : 0 ≤ at_ := by
  obtain ⟨m, l, h1, h2, h3, h4, h5⟩ := h; exact h4 ▸ Int.natCast_nonneg _
theorem DecRep.left_range {b C n at_ left code} (h : DecRep b C n at_ left code) : 0 ≤ left ∧ left ≤ 8 := by
  obtain ⟨m, l, h1, h2, h3, h4, h5⟩ := h; exact h1 ▸ ⟨Int.natCast_nonneg _, Int.ofNat_le.mpr h2⟩

/-- with the octet read, where no bit is left -/
theorem DecRep.read {b : List UInt8} {C n : Nat} {at_ code : Int} (h : DecRep b C n at_ 0 code) :
    DecRep b C n (if at_ < b.length then at_ + 1 else at_) 8 (code + (b.getD at_.toNat 0).toNat * 256) := by
  obtain ⟨m, l, h1, h2, h3, h4, h5⟩ := h
  have hl : l = 0 := by omega
  subst hl
  refine ⟨m + 1, 8, rfl, Nat.le_refl _, by omega, ?_, ?_⟩
  · by_cases hm : m < b.length
    · rw [h4, Nat.min_eq_left (Nat.le_of_lt hm), if_pos (Int.ofNat_lt.mpr hm), Nat.min_eq_left hm]; rfl
    · have hle := Nat.le_of_not_lt hm
      rw [h4, Nat.min_eq_right hle, if_neg (Int.lt_irrefl _), Nat.min_eq_right (Nat.le_succ_of_le hle)]
  · have hg : b.getD at_.toNat 0 = b.getD m 0 := by
      rw [h4, Int.toNat_natCast]
      by_cases hm : m < b.length
      · rw [Nat.min_eq_left (by omega)]
      · rw [Nat.min_eq_right (by omega), List.getD_eq_getElem?_getD, List.getD_eq_getElem?_getD, List.getElem?_eq_none (by omega), List.getElem?_eq_none (by omega)]
    rw [hg, R]
    simp only [Nat.sub_zero] at h5
    have : (16 - 8 : Nat) = 8 := rfl
    rw [this]
    generalize (b.getD m 0).toNat = o at *
    generalize R b m = r at *
    omega
theorem DecRep.double {b : List UInt8} {C n : Nat} {at_ left code : Int} (h : DecRep b C n at_ left code) (hl : left ≠ 0) :
    DecRep b (2 * C) (n + 1) at_ (left - 1) (code * 2) := by
  obtain ⟨m, l, h1, h2, h3, h4, h5⟩ := h
  obtain ⟨l', rfl⟩ : ∃ l', l = l' + 1 := Nat.exists_eq_succ_of_ne_zero fun e => hl (by rw [h1, e]; rfl)
  refine ⟨m, l', by omega, by omega, by omega, h4, ?_⟩
  have e : 2 ^ (16 - l') = 2 * 2 ^ (16 - (l' + 1)) := by
    rw [← Nat.pow_succ', ← Nat.succ_sub (Nat.le_trans h2 (by decide)), Nat.succ_sub_succ]
  rw [e]
  have e2 : R b m * (2 * 2 ^ (16 - (l' + 1))) = 2 * (R b m * 2 ^ (16 - (l' + 1))) := by rw [Nat.mul_left_comm]
  rw [e2]
  generalize R b m * 2 ^ (16 - (l' + 1)) = r at *
  omega
theorem DecRep.upper {b : List UInt8} {C n y : Nat} {at_ left code : Int} (h : DecRep b C n at_ left code) :
    DecRep b (C + y) n at_ left (code - y * 65536) := by
  obtain ⟨m, l, h1, h2, h3, h4, h5⟩ := h
  exact ⟨m, l, h1, h2, h3, h4, by rw [← h5]; push_cast; omega⟩

theorem DecRep.lt_iff {b : List UInt8} {C n y T V lf nf : Nat} {at_ left code : Int} (h : DecRep b C n at_ left code) (hz : ∀ i, T ≤ i → b.getD i 0 = 0) (hV : R b T * 2 ^ 19 = V * 2 ^ (lf + 8)) (hT : 8 * T = nf + lf + 5) (hn : n ≤ nf) :
    code < y * 65536 ↔ V < (C + y) * 2 ^ (nf - n) := by
  obtain ⟨m, l, h1, h2, h3, h4, h5⟩ := h
  rw [← R_lt_iff hz hV hT (m := m) (l := l) (by omega) hn]
  have hp : 0 < 2 ^ (16 - l) := Nat.pow_pos (by omega)
  rw [← Nat.mul_lt_mul_right (a := 2 ^ (16 - l)) hp, Nat.mul_assoc, ← Nat.pow_add, Nat.add_sub_cancel' (Nat.le_trans h2 (by decide) : l ≤ 16)]
  have : (2 : Nat) ^ 16 = 65536 := rfl
  rw [this]
  generalize R b m * 2 ^ (16 - l) = r at *
  omega
end Mine
end
section
set_option maxRecDepth 100000
namespace Mine
theorem DecRep.turn_read {b : List UInt8} {C n : Nat} {at_ size code at9 code9 : Int} (h : DecRep b C n at_ 0 code) (h0 : 0 ≤ code) (h1 : code < size * 65536)
    (ha : at9 = if at_ < (b.length : Int) then at_ + 1 else at_) (hc : code9 = code + (b.getD at_.toNat 0).toNat * 256) :
    DecRep b (2 * C) (n + 1) at9 (8 - 1) (code9 * 2) ∧ 0 ≤ code9 * 2 ∧ code9 * 2 < size * 2 * 65536 := by
  subst ha; subst hc
  refine ⟨h.read.double (by decide), ?_, ?_⟩
  · have : 0 ≤ ((b.getD at_.toNat 0).toNat : Int) := Int.natCast_nonneg _
    omega
  · obtain ⟨m, l, e1, e2, e3, e4, e5⟩ := h
    have hl : l = 0 := by omega
    subst hl
    simp only [Nat.sub_zero] at e5
    have hx : (b.getD at_.toNat 0).toNat < 256 := UInt8.toNat_lt _
    generalize (b.getD at_.toNat 0).toNat = o at *
    generalize R b m = r at *
    omega
theorem DecRep.turn {b : List UInt8} {C n : Nat} {at_ left size code : Int} (h : DecRep b C n at_ left code) (hl : ¬ left = 0) (h0 : 0 ≤ code) (h1 : code < size * 65536) :
    DecRep b (2 * C) (n + 1) at_ (left - 1) (code * 2) ∧ 0 ≤ code * 2 ∧ code * 2 < size * 2 * 65536 := ⟨h.double hl, by omega, by omega⟩
theorem turn_norm {f C z n : Nat} {T : Nat × Nat × Nat} (h : T = norm f C z n) (hz : z < 32768) (hf : 32768 ≤ z * 2 ^ f) :
    ∃ f', f' < f ∧ T = norm f' (2 * C) (2 * z) (n + 1) ∧ 32768 ≤ 2 * z * 2 ^ f' := by
  cases f with
  | zero => simp at hf; omega
  | succ f =>
    refine ⟨f, by omega, by rw [h, norm_more hz], ?_⟩
    rw [Nat.pow_succ] at hf
    rw [Nat.mul_comm 2 z, Nat.mul_assoc, Nat.mul_comm 2]; exact hf
end Mine
end
section
set_option maxRecDepth 100000
namespace Mine
/-! one decision, plainly -/
structure St where
  ss : List Int
  ns : List Int
  C : Nat
  z : Nat
  n : Nat
def St.of (ss ns : List Int) (t : Nat × Nat × Nat) : St := ⟨ss, ns, t.1, t.2.1, t.2.2⟩
section
variable (T : Int → Nat → Int)
def moreS (ss : List Int) (i : Nat) : List Int := ss.set i (T (ss.getD i 0) 2)
def lessS (ss : List Int) (i : Nat) : List Int := ss.set i (T (ss.getD i 0) 1)
def lessN (ss ns : List Int) (i : Nat) : List Int := if T (ss.getD i 0) 3 = 1 then ns.set i (1 - ns.getD i 0) else ns
/-- the width of the lesser part -/
def lw (σ : St) (i : Nat) : Nat := (T (σ.ss.getD i 0) 0).toNat
def getP (σ : St) (i : Nat) (lower : Bool) : Int × St :=
  if lower = true then
    if 32768 ≤ σ.z - lw T σ i then (σ.ns.getD i 0, ⟨σ.ss, σ.ns, σ.C, σ.z - lw T σ i, σ.n⟩)
    else if lw T σ i ≤ σ.z - lw T σ i then (σ.ns.getD i 0, .of (moreS T σ.ss i) σ.ns (norm 16 σ.C (σ.z - lw T σ i) σ.n))
    else (1 - σ.ns.getD i 0, .of (lessS T σ.ss i) (lessN T σ.ss σ.ns i) (norm 16 σ.C (σ.z - lw T σ i) σ.n))
  else if σ.z - lw T σ i < lw T σ i then (σ.ns.getD i 0, .of (moreS T σ.ss i) σ.ns (norm 16 (σ.C + (σ.z - lw T σ i)) (lw T σ i) σ.n))
  else (1 - σ.ns.getD i 0, .of (lessS T σ.ss i) (lessN T σ.ss σ.ns i) (norm 16 (σ.C + (σ.z - lw T σ i)) (lw T σ i) σ.n))
def putP (σ : St) (i : Nat) (bit : Int) : St :=
  if bit = σ.ns.getD i 0 then
    if 32768 ≤ σ.z - lw T σ i then ⟨σ.ss, σ.ns, σ.C, σ.z - lw T σ i, σ.n⟩
    else if σ.z - lw T σ i < lw T σ i then .of (moreS T σ.ss i) σ.ns (norm 16 (σ.C + (σ.z - lw T σ i)) (lw T σ i) σ.n)
    else .of (moreS T σ.ss i) σ.ns (norm 16 σ.C (σ.z - lw T σ i) σ.n)
  else if lw T σ i ≤ σ.z - lw T σ i then .of (lessS T σ.ss i) (lessN T σ.ss σ.ns i) (norm 16 (σ.C + (σ.z - lw T σ i)) (lw T σ i) σ.n)
  else .of (lessS T σ.ss i) (lessN T σ.ss σ.ns i) (norm 16 σ.C (σ.z - lw T σ i) σ.n)
variable {T} {σ : St} {i : Nat} {lower : Bool} {bit : Int} {t : Nat × Nat × Nat} {N' : List Int}
theorem getP_stay (h : lower = true) (h1 : 32768 ≤ σ.z - lw T σ i) : getP T σ i lower = (σ.ns.getD i 0, ⟨σ.ss, σ.ns, σ.C, σ.z - lw T σ i, σ.n⟩) := by
  unfold getP; rw [if_pos h, if_pos h1]
theorem getP_low_more (h : lower = true) (h1 : ¬ 32768 ≤ σ.z - lw T σ i) (h2 : lw T σ i ≤ σ.z - lw T σ i) (h3 : norm 16 σ.C (σ.z - lw T σ i) σ.n = t) :
    getP T σ i lower = (σ.ns.getD i 0, .of (moreS T σ.ss i) σ.ns t) := by
  unfold getP; rw [if_pos h, if_neg h1, if_pos h2, h3]
theorem getP_low_less (h : lower = true) (h1 : ¬ 32768 ≤ σ.z - lw T σ i) (h2 : ¬ lw T σ i ≤ σ.z - lw T σ i) (h3 : norm 16 σ.C (σ.z - lw T σ i) σ.n = t) (h4 : lessN T σ.ss σ.ns i = N') :
    getP T σ i lower = (1 - σ.ns.getD i 0, .of (lessS T σ.ss i) N' t) := by
  unfold getP; rw [if_pos h, if_neg h1, if_neg h2, h3, h4]
theorem getP_up_more (h : ¬ lower = true) (h2 : σ.z - lw T σ i < lw T σ i) (h3 : norm 16 (σ.C + (σ.z - lw T σ i)) (lw T σ i) σ.n = t) :
    getP T σ i lower = (σ.ns.getD i 0, .of (moreS T σ.ss i) σ.ns t) := by
  unfold getP; rw [if_neg h, if_pos h2, h3]
theorem getP_up_less (h : ¬ lower = true) (h2 : ¬ σ.z - lw T σ i < lw T σ i) (h3 : norm 16 (σ.C + (σ.z - lw T σ i)) (lw T σ i) σ.n = t) (h4 : lessN T σ.ss σ.ns i = N') :
    getP T σ i lower = (1 - σ.ns.getD i 0, .of (lessS T σ.ss i) N' t) := by
  unfold getP; rw [if_neg h, if_neg h2, h3, h4]
theorem lessN_yes {ss ns : List Int} (h : T (ss.getD i 0) 3 = 1) : lessN T ss ns i = ns.set i (1 - ns.getD i 0) := if_pos h
theorem lessN_no {ss ns : List Int} (h : T (ss.getD i 0) 3 ≠ 1) : lessN T ss ns i = ns := if_neg h
theorem lw_of {l : Nat} (h : T (σ.ss.getD i 0) 0 = (l : Int)) : lw T σ i = l := by unfold lw; rw [h]; rfl
end
end Mine
end
section
set_option maxRecDepth 100000
namespace Mine
theorem dec_init {b : List UInt8} {a1 a2 c1 c2 : Int} (h1 : a1 = if (0 : Int) < (b.length : Int) then 0 + 1 else 0) (g1 : c1 = 0 + ((b.getD (0 : Int).toNat 0).toNat : Int) * 256)
    (h2 : a2 = if a1 < (b.length : Int) then a1 + 1 else a1) (g2 : c2 = c1 * 256 + ((b.getD a1.toNat 0).toNat : Int) * 256) :
    DecRep b 0 0 a2 0 (c2 * 256) ∧ 0 ≤ c2 * 256 ∧ c2 * 256 < 65536 * 65536 := by
  have e0 : b.getD (0 : Int).toNat 0 = b.getD 0 0 := rfl
  have e1 : b.getD a1.toNat 0 = b.getD 1 0 := by
    by_cases hl : (0 : Int) < (b.length : Int)
    · rw [if_pos hl] at h1; rw [h1]; rfl
    · rw [if_neg hl] at h1
      rw [h1, List.getD_eq_getElem?_getD, List.getD_eq_getElem?_getD, List.getElem?_eq_none (by show b.length ≤ 0; omega), List.getElem?_eq_none (by omega)]
  rw [e0] at g1
  rw [e1] at g2
  have q0 := UInt8.toNat_lt (b.getD 0 0)
  have q1 := UInt8.toNat_lt (b.getD 1 0)
  have hR : R b 2 = ((b.getD 0 0).toNat) * 256 + (b.getD 1 0).toNat := by
    rw [R, R, R]; omega
  refine ⟨⟨2, 0, rfl, by omega, by omega, ?_, ?_⟩, by omega, by omega⟩
  · split at h1 <;> split at h2 <;> omega
  · rw [hR]
    have : (2 : Nat) ^ (16 - 0) = 65536 := rfl
    rw [this]
    omega
end Mine
end
section
set_option Elab.async false
namespace Mine
/-! small steps between whole numbers, said once -/
theorem tab_nat {t : Int} {l : Nat} {q : Prop} (h : 1 ≤ t ∧ t ≤ 23314 ∧ q) (hl : t = (l : Int)) : 1 ≤ l ∧ l ≤ 23314 := by omega
theorem tab_ex {t : Int} {q : Prop} (h : 1 ≤ t ∧ q) : ∃ l : Nat, t = (l : Int) := ⟨t.toNat, by omega⟩
theorem sub_nat {size t : Int} {z l : Nat} (hz : size = (z : Int)) (ht : t = (l : Int)) (h1 : 32768 ≤ z) (h2 : l ≤ 23314) : size - t = ((z - l : Nat) : Int) := by omega
theorem n_ge {a : Int} {k : Nat} (e : a = (k : Int)) (h : 32768 ≤ a) : 32768 ≤ k := by omega
theorem n_nge {a : Int} {k : Nat} (e : a = (k : Int)) (h : ¬ 32768 ≤ a) : ¬ 32768 ≤ k := by omega
theorem n_le {a t : Int} {k l : Nat} (e : a = (k : Int)) (ht : t = (l : Int)) (h : t ≤ a) : l ≤ k := by omega
theorem n_nle {a t : Int} {k l : Nat} (e : a = (k : Int)) (ht : t = (l : Int)) (h : ¬ t ≤ a) : ¬ l ≤ k := by omega
theorem n_lt {a t : Int} {k l : Nat} (e : a = (k : Int)) (ht : t = (l : Int)) (h : a < t) : k < l := by omega
theorem n_nlt {a t : Int} {k l : Nat} (e : a = (k : Int)) (ht : t = (l : Int)) (h : ¬ a < t) : ¬ k < l := by omega
theorem one_sub {z l : Nat} (h1 : 32768 ≤ z) (h2 : l ≤ 23314) : 1 ≤ z - l := by omega
theorem le_of_row {z l : Nat} (h1 : 32768 ≤ z) (h2 : l ≤ 23314) : l ≤ z := by omega
theorem up_code {code size t : Int} (h : ¬ code < (size - t) * 65536) (hc : code < size * 65536) : 0 ≤ code - (size - t) * 65536 ∧ code - (size - t) * 65536 < t * 65536 := by omega
theorem tight3 {un k e : Nat} (h : un ≤ 3 * (k + 1) + e) : un + 3 ≤ 3 * (k + 1 + 1) + e := by omega
theorem rm2 {dp a b c n : Nat} (h : dp + c < n) (hle : a + b ≤ c) : dp + a + b < n := by omega
theorem sz1 {k : Nat} (h : k ≤ 4096) : k < 1000000 := Nat.lt_of_le_of_lt h (by decide)
theorem sz5 {k : Nat} (h : k ≤ 4096) : k < 100000 := Nat.lt_of_le_of_lt h (by decide)
theorem fin_len {n l k : Nat} (hn : n ≤ 20000) (h : 8 * k = n + l + 5) (hl : l ≤ 11) : k ≤ 4096 := by omega
theorem len8 {k n : Nat} (h : 8 * k ≤ n) (hn : n ≤ 20000) : k ≤ 4096 := by omega
theorem len81 {k k' n : Nat} (h : 8 * k ≤ n) (hn : n ≤ 20000) (e : k' = k + 1) : k' ≤ 4096 := by omega
theorem md_lt {x : Nat} : x % 524288 * 256 / 524288 < 256 := by omega
theorem md_abs {x : Nat} {c : Int} (e : c = ((x % 524288 : Nat) : Int)) : c.natAbs < 18446744073709551616 := by
  rw [e, Int.natAbs_natCast]; exact Nat.lt_of_lt_of_le (Nat.mod_lt _ (by decide)) (by decide)
theorem le1000 {left : Int} {l : Nat} (e : left = (l : Int)) (h : l ≤ 11) : left ≤ 1000 := by omega
theorem nn_of {left : Int} {l : Nat} (e : left = (l : Int)) : 0 ≤ left := e ▸ Int.natCast_nonneg _
theorem abs_lt {x b : Nat} (h : x < b) (hb : b ≤ 18446744073709551616) : ((x : Nat) : Int).natAbs < 18446744073709551616 := by
  rw [Int.natAbs_natCast]; exact Nat.lt_of_lt_of_le h hb
theorem x0_of {x : Nat} (h : (x : Int) = 0) : x = 0 := by omega
end Mine
end
section
open PySem PySem.Spec PySem.Calls PySem.W PyProof.Rows
set_option Elab.async false
namespace Mine

/-- a contract of a def: from a ledger `news` the call of `f` with `vs` gives what `R` says -/
def Ct (w : World) (f : Addr) (vs : List Value) (news : List (Addr × Obj)) (dn un0 : Nat) (R : (Value → List (Addr × Obj) → Prop) → Prop) : Prop :=
  ∀ (dp un : Nat) (gd : Option (List Code)) (cn : Str) (cs : Scope) (a : Addr) (ccd : Value) (cl : List (Str × Addr)) (outer : List Env) (A₀ : Around) (base h₀ : Heap) (L : Addr) (m : Str → Option Value) (s : Shared) (Q E : Value → Shared → Prop) (mean : ExcName → Option Value) (mg mb : Str → Option Value),
    Below A₀ base outer h₀ → Fr h₀ L s.heap m → (Mine.Lit.lt.heap_1 w.params).In h₀ → News h₀ L s.heap news → Top Mine.Lit.lt.view_1 (looseW Mine.Lit.lt.view_1 []) mean mg mb h₀ → cs.kind = .function → dp + dn < recursionLimit → un + un0 < cLine →
    (R fun v news' => ∀ h' tk, Fr h₀ L h' m → News h₀ L h' news' → Q v { s with heap := h', toks := tk }) →
    wpAny (model PySem.Challenge.rw_nt0555_01.row.prog w) (ktrTop dp un gd cn cs L a ccd cl outer) (call (.ref f) vs) Q E s

/-- the decoder's own dict -/
abbrev decD (e0 e1 e2 e3 e4 : Int) (k0 k1 k2 k3 k4 : Tok) (b : Array UInt8) (tb : Tok) (at_ : Int) (ta : Tok) (size : Int) (ts : Tok) (code : Int) (tc : Tok) (left : Int) (tl : Tok) : Obj :=
  dictOf [⟨e0, .str "octets" k0, .bytes b tb⟩, ⟨e1, .str "at" k1, .int at_ ta⟩, ⟨e2, .str "size" k2, .int size ts⟩, ⟨e3, .str "code" k3, .int code tc⟩, ⟨e4, .str "left" k4, .int left tl⟩] 5
end Mine
end
section
open PySem PySem.Spec PySem.Calls PySem.W PyProof.Rows
set_option Elab.async false
set_option maxRecDepth 100000
namespace Mine

/-- two addresses that differ (hidden from omega, which splits at every ≠) -/
def Dif (a b : Nat) : Prop := a ≠ b
theorem Dif.ne {a b : Nat} (h : Dif a b) : a ≠ b := h
theorem Dif.ne' {a b : Nat} (h : Dif b a) : a ≠ b := Ne.symm h
theorem Dif.mk {a b : Nat} (h : a ≠ b) : Dif a b := h
theorem Dif.symm {a b : Nat} (h : Dif a b) : Dif b a := Ne.symm h
/-- addresses apart -/
def AptFrom (a : Nat) : List Nat → Prop
  | [] => True
  | b :: r => Dif a b ∧ AptFrom a r
def Apt : List Nat → Prop
  | [] => True
  | a :: r => AptFrom a r ∧ Apt r
theorem off_cons {a : Addr} {o : Obj} {rest : List (Addr × Obj)} {l : List Addr} (h : AptFrom a l) (off : OwnOff rest l) : OwnOff ((a, o) :: rest) l := by
  intro p hp b hb
  rcases List.mem_cons.mp hp with rfl | hp
  · show a ≠ b
    clear off
    induction l with
    | nil => cases hb
    | cons c r ih =>
      rcases List.mem_cons.mp hb with rfl | hb
      · exact h.1
      · exact ih h.2 hb
  · exact off p hp b hb
theorem off_sub {rest : List (Addr × Obj)} {l l' : List Addr} (off : OwnOff rest l) (h : ∀ b ∈ l', b ∈ l) : OwnOff rest l' := fun p hp b hb => off p hp b (h b hb)
theorem off_app {own rest : List (Addr × Obj)} {l : List Addr} (h1 : OwnOff own l) (h2 : OwnOff rest l) : OwnOff (own ++ rest) l := fun p hp b hb => (List.mem_append.mp hp).elim (fun h => h1 p h b hb) fun h => h2 p h b hb
theorem allLt_ne {a : Addr} : ∀ {l : List (Addr × Obj)}, AllLt a l → ∀ p ∈ l, p.1 ≠ a
  | [], _, _, hp => nomatch hp
  | q :: r, h, p, hp => (List.mem_cons.mp hp).elim (fun e => by rw [e]; exact Nat.ne_of_lt h.1) (allLt_ne h.2 p)
theorem News.sub {h₀ h : Heap} {L : Addr} {l l' : List (Addr × Obj)} (N : News h₀ L h l) (hs : ∀ p ∈ l', p ∈ l) : News h₀ L h l' := fun p hp => N p (hs p hp)
theorem off_nil {l : List Addr} : OwnOff [] l := fun _ h => nomatch h

theorem apt2 {P : Prop} {a0 a1 : Addr} (h : Apt [a0, a1]) (k : Dif a0 a1 → P) : P := k h.1.1
theorem apt3 {P : Prop} {a0 a1 a2 : Addr} (h : Apt [a0, a1, a2]) (k : Dif a0 a1 → Dif a0 a2 → Dif a1 a2 → P) : P := k h.1.1 h.1.2.1 h.2.1.1
theorem apt4 {P : Prop} {a0 a1 a2 a3 : Addr} (h : Apt [a0, a1, a2, a3]) (k : Dif a0 a1 → Dif a0 a2 → Dif a0 a3 → Dif a1 a2 → Dif a1 a3 → Dif a2 a3 → P) : P := k h.1.1 h.1.2.1 h.1.2.2.1 h.2.1.1 h.2.1.2.1 h.2.2.1.1
theorem apt6 {P : Prop} {a0 a1 a2 a3 a4 a5 : Addr} (h : Apt [a0, a1, a2, a3, a4, a5]) (k : Dif a0 a1 → Dif a0 a2 → Dif a0 a3 → Dif a0 a4 → Dif a0 a5 → Dif a1 a2 → Dif a1 a3 → Dif a1 a4 → Dif a1 a5 → Dif a2 a3 → Dif a2 a4 → Dif a2 a5 → Dif a3 a4 → Dif a3 a5 → Dif a4 a5 → P) : P := k h.1.1 h.1.2.1 h.1.2.2.1 h.1.2.2.2.1 h.1.2.2.2.2.1 h.2.1.1 h.2.1.2.1 h.2.1.2.2.1 h.2.1.2.2.2.1 h.2.2.1.1 h.2.2.1.2.1 h.2.2.1.2.2.1 h.2.2.2.1.1 h.2.2.2.1.2.1 h.2.2.2.2.1.1
theorem apt7 {P : Prop} {a0 a1 a2 a3 a4 a5 a6 : Addr} (h : Apt [a0, a1, a2, a3, a4, a5, a6]) (k : Dif a0 a1 → Dif a0 a2 → Dif a0 a3 → Dif a0 a4 → Dif a0 a5 → Dif a0 a6 → Dif a1 a2 → Dif a1 a3 → Dif a1 a4 → Dif a1 a5 → Dif a1 a6 → Dif a2 a3 → Dif a2 a4 → Dif a2 a5 → Dif a2 a6 → Dif a3 a4 → Dif a3 a5 → Dif a3 a6 → Dif a4 a5 → Dif a4 a6 → Dif a5 a6 → P) : P := k h.1.1 h.1.2.1 h.1.2.2.1 h.1.2.2.2.1 h.1.2.2.2.2.1 h.1.2.2.2.2.2.1 h.2.1.1 h.2.1.2.1 h.2.1.2.2.1 h.2.1.2.2.2.1 h.2.1.2.2.2.2.1 h.2.2.1.1 h.2.2.1.2.1 h.2.2.1.2.2.1 h.2.2.1.2.2.2.1 h.2.2.2.1.1 h.2.2.2.1.2.1 h.2.2.2.1.2.2.1 h.2.2.2.2.1.1 h.2.2.2.2.1.2.1 h.2.2.2.2.2.1.1
theorem lts2 {P : Prop} {x : Nat} {a0 a1 : Addr} {o0 o1 : Obj} {tl : List (Addr × Obj)} (h : AllLt x ((a0, o0) :: (a1, o1) :: tl)) (k : @LT.lt Nat _ a0 x → @LT.lt Nat _ a1 x → AllLt x tl → P) : P := k h.1 h.2.1 h.2.2
theorem lts3 {P : Prop} {x : Nat} {a0 a1 a2 : Addr} {o0 o1 o2 : Obj} {tl : List (Addr × Obj)} (h : AllLt x ((a0, o0) :: (a1, o1) :: (a2, o2) :: tl)) (k : @LT.lt Nat _ a0 x → @LT.lt Nat _ a1 x → @LT.lt Nat _ a2 x → AllLt x tl → P) : P := k h.1 h.2.1 h.2.2.1 h.2.2.2
theorem lte4 {P : Prop} {x : Nat} {a0 a1 a2 a3 : Addr} {o0 o1 o2 o3 : Obj} (h : AllLt x [(a0, o0), (a1, o1), (a2, o2), (a3, o3)]) (k : @LT.lt Nat _ a0 x → @LT.lt Nat _ a1 x → @LT.lt Nat _ a2 x → @LT.lt Nat _ a3 x → P) : P := k h.1 h.2.1 h.2.2.1 h.2.2.2.1
theorem lts6 {P : Prop} {x : Nat} {a0 a1 a2 a3 a4 a5 : Addr} {o0 o1 o2 o3 o4 o5 : Obj} {tl : List (Addr × Obj)} (h : AllLt x ((a0, o0) :: (a1, o1) :: (a2, o2) :: (a3, o3) :: (a4, o4) :: (a5, o5) :: tl)) (k : @LT.lt Nat _ a0 x → @LT.lt Nat _ a1 x → @LT.lt Nat _ a2 x → @LT.lt Nat _ a3 x → @LT.lt Nat _ a4 x → @LT.lt Nat _ a5 x → AllLt x tl → P) : P := k h.1 h.2.1 h.2.2.1 h.2.2.2.1 h.2.2.2.2.1 h.2.2.2.2.2.1 h.2.2.2.2.2.2
theorem lts7 {P : Prop} {x : Nat} {a0 a1 a2 a3 a4 a5 a6 : Addr} {o0 o1 o2 o3 o4 o5 o6 : Obj} {tl : List (Addr × Obj)} (h : AllLt x ((a0, o0) :: (a1, o1) :: (a2, o2) :: (a3, o3) :: (a4, o4) :: (a5, o5) :: (a6, o6) :: tl)) (k : @LT.lt Nat _ a0 x → @LT.lt Nat _ a1 x → @LT.lt Nat _ a2 x → @LT.lt Nat _ a3 x → @LT.lt Nat _ a4 x → @LT.lt Nat _ a5 x → @LT.lt Nat _ a6 x → AllLt x tl → P) : P := k h.1 h.2.1 h.2.2.1 h.2.2.2.1 h.2.2.2.2.1 h.2.2.2.2.2.1 h.2.2.2.2.2.2.1 h.2.2.2.2.2.2.2
theorem while_cps {prog : Program} {w : World} {A : Around} {E : Value → Shared → Prop} {Q : Flow → Shared → Prop} {s : Shared} {env : Env} {h₀ : Heap} {L : Addr} {test : Expr} {body : List Stmt} {pos : Pos} {m : Str → Option Value} {news : List (Addr × Obj)}
    (J : Nat → (List (Addr × Obj) → Prop) → Prop) (n₀ : Nat)
    (F : Fr h₀ L s.heap m) (N : News h₀ L s.heap news) (hJ : ∀ K, J n₀ K → K news)
    (turn : ∀ n h₁ tk₁ (P : Flow → Shared → Prop), Fr h₀ L h₁ m → (∀ v s₃, Q (.ret v) s₃ → P (.ret v) s₃) →
      (∀ n' h' tk nx, Fr h₀ L h' m → News h₀ L h' nx → n' < n → (∀ K, J n' K → K nx) → P .next { s with heap := h', toks := tk }) →
      J n fun nx => News h₀ L h₁ nx → wpAny (model prog w) A (isTrue test env (eval test env)) (fun b s₂ =>
        if b = true then wpAny (model prog w) A (execs body env) P E s₂ else Q .next s₂) E { s with heap := h₁, toks := tk₁ })
    (hE : PassesOwn (model prog w) A env E) :
    wpAny (model prog w) A (exec (.While test body [] pos) env) Q E s := by
  refine While_inv2 (fun n m' nx => m' = m ∧ ∀ K, J n K → K nx) F N ⟨rfl, hJ⟩ ?_ hE
  rintro n m₁ nx h₁ tk₁ F₁ N₁ ⟨rfl, J₁⟩
  refine J₁ _ (turn n h₁ tk₁ _ F₁ ?_ ?_) N₁
  · exact fun v s₃ x => x
  · intro n' h' tk nx' F' N' hn hj
    exact ⟨h', tk, m₁, nx', n', rfl, F', N', hn, rfl, hj⟩

section
variable {prog : Program} {w : World} {A : Around} {E : Value → Shared → Prop} {s : Shared} {a n p : Int} {t u : Tok}
theorem ishl_by {Q : Value → Shared → Prop} (hn : 0 ≤ n) (hn2 : n ≤ 1000) (ha : a.natAbs < 18446744073709551616) (hp : (2 : Int) ^ n.toNat = p) (h : Q (.int (a * p) s.toks) { s with toks := s.toks + 1 }) :
    wpAny (model prog w) A (inplaceOp .LShift (.int a t) (.int n u)) Q E s := by
  subst hp
  exact ilshift_int_small hn (by omega) (by simpa using ha) h
end
theorem octet_bound {b : List UInt8} {i : Nat} {c c9 : Int} (h : c9 = c + ((b.getD i 0).toNat : Int) * 256) : c ≤ c9 ∧ c9 ≤ c + 65280 := by
  have := UInt8.toNat_lt (b.getD i 0)
  omega

theorem Ct.use {w : World} {f : Addr} {vs : List Value} {news : List (Addr × Obj)} {dn un0 : Nat} {R : (Value → List (Addr × Obj) → Prop) → Prop}
    {dp un : Nat} {gd : Option (List Code)} {cn : Str} {cs : Scope} {a : Addr} {ccd : Value} {cl : List (Str × Addr)} {outer : List Env} {A₀ : Around} {base h₀ : Heap} {L : Addr} {m : Str → Option Value} {s : Shared} {Q E : Value → Shared → Prop} {mean : ExcName → Option Value} {mg mb : Str → Option Value}
    (B : Below A₀ base outer h₀) (F : Fr h₀ L s.heap m) (X : (Mine.Lit.lt.heap_1 w.params).In h₀) (N : News h₀ L s.heap news) (T : Top Mine.Lit.lt.view_1 (looseW Mine.Lit.lt.view_1 []) mean mg mb h₀) (hk : cs.kind = .function)
    (C : Ct w f vs news dn un0 R) (hd : dp + dn < recursionLimit) (hu : un + un0 < cLine)
    (ret : R fun v news' => ∀ h' tk, Fr h₀ L h' m → News h₀ L h' news' → Q v { s with heap := h', toks := tk }) :
    wpAny (model PySem.Challenge.rw_nt0555_01.row.prog w) (ktrTop dp un gd cn cs L a ccd cl outer) (call (.ref f) vs) Q E s :=
  C dp un gd cn cs a ccd cl outer A₀ base h₀ L m s Q E mean mg mb B F X N T hk hd hu ret
end Mine
end
section
open PySem PySem.Spec PySem.Calls PySem.W PyProof.Rows
set_option Elab.async false
set_option maxRecDepth 100000
namespace Mine
/-- a ledger without one entry -/
inductive Del (c : Addr) (o : Obj) : List (Addr × Obj) → List (Addr × Obj) → Prop
  | head {rest : List (Addr × Obj)} (h : ∀ p ∈ rest, p.1 ≠ c) : Del c o ((c, o) :: rest) rest
  | tail {b : Addr} {ob : Obj} {rest l' : List (Addr × Obj)} (h : b ≠ c) (d : Del c o rest l') : Del c o ((b, ob) :: rest) ((b, ob) :: l')
theorem Del.here {c : Addr} {o : Obj} : ∀ {l l' : List (Addr × Obj)}, Del c o l l' → (c, o) ∈ l
  | _, _, .head _ => .head _
  | _, _, .tail _ d => .tail _ d.here
theorem Del.sub {c : Addr} {o : Obj} : ∀ {l l' : List (Addr × Obj)}, Del c o l l' → ∀ p ∈ l', p ∈ l
  | _, _, .head _, p, h => .tail _ h
  | _, _, .tail _ d, p, h => (List.mem_cons.mp h).elim (fun e => e ▸ .head _) fun h => .tail _ (d.sub p h)
theorem Del.off {c : Addr} {o : Obj} : ∀ {l l' : List (Addr × Obj)}, Del c o l l' → ∀ p ∈ l', p.1 ≠ c
  | _, _, .head h, p, hp => h p hp
  | _, _, .tail hb d, p, h => (List.mem_cons.mp h).elim (fun e => e ▸ hb) fun h => d.off p h
theorem UnrEnd.del {h₀ : Heap} {L I : Addr} {it : Obj} {rest : (Str → Option Value) → List (Addr × Obj) → Prop} {s₁ : Shared} {h' : Heap} {tk : Nat} {m' : Str → Option Value} {all news' : List (Addr × Obj)} (F : Fr h₀ L h' m') (N : News h₀ L h' all)
    (D : Del I it all news') (r : rest m' news') : UnrEnd h₀ L s₁ I it rest { s₁ with heap := h', toks := tk } :=
  UnrEnd.intro F N news' (fun p hp => (List.mem_cons.mp hp).elim (fun e => e ▸ D.here) (D.sub p)) D.off r
theorem allLt_mono {a b : Nat} (h : a ≤ b) : ∀ {l : List (Addr × Obj)}, AllLt a l → AllLt b l
  | [], _ => trivial
  | _ :: _, x => ⟨Nat.lt_of_lt_of_le x.1 h, allLt_mono h x.2⟩
theorem allLt_off {a : Addr} {l : List (Addr × Obj)} (h : AllLt a l) : OwnOff l [a] := fun p hp b hb => by
  rw [List.mem_singleton.mp hb]; exact allLt_ne h p hp
theorem allLt_mem {a : Nat} : ∀ {l : List (Addr × Obj)}, AllLt a l → ∀ p ∈ l, @LT.lt Nat _ p.1 a
  | [], _, _, hp => nomatch hp
  | _ :: _, h, p, hp => (List.mem_cons.mp hp).elim (fun e => e ▸ h.1) (allLt_mem h.2 p)
theorem allLt_app {a : Nat} {l l' : List (Addr × Obj)} (h : AllLt a l) (h' : AllLt a l') : AllLt a (l ++ l') :=
  allLt_of fun p hp => (List.mem_append.mp hp).elim (allLt_mem h p) (allLt_mem h' p)
theorem off_two {l : List (Addr × Obj)} {a : Addr} {as : List Addr} (h : AllLt a l) (h' : OwnOff l as) : OwnOff l (a :: as) := fun p hp b hb => by
  rcases List.mem_cons.mp hb with rfl | hb
  · exact allLt_ne h p hp
  · exact h' p hp b hb
end Mine
end
section
open PySem PySem.Spec PySem.Calls PySem.W PyProof.Rows
set_option Elab.async false
set_option maxRecDepth 100000
namespace Mine
/-! a loop over a range whose turns make objects that stay -/
def GrowEnd (h₀ : Heap) (L I : Addr) (it : Obj) (J : (Str → Option Value) → List (Addr × Obj) → Prop) (s₁ s₂ : Shared) : Prop :=
  ∃ h' tk m' nx', s₂ = { s₁ with heap := h', toks := tk } ∧ Fr h₀ L h' m' ∧ News h₀ L h' ((I, it) :: nx') ∧ (∀ p ∈ nx', p.1 ≠ I) ∧ J m' nx'
def GrowPost (h₀ : Heap) (L I : Addr) (it : Obj) (J : (Str → Option Value) → List (Addr × Obj) → Prop) (s₁ : Shared) (Q : Flow → Shared → Prop) (f : Flow) (s₂ : Shared) : Prop :=
  match f with
  | .ret v => Q (.ret v) s₂
  | .brk => Q .next s₂
  | _ => GrowEnd h₀ L I it J s₁ s₂
theorem grow_next {h₀ : Heap} {L I : Addr} {it : Obj} {J : (Str → Option Value) → List (Addr × Obj) → Prop} {s₁ : Shared} {Q : Flow → Shared → Prop} {h' : Heap} {tk : Nat} {m' : Str → Option Value} {nx' : List (Addr × Obj)}
    (F : Fr h₀ L h' m') (N : News h₀ L h' ((I, it) :: nx')) (hn : ∀ p ∈ nx', p.1 ≠ I) (hj : J m' nx') : GrowPost h₀ L I it J s₁ Q .next { s₁ with heap := h', toks := tk } :=
  ⟨h', tk, m', nx', rfl, F, N, hn, hj⟩
section
variable {prog : Program} {w : World} {A : Around} {E : Value → Shared → Prop} {s : Shared} {env : Env} {h₀ : Heap} {x : Str} {body : List Stmt} {Q : Flow → Shared → Prop}
theorem range_grow {r : Addr} {b₀ : Int} {t₀ u₀ v₀ : Tok} {n : Nat} {m₀ : Str → Option Value} {news : List (Addr × Obj)} (J : Nat → (Str → Option Value) → List (Addr × Obj) → Prop)
    (hh : A.handled = none) (hr : IsRange s.heap r 0 b₀ 1 t₀ u₀ v₀) (hb : b₀ = (n : Int)) (hb1 : n < 1000000)
    (F : Fr h₀ env.locals s.heap m₀) (N : News h₀ env.locals s.heap news) (hj : J 0 m₀ news)
    (turn : ∀ i t m₁ nx h tk I it, i < n → J i m₁ nx → (∀ p ∈ nx, p.1 ≠ I) → Fr h₀ env.locals h (fun y => if y = x then some (.int (i : Int) t) else m₁ y) → News h₀ env.locals h ((I, it) :: nx) →
      wpAny (model prog w) A (execs body env) (GrowPost h₀ env.locals I it (J (i + 1)) { s with heap := h, toks := tk } Q) E { s with heap := h, toks := tk })
    (done : ∀ m₁ nx h tk, J n m₁ nx → Fr h₀ env.locals h m₁ → News h₀ env.locals h nx → Q .next { s with heap := h, toks := tk }) :
    wpAny (model prog w) A (pyIter (.ref r)) (fun it s₂ => LoopAtV prog w A h₀ env x body Q E it s₂) E s := by
  subst hb
  have hn : Builtin.Range.rangeSize 0 (n : Int) 1 = (n : Int) := by rw [rangeSize_nat]; simp
  refine wpAny_pyIter_range hr (small_one (by omega) (by omega) (by omega) (by omega)) ?_
  have W := Walks.range (prog := prog) (w := w) hh s.heap.objs.size 0 1 n
  refine ⟨_, _, _, n, _, _, m₀, news, J, rfl, W, ?_, ?_, ?_, (by show IsRangeIter _ _ _ _ _; rw [hn]; simpa using Heap.get?_push_size _ rfl), F.push _, (fun p hp => ⟨Heap.get?_push_of_some _ (N p hp).1, (N p hp).2⟩), hj, ?_, ?_⟩
  · intro hm
    exact absurd F.ns.lt ((List.mem_singleton.mp hm) ▸ Nat.lt_irrefl _)
  · intro b hb
    rw [List.mem_singleton.mp hb]
    exact next_is_new F
  · intro p hp hI
    exact absurd (Heap.lt_size (N p hp).1) ((List.mem_singleton.mp hI) ▸ Nat.lt_irrefl _)
  · rintro i v m₁ nx s₁ own ⟨hh', tk', rfl⟩ hi ⟨t, rfl⟩ hJ hoff hown hat hall hst F₁ N₁
    obtain ⟨it, hI, hst'⟩ : ∃ it, (s.heap.objs.size, it) ∈ own ∧ hh'.get? s.heap.objs.size = some it := ⟨_, hall _ (.head _) (next_is_new F) _ hst, hst⟩
    have e1 : (0 : Int) + (i : Nat) * 1 = (i : Int) := by omega
    rw [e1] at F₁
    have ne : ∀ p ∈ nx, p.1 ≠ s.heap.objs.size := fun p hp e => hoff p hp (by rw [e]; exact .head _)
    refine wpAny_mono (turn i t m₁ nx hh' tk' _ it hi hJ ne F₁ (News.sub N₁ fun p hp => ?_)) (fun f s₂ p => ?_) fun _ _ e => e
    · rcases List.mem_cons.mp hp with rfl | hp
      · exact List.mem_append_left _ hI
      · exact List.mem_append_right _ hp
    · have fin : GrowEnd h₀ env.locals s.heap.objs.size it (J (i + 1)) { s with heap := hh', toks := tk' } s₂ → LoopStepU h₀ env.locals [s.heap.objs.size] own (J (i + 1)) { s with heap := hh', toks := tk' } .next s₂ := by
        rintro ⟨h', tk, m', nx', e, F', N', hn', hj'⟩
        refine ⟨rfl, h', tk, m', nx', e, F', fun p hp => ?_, fun p hp hm => hn' p hp (List.mem_singleton.mp hm), hj'⟩
        rcases List.mem_append.mp hp with hp | hp
        · have q1 : p.1 = s.heap.objs.size := List.mem_singleton.mp (hown p hp)
          have q2 := hat p hp
          rw [q1] at q2
          have q3 := Option.some.inj (q2.symm.trans hst')
          obtain ⟨pa, po⟩ := p
          dsimp only at q1 q3
          subst q1; subst q3
          exact N' _ (.head _)
        · exact N' p (.tail _ hp)
      cases f with
      | ret v => exact .ret p
      | brk => exact .brk p
      | next => exact .next (fin p)
      | cont => exact .cont (fin p)
  · rintro h' tk m' news' F' N' _ hJ
    exact done m' news' h' tk hJ F' N'
end
/-- a frame that two names alone have turned -/
theorem canon2 {a b : Str} {M m₀ : Str → Option Value} (h : ∀ z, z ≠ a → z ≠ b → M z = m₀ z) : M = fun y => if y = a then M a else if y = b then M b else m₀ y := by
  funext y
  by_cases h1 : y = a
  · simp [h1]
  · by_cases h2 : y = b
    · subst h2; rw [if_neg h1, if_pos rfl]
    · simp only [if_neg h1, if_neg h2]; exact h y h1 h2
end Mine
end
section
set_option maxRecDepth 100000
namespace Mine
/-! the carry -/
def fl (p : List UInt8) (x : UInt8) (n j : Nat) : List UInt8 := p ++ x :: (List.replicate n 255 ++ List.replicate j 0)
theorem fl_length {p : List UInt8} {x : UInt8} {n j : Nat} : (fl p x n j).length = p.length + 1 + n + j := by
  simp only [fl, List.length_append, List.length_cons, List.length_replicate]; omega
theorem fl_get_x {p : List UInt8} {x : UInt8} {j : Nat} : (fl p x 0 j).getD p.length 0 = x := by
  simp [fl, List.getD]
theorem fl_get {p : List UInt8} {x : UInt8} {n j : Nat} : (fl p x (n + 1) j).getD (p.length + (n + 1)) 0 = 255 := by
  unfold fl
  rw [List.getD_eq_getElem?_getD, List.getElem?_append_right (by omega)]
  have e : p.length + (n + 1) - p.length = n + 1 := by omega
  rw [e, List.getElem?_cons_succ, List.getElem?_append_left (by simp), List.getElem?_replicate]
  simp
theorem fl_set_x {p : List UInt8} {x y : UInt8} {j : Nat} : (fl p x 0 j).set p.length y = fl p y 0 j := by
  simp [fl]
theorem fl_set {p : List UInt8} {x : UInt8} {n j : Nat} : (fl p x (n + 1) j).set (p.length + (n + 1)) 0 = fl p x n (j + 1) := by
  unfold fl
  rw [List.set_append_right _ _ (by omega)]
  have e : p.length + (n + 1) - p.length = n + 1 := by omega
  rw [e, List.set_cons_succ]
  congr 2
  rw [List.replicate_succ', List.append_assoc, List.set_append_right _ _ (by simp)]
  simp [List.replicate_succ]
theorem fl_N {p : List UInt8} {x : UInt8} {k : Nat} (hx : x.toNat < 255) : N (fl p (x + 1) 0 k) = N (fl p x k 0) + 1 := by
  have e1 : fl p (x + 1) 0 k = (p ++ [x + 1]) ++ List.replicate k 0 := by simp [fl]
  have e2 : fl p x k 0 = (p ++ [x]) ++ List.replicate k 255 := by simp [fl]
  rw [e1, e2, N_zero, N_full, N_snoc, N_snoc]
  have e3 : (x + 1).toNat = x.toNat + 1 := by
    rw [UInt8.toNat_add]
    show (x.toNat + 1) % 256 = _
    omega
  rw [e3]
  rfl
theorem N_lt (b : List UInt8) : N b < 256 ^ b.length := by
  have h := (R_between (b := b) 0 b.length).2
  simp only [R, Nat.zero_add, Nat.one_mul] at h
  exact h
theorem fl_of : ∀ (n : Nat) (b : List UInt8), b.length = n → N b + 1 < 256 ^ n → ∃ p x k, b = fl p x k 0 ∧ x.toNat < 255
  | 0, b, hb, h => by simp at h
  | n + 1, b, hb, h => by
    have hne : b ≠ [] := by intro e; rw [e] at hb; simp at hb
    obtain ⟨a, x, rfl⟩ : ∃ a x, b = a ++ [x] := ⟨b.dropLast, b.getLast hne, (List.dropLast_concat_getLast hne).symm⟩
    have ha : a.length = n := by simp at hb; exact hb
    by_cases hx : x.toNat < 255
    · exact ⟨a, x, 0, by simp [fl], hx⟩
    · have hx' : x.toNat = 255 := by have := UInt8.toNat_lt x; omega
      have hx2 : x = 255 := UInt8.toNat_inj.mp hx'
      rw [N_snoc, hx', Nat.pow_succ] at h
      obtain ⟨p, y, k, rfl, hy⟩ := fl_of n a ha (by omega)
      refine ⟨p, y, k + 1, ?_, hy⟩
      rw [hx2]
      simp [fl, List.replicate_succ']
theorem octet_carry {p : List UInt8} {x y z : UInt8} {j c : Nat} (hx : x.toNat < 255) (hy : y.toNat = x.toNat + 1) (hz : z.toNat = c - 256) (hc : 256 ≤ c) :
    (fl p y 0 j ++ [z]).length = (fl p x j 0).length + 1 ∧ N (fl p y 0 j ++ [z]) = N (fl p x j 0) * 256 + c := by
  refine ⟨by rw [List.length_append, fl_length, fl_length]; simp, ?_⟩
  have e : y = x + 1 := UInt8.toNat_inj.mp (by rw [hy, UInt8.toNat_add]; show x.toNat + 1 = (x.toNat + 1) % 256; omega)
  rw [N_snoc, e, fl_N hx, hz]
  omega
theorem octet_plain {b : List UInt8} {z : UInt8} {c : Nat} (hz : z.toNat = c) : (b ++ [z]).length = b.length + 1 ∧ N (b ++ [z]) = N b * 256 + c := by
  refine ⟨by simp, ?_⟩
  rw [N_snoc, hz]
theorem u8_of {k : Int} {n : Nat} (h : k = (n : Int)) (hn : n < 256) : k.toNat.toUInt8.toNat = n := by
  subst h
  rw [Int.toNat_natCast]
  show n % 256 = n
  omega
end Mine
end
section
set_option maxRecDepth 100000
namespace Mine
/-! the writer's state -/
def EncRep (fs : List UInt8) (C n z : Nat) (code left : Int) : Prop :=
  ∃ l c : Nat, left = (l : Int) ∧ code = (c : Int) ∧ 1 ≤ l ∧ l ≤ 11 ∧ n + l = 8 * fs.length + 11 ∧ C = N fs * 2 ^ (27 - l) + c ∧ c + z ≤ 9 * 2 ^ (24 - l) ∧ C + z ≤ 2 ^ (16 + n)
theorem EncRep.left_range {fs C n z code left} (h : EncRep fs C n z code left) : 1 ≤ left ∧ left ≤ 11 := by
  obtain ⟨l, c, h1, h2, h3, h4, h5, h6, h7, h8⟩ := h
  exact h1 ▸ ⟨Int.ofNat_le.mpr h3, Int.ofNat_le.mpr h4⟩
theorem c_bound {c z l : Nat} (h3 : 1 ≤ l) (h7 : c + z ≤ 9 * 2 ^ (24 - l)) : c ≤ 75497472 :=
  Nat.le_trans (Nat.le_trans (Nat.le_add_right c z) h7) (Nat.mul_le_mul_left 9 (Nat.pow_le_pow_right (by decide) (Nat.sub_le_sub_left h3 24)))
theorem EncRep.code_range {fs C n z code left} (h : EncRep fs C n z code left) : 0 ≤ code ∧ code ≤ 75497472 := by
  obtain ⟨l, c, h1, h2, h3, h4, h5, h6, h7, h8⟩ := h
  exact h2 ▸ ⟨Int.natCast_nonneg _, Int.ofNat_le.mpr (c_bound h3 h7)⟩
theorem len_ar {l n k : Nat} (h4 : l ≤ 11) (h5 : n + l = k + 11) : k ≤ n := by omega
theorem EncRep.length_le {fs C n z code left} (h : EncRep fs C n z code left) : 8 * fs.length ≤ n := by
  obtain ⟨l, c, h1, h2, h3, h4, h5, h6, h7, h8⟩ := h; exact len_ar h4 h5
theorem EncRep.lower {fs C n z z' code left} (h : EncRep fs C n z code left) (hz : z' ≤ z) : EncRep fs C n z' code left := by
  obtain ⟨l, c, h1, h2, h3, h4, h5, h6, h7, h8⟩ := h
  exact ⟨l, c, h1, h2, h3, h4, h5, h6, Nat.le_trans (Nat.add_le_add_left hz c) h7, Nat.le_trans (Nat.add_le_add_left hz C) h8⟩
theorem EncRep.upper {fs C n z y} {code left : Int} (h : EncRep fs C n z code left) (hy : y ≤ z) : EncRep fs (C + y) n (z - y) (code + y) left := by
  obtain ⟨l, c, h1, h2, h3, h4, h5, h6, h7, h8⟩ := h
  exact ⟨l, c + y, h1, by rw [h2]; rfl, h3, h4, h5, by rw [h6, Nat.add_assoc], by rw [Nat.add_assoc, Nat.add_sub_cancel' hy]; exact h7, by rw [Nat.add_assoc, Nat.add_sub_cancel' hy]; exact h8⟩
theorem pow_step {l k : Nat} (h1 : 1 ≤ l) (h2 : l ≤ k) : 2 ^ (k - (l - 1)) = 2 * 2 ^ (k - l) := by
  rw [← Nat.pow_succ', ← Nat.succ_sub h2, ← Nat.sub_add_cancel h1, Nat.add_sub_cancel, Nat.succ_sub_succ]
theorem pow_next (n : Nat) : 2 ^ (16 + (n + 1)) = 2 * 2 ^ (16 + n) := by rw [← Nat.add_assoc, Nat.pow_succ, Nat.mul_comm]
theorem EncRep.double {fs C n z} {code left : Int} (h : EncRep fs C n z code left) (hl : left - 1 ≠ 0) : EncRep fs (2 * C) (n + 1) (2 * z) (code * 2) (left - 1) := by
  obtain ⟨l, c, h1, h2, h3, h4, h5, h6, h7, h8⟩ := h
  have e1 : left - 1 = ((l - 1 : Nat) : Int) := by rw [h1, Int.ofNat_sub h3]; rfl
  refine ⟨l - 1, 2 * c, e1, by rw [h2, Int.mul_comm]; rfl, Nat.one_le_iff_ne_zero.mpr fun e => hl (by rw [e1, e]; rfl), Nat.le_trans (Nat.sub_le _ _) h4, by rw [Nat.add_assoc, Nat.add_comm 1, Nat.sub_add_cancel h3]; exact h5, ?_, ?_, ?_⟩
  · rw [pow_step h3 (Nat.le_trans h4 (by decide)), h6]
    rw [Nat.mul_left_comm, ← Nat.mul_add]
  · rw [pow_step h3 (Nat.le_trans h4 (by decide)), ← Nat.mul_add, Nat.mul_left_comm]; exact Nat.mul_le_mul_left 2 h7
  · rw [pow_next, ← Nat.mul_add]; exact Nat.mul_le_mul_left 2 h8
theorem out_e {n k : Nat} (h : n + 1 = k + 11) : 16 + (n + 1) = 27 + k := by omega
theorem out_1 {c z : Nat} (h : c + z ≤ 9 * 8388608) (hz : 1 ≤ z) : 2 * c / 524288 < 512 := by omega
theorem out_2 {c z C P L : Nat} (h6 : C = L + c) (h8 : C + z ≤ P) (hz : 1 ≤ z) {X : Nat} (e : X = 2 * P) : 2 * L + 2 * c < X := by omega
theorem out_3 {F c Y : Nat} (hv : 256 ≤ 2 * c / 524288) (h : 2 * (F * 67108864) + 2 * c < 134217728 * Y) : (F + 1) * 134217728 < Y * 134217728 := by omega
theorem out_4 {n k : Nat} (h : n + 1 = k + 11) : n + 1 + 8 = k + 8 + 11 := by omega
theorem out_5 {F c : Nat} : 2 * (F * 67108864 + c) = (F * 256 + 2 * c / 524288) * 524288 + 2 * c % 524288 := by omega
theorem out_6 {c z : Nat} (hz : 2 * z ≤ 65536) : 2 * c % 524288 + 2 * z ≤ 9 * 65536 := by omega
/-- the octet that goes out -/
theorem EncRep.out {fs C n z} {code left : Int} (h : EncRep fs C n z code left) (hl : left - 1 = 0) (hz1 : 1 ≤ z) (hz : 2 * z ≤ 65536) :
    ∃ c : Nat, code * 2 = (c : Int) ∧ c / 524288 < 512 ∧ (256 ≤ c / 524288 → ∃ p x k, fs = fl p x k 0 ∧ x.toNat < 255) ∧
      ∀ fs' : List UInt8, fs'.length = fs.length + 1 → N fs' = N fs * 256 + c / 524288 → EncRep fs' (2 * C) (n + 1) (2 * z) ((c % 524288 : Nat) : Int) 8 := by
  obtain ⟨l, c, h1, h2, h3, h4, h5, h6, h7, h8⟩ := h
  have hl1 : l = 1 := Int.ofNat_inj.mp (h1.symm.trans (Int.sub_eq_zero.mp hl))
  subst hl1
  have p1 : (2 : Nat) ^ (27 - 1) = 67108864 := rfl
  have p2 : (2 : Nat) ^ (24 - 1) = 8388608 := rfl
  rw [p1] at h6
  rw [p2] at h7
  have e27 : 2 ^ (16 + (n + 1)) = 134217728 * 256 ^ fs.length := by
    rw [out_e h5, Nat.pow_add, Nat.pow_mul]
  refine ⟨2 * c, by rw [h2, Int.mul_comm]; rfl, out_1 h7 hz1, fun hv => ?_, fun fs' hlen hN => ?_⟩
  · exact fl_of fs.length fs rfl (Nat.lt_of_mul_lt_mul_right (out_3 hv (e27 ▸ out_2 h6 h8 hz1 (pow_next n))))
  · refine ⟨8, 2 * c % 524288, rfl, rfl, by decide, by decide, by rw [hlen]; exact out_4 h5, ?_, out_6 hz, by rw [pow_next, ← Nat.mul_add]; exact Nat.mul_le_mul_left 2 h8⟩
    have p3 : (2 : Nat) ^ (27 - 8) = 524288 := rfl
    rw [p3, hN, h6]
    exact out_5
end Mine
end
section
set_option maxRecDepth 100000
namespace Mine
section
variable {T : Int → Nat → Int} {σ : St} {i : Nat} {bit : Int} {t : Nat × Nat × Nat} {N' : List Int}
theorem putP_stay (h : bit = σ.ns.getD i 0) (h1 : 32768 ≤ σ.z - lw T σ i) : putP T σ i bit = ⟨σ.ss, σ.ns, σ.C, σ.z - lw T σ i, σ.n⟩ := by
  unfold putP; rw [if_pos h, if_pos h1]
theorem putP_more_up (h : bit = σ.ns.getD i 0) (h1 : ¬ 32768 ≤ σ.z - lw T σ i) (h2 : σ.z - lw T σ i < lw T σ i) (h3 : norm 16 (σ.C + (σ.z - lw T σ i)) (lw T σ i) σ.n = t) : putP T σ i bit = .of (moreS T σ.ss i) σ.ns t := by
  unfold putP; rw [if_pos h, if_neg h1, if_pos h2, h3]
theorem putP_more_low (h : bit = σ.ns.getD i 0) (h1 : ¬ 32768 ≤ σ.z - lw T σ i) (h2 : ¬ σ.z - lw T σ i < lw T σ i) (h3 : norm 16 σ.C (σ.z - lw T σ i) σ.n = t) : putP T σ i bit = .of (moreS T σ.ss i) σ.ns t := by
  unfold putP; rw [if_pos h, if_neg h1, if_neg h2, h3]
theorem putP_less_up (h : bit ≠ σ.ns.getD i 0) (h2 : lw T σ i ≤ σ.z - lw T σ i) (h3 : norm 16 (σ.C + (σ.z - lw T σ i)) (lw T σ i) σ.n = t) (h4 : lessN T σ.ss σ.ns i = N') : putP T σ i bit = .of (lessS T σ.ss i) N' t := by
  unfold putP; rw [if_neg h, if_pos h2, h3, h4]
theorem putP_less_low (h : bit ≠ σ.ns.getD i 0) (h2 : ¬ lw T σ i ≤ σ.z - lw T σ i) (h3 : norm 16 σ.C (σ.z - lw T σ i) σ.n = t) (h4 : lessN T σ.ss σ.ns i = N') : putP T σ i bit = .of (lessS T σ.ss i) N' t := by
  unfold putP; rw [if_neg h, if_neg h2, h3, h4]
end
end Mine
end
section
set_option maxRecDepth 100000
namespace Mine
/-- the point with the most zeros that the end takes -/
def topOf (c z : Nat) : Nat := if (c + z - 1) / 65536 * 65536 < c then (c + z - 1) / 65536 * 65536 + 32768 else (c + z - 1) / 65536 * 65536
theorem top_q {m q : Nat} (hq : m / 65536 = q) : q * 65536 ≤ m ∧ m < q * 65536 + 65536 := by omega
theorem top_0 {c z q : Nat} (h1 : 1 ≤ z) (h2 : z ≤ 65536) (h3 : q * 65536 ≤ c + z - 1) (e : c = 0) : q * 65536 = 0 := by omega
theorem top_a {c z r : Nat} (h1 : 32768 ≤ z) (h4 : c + z - 1 < r + 65536) : c ≤ r + 32768 := by omega
theorem top_c {c z r : Nat} (h1 : 1 ≤ z) (h3 : r ≤ c + z - 1) : r < c + z := by omega
theorem topOf_spec {c z : Nat} (h1 : 32768 ≤ z) (h2 : z ≤ 65536) : c ≤ topOf c z ∧ topOf c z < c + z ∧ topOf c z % 32768 = 0 ∧ (c = 0 → topOf c z = 0) := by
  unfold topOf
  have hz : 1 ≤ z := Nat.le_trans (by decide) h1
  obtain ⟨h3, h4⟩ := top_q (m := c + z - 1) rfl
  generalize (c + z - 1) / 65536 = q at *
  have m2 : (q * 65536) % 32768 = 0 := by
    show (q * (2 * 32768)) % 32768 = 0
    rw [← Nat.mul_assoc]; exact Nat.mul_mod_left _ _
  have m1 : (q * 65536 + 32768) % 32768 = 0 := by rw [Nat.add_mod_right]; exact m2
  by_cases hc : q * 65536 < c
  · rw [if_pos hc]
    exact ⟨top_a h1 h4, Nat.add_lt_add_of_lt_of_le hc h1, m1, fun e => absurd (e ▸ hc) (Nat.not_lt_zero _)⟩
  · rw [if_neg hc]
    exact ⟨Nat.le_of_not_lt hc, top_c hz h3, m2, top_0 hz h2 h3⟩
theorem top_yes {c z : Nat} (h : (((c + z - 1) / 65536 : Nat) : Int) * (2 * 32768) < (c : Int)) : (((c + z - 1) / 65536 : Nat) : Int) * (2 * 32768) + 32768 = ((topOf c z : Nat) : Int) := by
  unfold topOf
  generalize (c + z - 1) / 65536 = q at *
  rw [if_pos (by omega)]
  omega
theorem top_no {c z : Nat} (h : ¬ (((c + z - 1) / 65536 : Nat) : Int) * (2 * 32768) < (c : Int)) : (((c + z - 1) / 65536 : Nat) : Int) * (2 * 32768) = ((topOf c z : Nat) : Int) := by
  unfold topOf
  generalize (c + z - 1) / 65536 = q at *
  rw [if_neg (by omega)]
  omega
theorem fin_e {n l k : Nat} (h : n + l = k + 11) : 16 + n + l = 27 + k := by omega
theorem fin_l {n l k : Nat} (h : n + l = 8 * k + 11) : 8 * (k + 1 + 1) = n + l + 5 := by omega
theorem fin_3 {F q Y : Nat} (hv : 256 ≤ q / 524288) (h : F * 134217728 + q < 134217728 * Y) : (F + 1) * 134217728 < Y * 134217728 := by omega
theorem fin_5 {F k : Nat} : ((F * 256 + 65536 * k / 524288) * 256 + 65536 * k % 524288 * 256 / 524288) * 524288 = (F * 134217728 + 65536 * k) * 256 := by omega
theorem EncRep.finish {fs C n z} {code left : Int} (h : EncRep fs C n z code left) (hz1 : 32768 ≤ z) (hz2 : z ≤ 65536) :
    ∃ c l : Nat, code = (c : Int) ∧ left = (l : Int) ∧ 1 ≤ l ∧ l ≤ 11 ∧ topOf c z < 100000000 ∧ topOf c z * 2 ^ l < 268435456 ∧ topOf c z * 2 ^ l / 524288 < 512 ∧ (256 ≤ topOf c z * 2 ^ l / 524288 → ∃ p x k, fs = fl p x k 0 ∧ x.toNat < 255) ∧
      ∀ fs1 fs2 : List UInt8, fs1.length = fs.length + 1 → N fs1 = N fs * 256 + topOf c z * 2 ^ l / 524288 → fs2.length = fs1.length + 1 → N fs2 = N fs1 * 256 + (topOf c z * 2 ^ l % 524288) * 256 / 524288 →
        ∃ V, C ≤ V ∧ V < C + z ∧ (C = 0 → V = 0) ∧ N fs2 * 2 ^ 19 = V * 2 ^ (l + 8) ∧ 8 * fs2.length = n + l + 5 := by
  obtain ⟨l, c, h1, h2, h3, h4, h5, h6, h7, h8⟩ := h
  obtain ⟨t1, t2, t3, t4⟩ := topOf_spec (c := c) hz1 hz2
  have hpl : 0 < 2 ^ l := Nat.pow_pos (by decide)
  have e24 : 2 ^ (24 - l) * 2 ^ l = 16777216 := by rw [← Nat.pow_add, Nat.sub_add_cancel (Nat.le_trans h4 (by decide))]
  have e27 : 2 ^ (27 - l) * 2 ^ l = 134217728 := by rw [← Nat.pow_add, Nat.sub_add_cancel (Nat.le_trans h4 (by decide))]
  have eall : 2 ^ (16 + n) * 2 ^ l = 134217728 * 256 ^ fs.length := by
    rw [← Nat.pow_add, fin_e h5, Nat.pow_add, Nat.pow_mul]
  have bt : topOf c z < 9 * 2 ^ (24 - l) := Nat.lt_of_lt_of_le t2 h7
  have b1 : topOf c z * 2 ^ l < 9 * 2 ^ (24 - l) * 2 ^ l := Nat.mul_lt_mul_of_pos_right bt hpl
  have b2 : (N fs * 2 ^ (27 - l) + topOf c z) * 2 ^ l < 2 ^ (16 + n) * 2 ^ l := Nat.mul_lt_mul_of_pos_right (Nat.lt_of_lt_of_le (Nat.add_lt_add_left t2 _) (by rw [← Nat.add_assoc, ← h6]; exact h8)) hpl
  rw [Nat.mul_assoc, e24] at b1
  rw [Nat.add_mul, Nat.mul_assoc, e27, eall] at b2
  have b24 : 2 ^ (24 - l) ≤ 2 ^ 23 := Nat.pow_le_pow_right (by decide) (Nat.sub_le_sub_left h3 24)
  obtain ⟨u, hu⟩ := Nat.dvd_of_mod_eq_zero t3
  have hr : (2 : Nat) ^ l = 2 * 2 ^ (l - 1) := by rw [← Nat.pow_succ', Nat.succ_eq_add_one, Nat.sub_add_cancel h3]
  have hm : topOf c z * 2 ^ l = 65536 * (u * 2 ^ (l - 1)) := by
    rw [hu, hr, Nat.mul_mul_mul_comm]
  refine ⟨c, l, h2, h1, h3, h4, Nat.lt_of_lt_of_le bt (Nat.le_trans (Nat.mul_le_mul_left 9 b24) (by decide)), Nat.lt_of_lt_of_le b1 (by decide), Nat.div_lt_of_lt_mul (Nat.lt_of_lt_of_le b1 (by decide)), fun hv => ?_, fun fs1 fs2 l1 n1 l2 n2 => ⟨N fs * 2 ^ (27 - l) + topOf c z, by rw [h6]; exact Nat.add_le_add_left t1 _, by rw [h6, Nat.add_assoc]; exact Nat.add_lt_add_left t2 _, ?_, ?_, by rw [l2, l1]; exact fin_l h5⟩⟩
  · exact fl_of fs.length fs rfl (Nat.lt_of_mul_lt_mul_right (fin_3 hv b2))
  · intro hC
    obtain ⟨ha, hb⟩ := Nat.add_eq_zero_iff.mp (h6.symm.trans hC)
    rw [t4 hb, ha]
  · rw [n2, n1]
    have e8 : 2 ^ (l + 8) = 2 ^ l * 256 := by rw [Nat.pow_add]
    rw [e8, ← Nat.mul_assoc, Nat.add_mul (N fs * 2 ^ (27 - l)), Nat.mul_assoc (N fs), e27, hm]
    exact fin_5
/-- what is left when the zeros at the end go -/
theorem strip_get {b : List UInt8} {k i : Nat} : (b ++ List.replicate k 0).getD i 0 = b.getD i 0 := by
  rw [List.getD_eq_getElem?_getD, List.getD_eq_getElem?_getD]
  by_cases h : i < b.length
  · rw [List.getElem?_append_left h]
  · rw [List.getElem?_append_right (by omega), List.getElem?_eq_none (l := b) (by omega)]
    rw [List.getElem?_replicate]
    split <;> rfl
theorem strip_R {b : List UInt8} {k T : Nat} : R (b ++ List.replicate k 0) T = R b T := R_congr fun _ _ => strip_get
theorem strip_N {b fs : List UInt8} {k : Nat} (h : fs = b ++ List.replicate k 0) : R b fs.length = N fs := by
  subst h
  exact strip_R.symm
theorem strip_zero {b : List UInt8} {k : Nat} : ∀ i, (b ++ List.replicate k (0 : UInt8)).length ≤ i → b.getD i 0 = 0 := fun i h => by
  rw [List.getD_eq_getElem?_getD, List.getElem?_eq_none (by rw [List.length_append] at h; omega)]
  rfl
theorem R_pos {b : List UInt8} {T : Nat} (h : R b T = 0) : ∀ i, i < T → b.getD i 0 = 0 := by
  induction T with
  | zero => intro i hi; omega
  | succ T ih =>
    intro i hi
    rw [R] at h
    by_cases e : i = T
    · subst e
      exact UInt8.toNat_inj.mp (by show _ = 0; omega)
    · exact ih (by omega) i (by omega)
theorem none_left {b : List UInt8} {T : Nat} (h : R b T = 0) (hT : b.length ≤ T) (hl : ∀ a x, b = a ++ [x] → x ≠ 0) : b = [] := by
  rcases List.eq_nil_or_concat b with e | ⟨a, x, e⟩
  · exact e
  · rw [List.concat_eq_append] at e
    exfalso
    refine hl a x e ?_
    have q := R_pos h a.length (by rw [e] at hT; simp at hT; omega)
    rw [e] at q
    simpa [List.getD] using q
end Mine
end
section
set_option maxRecDepth 100000
namespace Mine
/-! the plain law: what the reader finds is what was written -/
/-- what the table of the states says -/
def TabOk (T : Int → Nat → Int) : Prop := ∀ s, 0 ≤ s → s < 114 → 1 ≤ T s 0 ∧ T s 0 ≤ 23314 ∧ 0 ≤ T s 1 ∧ T s 1 < 114 ∧ 0 ≤ T s 2 ∧ T s 2 < 114
structure WF (σ : St) : Prop where
  ls : σ.ss.length = 3
  ln : σ.ns.length = 3
  hs : ∀ x ∈ σ.ss, 0 ≤ x ∧ x < 114
  hn : ∀ x ∈ σ.ns, 0 ≤ x ∧ x < 2
  z1 : 32768 ≤ σ.z
  z2 : σ.z ≤ 65536
theorem getD_in {l : List Int} {i : Nat} (h : i < l.length) : l.getD i 0 ∈ l := by
  rw [List.getD_eq_getElem?_getD, List.getElem?_eq_getElem h]
  exact List.getElem_mem h
theorem mem_set {l : List Int} {i : Nat} {a x : Int} (h : x ∈ l.set i a) : x ∈ l ∨ x = a := List.mem_or_eq_of_mem_set h
section
variable {T : Int → Nat → Int} {σ : St} {i : Nat} {bit : Int}
theorem WF.at (h : WF σ) (hi : i < 3) : 0 ≤ σ.ss.getD i 0 ∧ σ.ss.getD i 0 < 114 := h.hs _ (getD_in (by rw [h.ls]; exact hi))
theorem WF.sense (h : WF σ) (hi : i < 3) : 0 ≤ σ.ns.getD i 0 ∧ σ.ns.getD i 0 < 2 := h.hn _ (getD_in (by rw [h.ln]; exact hi))
theorem WF.lw (ok : TabOk T) (h : WF σ) (hi : i < 3) : 1 ≤ Mine.lw T σ i ∧ Mine.lw T σ i ≤ 23314 := by
  obtain ⟨a, b⟩ := h.at hi
  obtain ⟨c, d, _⟩ := ok _ a b
  unfold Mine.lw
  omega
theorem WF.more (ok : TabOk T) (h : WF σ) (hi : i < 3) : (moreS T σ.ss i).length = 3 ∧ ∀ x ∈ moreS T σ.ss i, 0 ≤ x ∧ x < 114 := by
  obtain ⟨a, b⟩ := h.at hi
  have c := ok _ a b
  refine ⟨by unfold moreS; rw [List.length_set, h.ls], fun x hx => ?_⟩
  rcases mem_set hx with hx | rfl
  · exact h.hs x hx
  · omega
theorem WF.less (ok : TabOk T) (h : WF σ) (hi : i < 3) : (lessS T σ.ss i).length = 3 ∧ (∀ x ∈ lessS T σ.ss i, 0 ≤ x ∧ x < 114) ∧ (lessN T σ.ss σ.ns i).length = 3 ∧ ∀ x ∈ lessN T σ.ss σ.ns i, 0 ≤ x ∧ x < 2 := by
  obtain ⟨a, b⟩ := h.at hi
  obtain ⟨a', b'⟩ := h.sense hi
  have c := ok _ a b
  refine ⟨by unfold lessS; rw [List.length_set, h.ls], fun x hx => ?_, ?_, fun x hx => ?_⟩
  · rcases mem_set hx with hx | rfl
    · exact h.hs x hx
    · omega
  · unfold lessN; split
    · rw [List.length_set, h.ln]
    · exact h.ln
  · unfold lessN at hx
    split at hx
    · rcases mem_set hx with hx | rfl
      · exact h.hn x hx
      · omega
    · exact h.hn x hx
/-- the part of the line that a state stands for, nf bits fine -/
def In (V nf : Nat) (σ : St) : Prop := σ.n ≤ nf ∧ σ.C * 2 ^ (nf - σ.n) ≤ V ∧ V < (σ.C + σ.z) * 2 ^ (nf - σ.n)
theorem pow_join {n j nf x : Nat} (h : n + j ≤ nf) : x * 2 ^ j * 2 ^ (nf - (n + j)) = x * 2 ^ (nf - n) := by
  rw [Nat.mul_assoc, ← Nat.pow_add, Nat.sub_add_eq, Nat.add_sub_cancel' (Nat.le_sub_of_add_le' h)]
/-- every way of a decision: a part, doubled -/
theorem put_form (ok : TabOk T) (h : WF σ) (hi : i < 3) :
    ∃ lower j, WF (putP T σ i bit) ∧ j ≤ 16 ∧ (putP T σ i bit).n = σ.n + j ∧
      (putP T σ i bit).C = (if lower = true then σ.C else σ.C + (σ.z - Mine.lw T σ i)) * 2 ^ j ∧
      (putP T σ i bit).z = (if lower = true then σ.z - Mine.lw T σ i else Mine.lw T σ i) * 2 ^ j ∧
      ((bit = σ.ns.getD i 0 ∨ bit = 1 - σ.ns.getD i 0) → getP T σ i lower = (bit, putP T σ i bit)) := by
  obtain ⟨l1, l2⟩ := h.lw ok hi
  have z1 := h.z1
  have z2 := h.z2
  obtain ⟨m1, m2⟩ := h.more ok hi
  obtain ⟨q1, q2, q3, q4⟩ := h.less ok hi
  obtain ⟨s1, s2⟩ := h.sense hi
  by_cases hb : bit = σ.ns.getD i 0
  · by_cases c1 : 32768 ≤ σ.z - Mine.lw T σ i
    · have e := putP_stay (T := T) hb c1
      refine ⟨true, 0, ?_, by omega, by rw [e]; rfl, by rw [e]; simp, by rw [e]; simp, fun _ => ?_⟩
      · rw [e]; exact ⟨h.ls, h.ln, h.hs, h.hn, c1, Nat.le_trans (Nat.sub_le _ _) z2⟩
      · rw [e, getP_stay rfl c1, hb]
    · by_cases c2 : σ.z - Mine.lw T σ i < Mine.lw T σ i
      · obtain ⟨j, hj, hn, a, b⟩ := norm16 (C := σ.C + (σ.z - Mine.lw T σ i)) (z := Mine.lw T σ i) (n := σ.n) l1 (Nat.le_trans l2 (by decide))
        have e := putP_more_up (T := T) hb c1 c2 hn
        refine ⟨false, j, ?_, hj, by rw [e]; rfl, by rw [e]; rfl, by rw [e]; rfl, fun _ => ?_⟩
        · rw [e]; exact ⟨m1, h.ln, m2, h.hn, a, b⟩
        · rw [e, getP_up_more Bool.false_ne_true c2 hn, hb]
      · obtain ⟨j, hj, hn, a, b⟩ := norm16 (C := σ.C) (z := σ.z - Mine.lw T σ i) (n := σ.n) (one_sub z1 l2) (Nat.le_trans (Nat.sub_le _ _) z2)
        have e := putP_more_low (T := T) hb c1 c2 hn
        refine ⟨true, j, ?_, hj, by rw [e]; rfl, by rw [e]; rfl, by rw [e]; rfl, fun _ => ?_⟩
        · rw [e]; exact ⟨m1, h.ln, m2, h.hn, a, b⟩
        · rw [e, getP_low_more rfl c1 (by omega) hn, hb]
  · by_cases c2 : Mine.lw T σ i ≤ σ.z - Mine.lw T σ i
    · obtain ⟨j, hj, hn, a, b⟩ := norm16 (C := σ.C + (σ.z - Mine.lw T σ i)) (z := Mine.lw T σ i) (n := σ.n) l1 (Nat.le_trans l2 (by decide))
      have e := putP_less_up (T := T) hb c2 hn rfl
      refine ⟨false, j, ?_, hj, by rw [e]; rfl, by rw [e]; rfl, by rw [e]; rfl, fun hb' => ?_⟩
      · rw [e]; exact ⟨q1, q3, q2, q4, a, b⟩
      · rw [e, getP_up_less Bool.false_ne_true (by omega) hn rfl, hb'.resolve_left hb]
    · obtain ⟨j, hj, hn, a, b⟩ := norm16 (C := σ.C) (z := σ.z - Mine.lw T σ i) (n := σ.n) (one_sub z1 l2) (Nat.le_trans (Nat.sub_le _ _) z2)
      have e := putP_less_low (T := T) hb c2 hn rfl
      refine ⟨true, j, ?_, hj, by rw [e]; rfl, by rw [e]; rfl, by rw [e]; rfl, fun hb' => ?_⟩
      · rw [e]; exact ⟨q1, q3, q2, q4, a, b⟩
      · rw [e, getP_low_less rfl (by omega) c2 hn rfl, hb'.resolve_left hb]
theorem put_wf (ok : TabOk T) (h : WF σ) (hi : i < 3) : WF (putP T σ i bit) ∧ (putP T σ i bit).n ≤ σ.n + 16 := by
  obtain ⟨lower, j, a, b, c, _⟩ := put_form (bit := bit) ok h hi
  exact ⟨a, by rw [c]; exact Nat.add_le_add_left b _⟩
/-- what the reader does where the number lies in the part that the writer chose -/
theorem get_put {V nf : Nat} (ok : TabOk T) (h : WF σ) (hi : i < 3) (hb : 0 ≤ bit ∧ bit < 2) (hin : In V nf (putP T σ i bit)) :
    In V nf σ ∧ getP T σ i (decide (V < (σ.C + (σ.z - Mine.lw T σ i)) * 2 ^ (nf - σ.n))) = (bit, putP T σ i bit) := by
  obtain ⟨l1, l2⟩ := h.lw ok hi
  have z1 := h.z1
  obtain ⟨s1, s2⟩ := h.sense hi
  obtain ⟨lower, j, a, b, c, d, e, f⟩ := put_form (bit := bit) ok h hi
  obtain ⟨i1, i2, i3⟩ := hin
  rw [c] at i1 i2 i3
  rw [d] at i2
  rw [d, e, ← Nat.add_mul] at i3
  rw [pow_join i1] at i2 i3
  have g := f (by omega)
  have hp : 0 < 2 ^ (nf - σ.n) := Nat.pow_pos (by omega)
  cases lower with
  | true =>
    simp only [if_true] at i2 i3
    refine ⟨⟨Nat.le_trans (Nat.le_add_right _ _) i1, i2, Nat.lt_of_lt_of_le i3 (Nat.mul_le_mul_right _ (Nat.add_le_add_left (Nat.sub_le _ _) _))⟩, ?_⟩
    rw [decide_eq_true i3]; exact g
  | false =>
    simp only [Bool.false_eq_true, if_false] at i2 i3
    refine ⟨⟨Nat.le_trans (Nat.le_add_right _ _) i1, Nat.le_trans (Nat.mul_le_mul_right _ (Nat.le_add_right _ _)) i2, ?_⟩, ?_⟩
    · rw [Nat.add_assoc, Nat.sub_add_cancel (Nat.le_trans l2 (Nat.le_trans (by decide) z1))] at i3; exact i3
    · rw [decide_eq_false (Nat.not_lt.mpr i2)]; exact g
end
/-- the states that a row of decisions goes through -/
def encs (T : Int → Nat → Int) (σ₀ : St) (decs : List (Int × Int)) (k : Nat) : St := (decs.take k).foldl (fun σ d => putP T σ d.1.toNat d.2) σ₀
section
variable {T : Int → Nat → Int} {σ₀ : St} {decs : List (Int × Int)}
theorem at3 {a : Int} (h : 0 ≤ a) (h' : a < 3) : a.toNat < 3 := by omega
theorem encs_zero : encs T σ₀ decs 0 = σ₀ := rfl
theorem encs_succ {k : Nat} {d : Int × Int} (h : decs[k]? = some d) : encs T σ₀ decs (k + 1) = putP T (encs T σ₀ decs k) d.1.toNat d.2 := by
  unfold encs
  rw [List.take_add_one, h]
  simp
theorem encs_wf (ok : TabOk T) (h0 : WF σ₀) (hd : ∀ d ∈ decs, 0 ≤ d.1 ∧ d.1 < 3 ∧ 0 ≤ d.2 ∧ d.2 < 2) : ∀ k, WF (encs T σ₀ decs k) ∧ (encs T σ₀ decs k).n ≤ σ₀.n + 16 * k
  | 0 => ⟨h0, by rw [encs_zero]; omega⟩
  | k + 1 => by
    obtain ⟨a, b⟩ := encs_wf ok h0 hd k
    cases hk : decs[k]? with
    | none =>
      have e : encs T σ₀ decs (k + 1) = encs T σ₀ decs k := by
        unfold encs; rw [List.take_add_one, hk]; simp
      rw [e]; exact ⟨a, by omega⟩
    | some d =>
      rw [encs_succ hk]
      have q := hd d (List.mem_of_getElem? hk)
      obtain ⟨x, y⟩ := put_wf (bit := d.2) ok a (at3 q.1 q.2.1)
      exact ⟨x, by omega⟩
theorem encs_in {V nf : Nat} (ok : TabOk T) (h0 : WF σ₀) (hd : ∀ d ∈ decs, 0 ≤ d.1 ∧ d.1 < 3 ∧ 0 ≤ d.2 ∧ d.2 < 2) (hf : In V nf (encs T σ₀ decs decs.length)) : ∀ j k, k + j = decs.length → In V nf (encs T σ₀ decs k)
  | 0, k, h => by
    have : k = decs.length := by omega
    subst this; exact hf
  | j + 1, k, h => by
    have q := encs_in ok h0 hd hf j (k + 1) (by rw [Nat.add_assoc, Nat.add_comm 1]; exact h)
    have hk : decs[k]? = some decs[k] := List.getElem?_eq_getElem (by omega)
    rw [encs_succ hk] at q
    have d := hd decs[k] (List.getElem_mem _)
    exact (get_put ok (encs_wf ok h0 hd k).1 (at3 d.1 d.2.1) ⟨d.2.2.1, d.2.2.2⟩ q).1
end
end Mine
end
section
open PySem PySem.Calls PySem.W PyProof.Rows
set_option Elab.async false
set_option maxRecDepth 100000
set_option maxHeartbeats 8000000
namespace Mine
local macro_rules | `(tactic| walk_at $s:str) => `(tactic| k_extra $s)
local macro_rules | `(tactic| k_ne) => `(tactic| walk_at "ne")
theorem octet_in (w : World) {x dx : Addr} {e0 e1 e2 e3 e4 : Int} {k0 k1 k2 k3 k4 : Tok} {b : List UInt8} {tb ta ts tc tl : Tok} {at_ size code left : Int} {rest : List (Addr × Obj)} (off : OwnOff rest [x, dx]) (hne : Apt [x, dx])
    (h0 : 0 ≤ at_) (hb : b.length ≤ 4096) :
    Ct w 193 [.ref x] ((x, instObj 217 dx) :: (dx, decD e0 e1 e2 e3 e4 k0 k1 k2 k3 k4 b.toArray tb at_ ta size ts code tc left tl) :: rest) 3 16
      (fun K => ∀ at' ta' code' tc', at' = (if at_ < b.length then at_ + 1 else at_) → code' = code + (b.getD at_.toNat 0).toNat * 256 → K .none ((x, instObj 217 dx) :: (dx, decD e0 e1 e2 e3 e4 k0 k1 k2 k3 k4 b.toArray tb at' ta' size ts code' tc' left tl) :: rest)) := by
  k_with_none
  k_with "ne" => (first | exact Dif.ne (by assumption) | exact Dif.ne' (by assumption) | exact Nat.ne_of_lt (by assumption) | exact Nat.ne_of_gt (by assumption) | exact Nat.ne_of_gt (cj1 (by assumption)) | exact Nat.ne_of_lt (cj1 (by assumption)) | exact Nat.ne_of_gt (cj2 (by assumption)) | exact Nat.ne_of_lt (cj2 (by assumption)) | exact Nat.ne_of_gt (cj3 (by assumption)) | exact Nat.ne_of_lt (cj3 (by assumption)) | exact Nat.ne_of_gt (cj4 (by assumption)) | exact Nat.ne_of_lt (cj4 (by assumption)) | exact Nat.ne_of_gt (cj5 (by assumption)) | exact Nat.ne_of_lt (cj5 (by assumption)) | exact Nat.ne_of_gt (cj6 (by assumption)) | exact Nat.ne_of_lt (cj6 (by assumption)) | exact Nat.ne_of_gt (cj7 (by assumption)) | exact Nat.ne_of_lt (cj7 (by assumption)) | exact Nat.ne_of_gt (cj8 (by assumption)) | exact Nat.ne_of_lt (cj8 (by assumption)) | exact Nat.ne_of_gt (cj9 (by assumption)) | exact Nat.ne_of_lt (cj9 (by assumption)) | exact Nat.ne_of_gt (cl2 (by assumption)) | exact Nat.ne_of_lt (cl2 (by assumption)) | exact Nat.ne_of_gt (cl3 (by assumption)) | exact Nat.ne_of_lt (cl3 (by assumption)) | exact Nat.ne_of_gt (cl4 (by assumption)) | exact Nat.ne_of_lt (cl4 (by assumption)) | exact Nat.ne_of_gt (cl5 (by assumption)) | exact Nat.ne_of_lt (cl5 (by assumption)) | exact Nat.ne_of_gt (cl6 (by assumption)) | exact Nat.ne_of_lt (cl6 (by assumption)) | exact Nat.ne_of_gt (cl7 (by assumption)) | exact Nat.ne_of_lt (cl7 (by assumption)) | exact Nat.ne_of_gt (cl8 (by assumption)) | exact Nat.ne_of_lt (cl8 (by assumption)) | exact Nat.ne_of_gt (cl9 (by assumption)) | exact Nat.ne_of_lt (cl9 (by assumption)) | (refine neN ?_; (try dsimp only); omega))
  k_with "apt" => (repeat' (first | exact trivial | assumption | exact Dif.symm (by assumption) | exact Dif.mk (by walk_at "ne") | apply And.intro))
  k_with "sub" => (first | (intro p9 h9; k_ownIn) | exact List.forall_mem_nil _ | (refine List.forall_mem_cons.mpr ⟨by k_memK, ?_⟩; walk_at "sub"))
  k_with "binaryOp LShift int int" => ((k_here; (refine' lshift_int_small ?k1 ?k2 ?k3 ?_); (case k1 => omega); (case k2 => omega); (case k3 => first | omega | (rw [Int.natAbs_natCast]; refine Nat.lt_of_lt_of_le (UInt8.toNat_lt _) (by decide)))))
  refine apt2 hne fun hd1 => ?_
  unfold Ct
  k_fill
  intro dp un gd cn cs a ccd cl outer A₀ base h₀ L m s Q E mean mg mb B F X N T hk hd hu hret
  refine wpAny_call ?_
  k_dflt ktr_enter
  k_steps
  all_goals (refine hret _ _ _ _ ?_ ?_ _ _ (by assumption) (by assumption))
  all_goals (simp only [List.size_toArray] at *)
  · split <;> omega
  · rfl
  · split <;> omega
  · have : b.getD at_.toNat 0 = 0 := by
      rw [List.getD_eq_getElem?_getD, List.getElem?_eq_none (by omega)]; rfl
    rw [this]; simp
end Mine
end
section
open PySem PySem.Calls PySem.W PyProof.Rows
set_option Elab.async false
set_option maxRecDepth 100000
set_option maxHeartbeats 8000000
namespace Mine
local macro_rules | `(tactic| walk_at $s:str) => `(tactic| k_extra $s)
local macro_rules | `(tactic| k_ne) => `(tactic| walk_at "ne")

theorem widenD (w : World) {x dx : Addr} {e0 e1 e2 e3 e4 : Int} {k0 k1 k2 k3 k4 : Tok} {b : List UInt8} {tb ta ts tc tl : Tok} {at_ size code left : Int} {rest : List (Addr × Obj)} (off : OwnOff rest [x, dx]) (hne : Apt [x, dx])
    {C z n : Nat} (hb : b.length ≤ 4096) (hz : size = (z : Int)) (h1 : 1 ≤ z) (h2 : z ≤ 65536) (hr : DecRep b C n at_ left code) (hc : 0 ≤ code ∧ code < size * 65536) :
    Ct w 200 [.ref x] ((x, instObj 217 dx) :: (dx, decD e0 e1 e2 e3 e4 k0 k1 k2 k3 k4 b.toArray tb at_ ta size ts code tc left tl) :: rest) 5 32
      (fun K => ∀ at' ta' size' ts' code' tc' left' tl' C' z' n', norm 16 C z n = (C', z', n') → size' = (z' : Int) → DecRep b C' n' at' left' code' → 0 ≤ code' → code' < size' * 65536 →
        K .none ((x, instObj 217 dx) :: (dx, decD e0 e1 e2 e3 e4 k0 k1 k2 k3 k4 b.toArray tb at' ta' size' ts' code' tc' left' tl') :: rest)) := by
  k_with_none
  k_with "ne" => (first | exact Dif.ne (by assumption) | exact Dif.ne' (by assumption) | exact Nat.ne_of_lt (by assumption) | exact Nat.ne_of_gt (by assumption) | exact Nat.ne_of_gt (cj1 (by assumption)) | exact Nat.ne_of_lt (cj1 (by assumption)) | exact Nat.ne_of_gt (cj2 (by assumption)) | exact Nat.ne_of_lt (cj2 (by assumption)) | exact Nat.ne_of_gt (cj3 (by assumption)) | exact Nat.ne_of_lt (cj3 (by assumption)) | exact Nat.ne_of_gt (cj4 (by assumption)) | exact Nat.ne_of_lt (cj4 (by assumption)) | exact Nat.ne_of_gt (cj5 (by assumption)) | exact Nat.ne_of_lt (cj5 (by assumption)) | exact Nat.ne_of_gt (cj6 (by assumption)) | exact Nat.ne_of_lt (cj6 (by assumption)) | exact Nat.ne_of_gt (cj7 (by assumption)) | exact Nat.ne_of_lt (cj7 (by assumption)) | exact Nat.ne_of_gt (cj8 (by assumption)) | exact Nat.ne_of_lt (cj8 (by assumption)) | exact Nat.ne_of_gt (cj9 (by assumption)) | exact Nat.ne_of_lt (cj9 (by assumption)) | exact Nat.ne_of_gt (cl2 (by assumption)) | exact Nat.ne_of_lt (cl2 (by assumption)) | exact Nat.ne_of_gt (cl3 (by assumption)) | exact Nat.ne_of_lt (cl3 (by assumption)) | exact Nat.ne_of_gt (cl4 (by assumption)) | exact Nat.ne_of_lt (cl4 (by assumption)) | exact Nat.ne_of_gt (cl5 (by assumption)) | exact Nat.ne_of_lt (cl5 (by assumption)) | exact Nat.ne_of_gt (cl6 (by assumption)) | exact Nat.ne_of_lt (cl6 (by assumption)) | exact Nat.ne_of_gt (cl7 (by assumption)) | exact Nat.ne_of_lt (cl7 (by assumption)) | exact Nat.ne_of_gt (cl8 (by assumption)) | exact Nat.ne_of_lt (cl8 (by assumption)) | exact Nat.ne_of_gt (cl9 (by assumption)) | exact Nat.ne_of_lt (cl9 (by assumption)) | (refine neN ?_; (try dsimp only); omega))
  k_with "apt" => (repeat' (first | exact trivial | assumption | exact Dif.symm (by assumption) | exact Dif.mk (by walk_at "ne") | apply And.intro))
  k_with "sub" => (first | (intro p9 h9; k_ownIn) | exact List.forall_mem_nil _ | (refine List.forall_mem_cons.mpr ⟨by k_memK, ?_⟩; walk_at "sub"))
  k_with "ct" => (((case B => k_asm); (case F => k_asm); (case X => k_asm); (case N => k_asm); (case T => k_asm); (case K => first | exact rfl | assumption); (case hd => exact rm2 hd (by decide)); (case hu => exact rm2 hu (by decide))))
  refine apt2 hne fun hd1 => ?_
  unfold Ct
  k_fill
  intro dp un gd cn cs a ccd cl outer A₀ base h₀ L m s Q E mean mg mb B F X N T hk hd hu hret
  refine wpAny_call ?_
  k_dflt ktr_enter
  walk1
  walk1
  (rename Fr _ _ _ _ => lF')
  (rename News _ _ _ _ => lN')
  k_dflt (refine while_cps (fun f K => ∀ at' ta' size' ts' code' tc' left' tl' C' z' n', norm 16 C z n = norm f C' z' n' → 32768 ≤ z' * 2 ^ f → 1 ≤ z' → z' ≤ 65536 → size' = (z' : Int) → DecRep b C' n' at' left' code' → 0 ≤ code' → code' < size' * 65536 →
       K ((x, instObj 217 dx) :: (dx, decD e0 e1 e2 e3 e4 k0 k1 k2 k3 k4 b.toArray tb at' ta' size' ts' code' tc' left' tl') :: rest)) 16 lF' lN' ?_ ?_ ?_)
  · exact fun K k => k _ _ _ _ _ _ _ _ C z n rfl (by omega) h1 h2 hz hr hc.1 hc.2
  · clear lF' lN'
    intro f h1 tk1 W F1 wret wnext at' ta' size' ts' code' tc' left' tl' C' z' n' q1 q2 q3 q4 q5 q6 q7 q8 N1
    have hat := q6.at_nonneg
    have hle := q6.left_range
    k_with "call ref" => (
      k_dflt (refine' Ct.use ?B ?F ?X ?N ?T ?K (octet_in w off hne hat hb) ?hd ?hu ?_)
      walk_at "ct"
      intro at9 ta9 code9 tc9 hat9 hcode9 h9 tk9 F9 N9)
    k_steps
    · refine ex1and3 (turn_norm q1 (by omega) q2) fun f' hf e1 e2 => ?_
      have hl0 : left' = 0 := by assumption
      subst hl0
      refine and3 (q6.turn_read q7 q8 hat9 hcode9) fun r1 r2 r3 => ?_
      exact wnext f' _ _ _ (by assumption) (by assumption) hf fun K k => k _ _ _ _ _ _ _ _ _ _ _ e1 e2 (by omega) (by omega) (by omega) r1 r2 r3
    · refine ex1and3 (turn_norm q1 (by omega) q2) fun f' hf e1 e2 => ?_
      refine and3 (q6.turn (by assumption) q7 q8) fun r1 r2 r3 => ?_
      exact wnext f' _ _ _ (by assumption) (by assumption) hf fun K k => k _ _ _ _ _ _ _ _ _ _ _ e1 e2 (by omega) (by omega) (by omega) r1 r2 r3
    · exact hret _ _ _ _ _ _ _ _ C' z' n' (by rw [q1, norm_done (by omega)]) q5 q6 q7 q8 _ _ (by assumption) (by assumption)
  · passes_own
end Mine
end
section
open PySem PySem.Spec PySem.Calls PySem.W PyProof.Rows
set_option Elab.async false
set_option maxRecDepth 100000
noncomputable section
namespace Mine
/-! the table of the states, read off the written heap -/
def asInt : Value → Int
  | .int i _ => i
  | _ => 0
def isInt : Value → Bool
  | .int _ _ => true
  | _ => false
theorem ints_of : ∀ {vs : List Value}, vs.all isInt = true → IntsAre vs (vs.map asInt)
  | [], _ => .nil
  | v :: r, h => by
    rw [List.all_cons, Bool.and_eq_true] at h
    cases v with
    | int i t => exact .cons i t (ints_of h.2)
    | _ => exact absurd h.1 Bool.false_ne_true
def seqVals (o : Option Obj) : List Value := match o with
  | some o => (match o.data with | .seq a _ => a.toList | _ => [])
  | none => []
def seqOk (o : Option Obj) : Bool := match o with
  | some o => (match o.cls with | .type s => s == "tuple" | _ => false) && (match o.data with | .seq _ _ => true | _ => false)
  | none => false
theorem tup_of {K : Frag} {h : Heap} {a : Addr} (X : K.In h) (ok : seqOk (K.lookup a) = true) : IsTup h a (seqVals (K.lookup a)).toArray := by
  unfold seqOk at ok
  unfold seqVals
  split at ok
  · rename_i o ho
    rw [Bool.and_eq_true] at ok
    obtain ⟨o1, o2⟩ := ok
    refine ⟨o, X _ _ ho, ?_, ?_⟩
    · split at o1
      · rename_i s hs; rw [hs]; rw [eq_of_beq o1]
      · exact absurd o1 (by decide)
    · split at o2
      · rename_i a n hd; exact ⟨n, by simp only [hd]⟩
      · exact absurd o2 (by decide)
  · exact absurd ok (by decide)
/-- the items of the row k -/
def rowV (P : Params) (k : Nat) : List Value := seqVals ((Mine.Lit.lt.heap_1 P).lookup (22 + k))
def rowOk (P : Params) (k : Nat) : Bool := seqOk ((Mine.Lit.lt.heap_1 P).lookup (22 + k)) && (rowV P k).all isInt && (rowV P k).length == 4
def tabv (P : Params) (k : Int) (j : Nat) : Int := ((rowV P k.toNat).map asInt).getD j 0
def tabIs (P : Params) (vs : List Value) : Nat → Bool
  | 0 => true
  | k + 1 => (match vs[k]? with | some (.ref a) => a == 22 + k | _ => false) && tabIs P vs k
theorem tab_ok (P : Params) : tabIs P (seqVals ((Mine.Lit.lt.heap_1 P).lookup 136)) 114 = true := by kernel_rfl
theorem tab_tup (P : Params) : seqOk ((Mine.Lit.lt.heap_1 P).lookup 136) = true := by kernel_rfl
theorem tab_len (P : Params) : (seqVals ((Mine.Lit.lt.heap_1 P).lookup 136)).length = 114 := by kernel_rfl
def rowsOk (P : Params) : Nat → Bool
  | 0 => true
  | k + 1 => rowOk P k && rowsOk P k
theorem rows_ok (P : Params) : rowsOk P 114 = true := by kernel_rfl
def valOk (P : Params) (k : Nat) : Bool :=
  (decide (1 ≤ tabv P k 0) && decide (tabv P k 0 ≤ 23314)) && (decide (0 ≤ tabv P k 1) && decide (tabv P k 1 < 114)) && (decide (0 ≤ tabv P k 2) && decide (tabv P k 2 < 114))
def valsOk (P : Params) : Nat → Bool
  | 0 => true
  | k + 1 => valOk P k && valsOk P k
theorem vals_ok (P : Params) : valsOk P 114 = true := by kernel_rfl
theorem all_below {f : Nat → Bool} {F : Nat → Bool} (h0 : ∀ k, F (k + 1) = (f k && F k)) : ∀ {n : Nat}, F n = true → ∀ k, k < n → f k = true
  | 0, _, _, h => absurd h (Nat.not_lt_zero _)
  | n + 1, h, k, hk => by
    rw [h0, Bool.and_eq_true] at h
    by_cases e : k = n
    · rw [e]; exact h.1
    · exact all_below h0 h.2 k (by omega)

theorem tab_ref {P : Params} {k : Nat} (hk : k < 114) : (seqVals ((Mine.Lit.lt.heap_1 P).lookup 136))[k]? = some (.ref (22 + k)) := by
  have h := all_below (f := fun k => match (seqVals ((Mine.Lit.lt.heap_1 P).lookup 136))[k]? with | some (.ref a) => a == 22 + k | _ => false) (F := fun n => tabIs P (seqVals ((Mine.Lit.lt.heap_1 P).lookup 136)) n) (fun _ => rfl) (tab_ok P) k hk
  split at h
  · rename_i a ha; rw [ha, eq_of_beq h]
  · exact absurd h Bool.false_ne_true
theorem row_ok {P : Params} {k : Nat} (hk : k < 114) : rowOk P k = true := all_below (F := rowsOk P) (fun _ => rfl) (rows_ok P) k hk
theorem val_ok {P : Params} {k : Int} (h0 : 0 ≤ k) (hk : k < 114) : 1 ≤ tabv P k 0 ∧ tabv P k 0 ≤ 23314 ∧ 0 ≤ tabv P k 1 ∧ tabv P k 1 < 114 ∧ 0 ≤ tabv P k 2 ∧ tabv P k 2 < 114 := by
  have h := all_below (f := valOk P) (F := valsOk P) (fun _ => rfl) (vals_ok P) k.toNat (by omega)
  simp only [valOk, Bool.and_eq_true, decide_eq_true_eq] at h
  have e : ∀ j, tabv P (k.toNat : Int) j = tabv P k j := fun j => by unfold tabv; rw [Int.toNat_natCast]
  simp only [e] at h
  exact ⟨h.1.1.1, h.1.1.2, h.1.2.1, h.1.2.2, h.2.1, h.2.2⟩

/-- where the row k lies -/
def rowA (k : Int) : Addr := 22 + k.toNat
section
variable {prog : Program} {w : World} {A : Around} {E : Value → Shared → Prop} {s : Shared} {h₀ : Heap} {L : Addr} {m : Str → Option Value} {value slice : Expr} {k : Int} {u : Tok} {Q : Value → Shared → Prop}
theorem tab_item (F : Fr h₀ L s.heap m) (X : (Mine.Lit.lt.heap_1 w.params).In h₀) (h0 : 0 ≤ k) (h1 : k < 114) (h : Q (.ref (rowA k)) s)
    (hs : subscripted slice false (.ref 136) (.int k u) = operate [.ref 136, .int k u] (getItem (.ref 136) (.int k u)) := by with_unfolding_all rfl) :
    wpAny (model prog w) A (subscriptTail value slice (.ref 136) (.int k u)) Q E s := by
  have hj : seqIndex? k (seqVals ((Mine.Lit.lt.heap_1 w.params).lookup 136)).length = some k.toNat := by
    rw [tab_len]; exact StrLaws.seqIndex_nonneg h0 h1
  exact item_tupleT (tup_of (X.keeps F.keep) (tab_tup _)) (by omega) (by omega) hj (tab_ref (by omega)) h hs
theorem row_item {j : Nat} {ju : Int} (F : Fr h₀ L s.heap m) (X : (Mine.Lit.lt.heap_1 w.params).In h₀) (h0 : 0 ≤ k) (h1 : k < 114) (hju : ju = (j : Int)) (hj : j < 4) (h : ∀ t, Q (.int (tabv w.params k j) t) s)
    (hs : subscripted slice false (.ref (rowA k)) (.int ju u) = operate [.ref (rowA k), .int ju u] (getItem (.ref (rowA k)) (.int ju u)) := by with_unfolding_all rfl) :
    wpAny (model prog w) A (subscriptTail value slice (.ref (rowA k)) (.int ju u)) Q E s := by
  have ok := row_ok (P := w.params) (k := k.toNat) (by omega)
  unfold rowOk at ok
  rw [Bool.and_eq_true, Bool.and_eq_true] at ok
  obtain ⟨⟨o1, o2⟩, o3⟩ := ok
  have hl : (rowV w.params k.toNat).length = 4 := eq_of_beq o3
  refine item_anyT (ns := (rowV w.params k.toNat).map asInt) (tup_of (X.keeps F.keep) o1) (ints_of o2) (by omega) (by rw [List.length_map, hl]; omega) (by omega) (fun t => ?_) hs
  subst hju
  exact h t
end
end Mine
end
end
section
open PySem PySem.Calls PySem.W PyProof.Rows
set_option Elab.async false
set_option maxRecDepth 100000
set_option maxHeartbeats 8000000
namespace Mine
local macro_rules | `(tactic| walk_at $s:str) => `(tactic| k_extra $s)
local macro_rules | `(tactic| k_ne) => `(tactic| walk_at "ne")

/-- the dict of the bins -/
abbrev binD (f0 f1 : Int) (j0 j1 : Tok) (sl nl : Addr) : Obj :=
  dictOf [⟨f0, .str "states" j0, .ref sl⟩, ⟨f1, .str "senses" j1, .ref nl⟩] 2

theorem getD (w : World) {x dx bx bd sl nl : Addr} {e0 e1 e2 e3 e4 : Int} {k0 k1 k2 k3 k4 : Tok} {f0 f1 : Int} {j0 j1 : Tok} {b : List UInt8} {tb ta ts tc tl : Tok} {at_ size code left : Int} {rest : List (Addr × Obj)} {us vs : List Value} {ss ns : List Int} {n1 n2 : Nat}
    (off : OwnOff rest [x, dx, bx, bd, sl, nl]) (hne : Apt [x, dx, bx, bd, sl, nl])
    {C z n : Nat} {i : Int} {ti : Tok} (hu1 : IntsAre us ss) (hv1 : IntsAre vs ns) (ls : ss.length = 3) (ln : ns.length = 3) (i0 : 0 ≤ i) (i1 : i < 3)
    (s0 : 0 ≤ ss.getD i.toNat 0) (s1 : ss.getD i.toNat 0 < 114)
    (hb : b.length ≤ 4096) (hz : size = (z : Int)) (h1 : 32768 ≤ z) (h2 : z ≤ 65536) (hr : DecRep b C n at_ left code) (hc : 0 ≤ code ∧ code < size * 65536) :
    Ct w 207 [.ref x, .ref bx, .int i ti] ((x, instObj 217 dx) :: (dx, decD e0 e1 e2 e3 e4 k0 k1 k2 k3 k4 b.toArray tb at_ ta size ts code tc left tl) :: (bx, instObj 154 bd) :: (bd, binD f0 f1 j0 j1 sl nl) :: (sl, listOf us.toArray n1) :: (nl, listOf vs.toArray n2) :: rest) 8 64
      (fun K => ∀ bit σ' tv at' ta' size' ts' code' tc' left' tl' us' vs',
        getP (tabv w.params) ⟨ss, ns, C, z, n⟩ i.toNat (decide (code < (size - tabv w.params (ss.getD i.toNat 0) 0) * 65536)) = (bit, σ') →
        IntsAre us' σ'.ss → IntsAre vs' σ'.ns → size' = (σ'.z : Int) → DecRep b σ'.C σ'.n at' left' code' → 0 ≤ code' → code' < size' * 65536 →
        K (.int bit tv) ((x, instObj 217 dx) :: (dx, decD e0 e1 e2 e3 e4 k0 k1 k2 k3 k4 b.toArray tb at' ta' size' ts' code' tc' left' tl') :: (bx, instObj 154 bd) :: (bd, binD f0 f1 j0 j1 sl nl) :: (sl, listOf us'.toArray n1) :: (nl, listOf vs'.toArray n2) :: rest)) := by
  k_with_none
  k_with "ne" => (first | exact Dif.ne (by assumption) | exact Dif.ne' (by assumption) | exact Nat.ne_of_lt (by assumption) | exact Nat.ne_of_gt (by assumption) | exact Nat.ne_of_gt (cj1 (by assumption)) | exact Nat.ne_of_lt (cj1 (by assumption)) | exact Nat.ne_of_gt (cj2 (by assumption)) | exact Nat.ne_of_lt (cj2 (by assumption)) | exact Nat.ne_of_gt (cj3 (by assumption)) | exact Nat.ne_of_lt (cj3 (by assumption)) | exact Nat.ne_of_gt (cj4 (by assumption)) | exact Nat.ne_of_lt (cj4 (by assumption)) | exact Nat.ne_of_gt (cj5 (by assumption)) | exact Nat.ne_of_lt (cj5 (by assumption)) | exact Nat.ne_of_gt (cj6 (by assumption)) | exact Nat.ne_of_lt (cj6 (by assumption)) | exact Nat.ne_of_gt (cj7 (by assumption)) | exact Nat.ne_of_lt (cj7 (by assumption)) | exact Nat.ne_of_gt (cj8 (by assumption)) | exact Nat.ne_of_lt (cj8 (by assumption)) | exact Nat.ne_of_gt (cj9 (by assumption)) | exact Nat.ne_of_lt (cj9 (by assumption)) | exact Nat.ne_of_gt (cl2 (by assumption)) | exact Nat.ne_of_lt (cl2 (by assumption)) | exact Nat.ne_of_gt (cl3 (by assumption)) | exact Nat.ne_of_lt (cl3 (by assumption)) | exact Nat.ne_of_gt (cl4 (by assumption)) | exact Nat.ne_of_lt (cl4 (by assumption)) | exact Nat.ne_of_gt (cl5 (by assumption)) | exact Nat.ne_of_lt (cl5 (by assumption)) | exact Nat.ne_of_gt (cl6 (by assumption)) | exact Nat.ne_of_lt (cl6 (by assumption)) | exact Nat.ne_of_gt (cl7 (by assumption)) | exact Nat.ne_of_lt (cl7 (by assumption)) | exact Nat.ne_of_gt (cl8 (by assumption)) | exact Nat.ne_of_lt (cl8 (by assumption)) | exact Nat.ne_of_gt (cl9 (by assumption)) | exact Nat.ne_of_lt (cl9 (by assumption)) | (refine neN ?_; (try dsimp only); omega))
  k_with "apt" => (repeat' (first | exact trivial | assumption | exact Dif.symm (by assumption) | exact Dif.mk (by walk_at "ne") | apply And.intro))
  k_with "sub" => (first | (intro p9 h9; k_ownIn) | exact List.forall_mem_nil _ | (refine List.forall_mem_cons.mpr ⟨by k_memK, ?_⟩; walk_at "sub"))
  k_with "call ref" => ((k_here; (first | (with_reducible show wpAny _ _ (call (Value.ref 165) _) _ _ _) | (with_reducible show wpAny _ _ (call (Value.ref 172) _) _ _ _)); have hK9 : ScopeKind.function = ScopeKind.function := rfl; refine wpAny_call ?_; k_dflt ktr_enter; clear hK9))
  k_with "ct" => (((case B => k_asm); (case F => k_asm); (case X => k_asm); (case N => k_asm); (case T => k_asm); (case K => first | exact rfl | assumption); (case hd => ktr_room); (case hu => ktr_units)))
  k_with "subscriptTail" => ((k_here; (with_reducible show wpAny _ _ (subscriptTail _ _ (Value.ref 136) (Value.int _ _)) _ _ _); k_dflt (refine' tab_item ?k1 ?k2 ?k3 ?k4 ?_ ?k6; (case k1 => k_asm); (case k2 => k_asm); (case k3 => omega); (case k4 => omega); (case k6 => with_unfolding_all rfl))))
  k_with "subscriptTail" => ((k_here; (with_reducible show wpAny _ _ (subscriptTail _ _ (Value.ref (rowA _)) (Value.int _ _)) _ _ _); k_dflt (first | (refine' row_item (j := 0) ?k1 ?k2 ?k3 ?k4 ?k7 ?k8 ?_ ?k6; (case k7 => exact rfl)) | (refine' row_item (j := 1) ?k1 ?k2 ?k3 ?k4 ?k7 ?k8 ?_ ?k6; (case k7 => exact rfl)) | (refine' row_item (j := 2) ?k1 ?k2 ?k3 ?k4 ?k7 ?k8 ?_ ?k6; (case k7 => exact rfl)) | (refine' row_item (j := 3) ?k1 ?k2 ?k3 ?k4 ?k7 ?k8 ?_ ?k6; (case k7 => exact rfl))); (case k1 => k_asm); (case k2 => k_asm); (case k3 => omega); (case k4 => omega); (case k8 => decide); (case k6 => with_unfolding_all rfl); intro _))
  have hval := val_ok (P := w.params) s0 s1
  refine apt6 hne fun d01 d02 d03 d04 d05 d12 d13 d14 d15 d23 d24 d25 d34 d35 d45 => ?_
  refine (tab_ex hval).elim fun l hl => ?_
  refine and2 (tab_nat hval hl) fun hl1 hl2 => ?_
  have hlw : lw (tabv w.params) ⟨ss, ns, C, z, n⟩ i.toNat = l := lw_of hl
  have hlh : True → tabv w.params (ss.getD i.toNat 0) 0 = (l : Int) := fun _ => hl
  have hszh : True → size - tabv w.params (ss.getD i.toNat 0) 0 = ((z - l : Nat) : Int) := fun _ => sub_nat hz hl h1 hl2
  have hnw : Apt [x, dx] := by walk_at "apt"
  have offw : ∀ {vl1 vl2 : Array Value}, OwnOff ((bx, instObj 154 bd) :: (bd, binD f0 f1 j0 j1 sl nl) :: (sl, listOf vl1 n1) :: (nl, listOf vl2 n2) :: rest) [x, dx] := by
    intro vl1 vl2
    refine off_cons ?_ (off_cons ?_ (off_cons ?_ (off_cons ?_ (off_sub off fun b hb => List.mem_append_left [bx, bd, sl, nl] hb)))) <;> walk_at "apt"
  unfold Ct
  k_fill
  intro dp un gd cn cs a ccd cl outer A₀ base h₀ L m s Q E mean mg mb B F X N T hk hd hu hret
  refine wpAny_call ?_
  k_dflt ktr_enter
  k_steps
  all_goals (have hl := hlh trivial)
  · have hlow : decide (code < (size - tabv w.params (ss.getD i.toNat 0) 0) * 65536) = true := decide_eq_true (by assumption)
    refine hret _ _ _ _ _ _ _ _ _ _ _ _ _ (getP_stay hlow (by rw [hlw]; (first | exact n_ge (hszh trivial) (by assumption) | exact n_nge (hszh trivial) (by assumption) | exact n_le (hszh trivial) (hlh trivial) (by assumption) | exact n_nle (hszh trivial) (hlh trivial) (by assumption) | exact n_lt (hszh trivial) (hlh trivial) (by assumption) | exact n_nlt (hszh trivial) (hlh trivial) (by assumption)))) hu1 hv1 ?_ hr hc.1 (by assumption) _ _ (by assumption) (by assumption)
    rw [hlw]; exact hszh trivial
  · have hlow : decide (code < (size - tabv w.params (ss.getD i.toNat 0) 0) * 65536) = true := decide_eq_true (by assumption)
    dsimp only [List.cons_append, List.nil_append]
    (rename News _ _ _ _ => lN)
    k_dflt (refine Ct.use (by k_asm) (by k_asm) (by k_asm) lN (by k_asm) (by exact rfl) (widenD w (C := C) (z := z - l) (n := n) offw hnw hb (hszh trivial) (one_sub h1 hl2) (Nat.le_trans (Nat.sub_le _ _) h2) hr ⟨hc.1, by assumption⟩) (rm2 hd (by decide)) (rm2 hu (by decide)) ?_)
    intro at9 ta9 size9 ts9 code9 tc9 left9 tl9 C9 z9 n9 hnorm hz9 hr9 hc1 hc2 h9 tk9 F9 N9
    k_steps
    refine hret _ _ _ _ _ _ _ _ _ _ _ _ _ (getP_low_more (t := (C9, z9, n9)) hlow (by rw [hlw]; (first | exact n_ge (hszh trivial) (by assumption) | exact n_nge (hszh trivial) (by assumption) | exact n_le (hszh trivial) (hlh trivial) (by assumption) | exact n_nle (hszh trivial) (hlh trivial) (by assumption) | exact n_lt (hszh trivial) (hlh trivial) (by assumption) | exact n_nlt (hszh trivial) (hlh trivial) (by assumption))) (by rw [hlw]; (first | exact n_ge (hszh trivial) (by assumption) | exact n_nge (hszh trivial) (by assumption) | exact n_le (hszh trivial) (hlh trivial) (by assumption) | exact n_nle (hszh trivial) (hlh trivial) (by assumption) | exact n_lt (hszh trivial) (hlh trivial) (by assumption) | exact n_nlt (hszh trivial) (hlh trivial) (by assumption))) (by rw [hlw]; exact hnorm)) ?_ ?_ hz9 hr9 hc1 hc2 _ _ (by assumption) (by assumption) <;> assumption
  · have hlow : decide (code < (size - tabv w.params (ss.getD i.toNat 0) 0) * 65536) = true := decide_eq_true (by assumption)
    dsimp only [List.cons_append, List.nil_append]
    (rename News _ _ _ _ => lN)
    k_dflt (refine Ct.use (by k_asm) (by k_asm) (by k_asm) lN (by k_asm) (by exact rfl) (widenD w (C := C) (z := z - l) (n := n) offw hnw hb (hszh trivial) (one_sub h1 hl2) (Nat.le_trans (Nat.sub_le _ _) h2) hr ⟨hc.1, by assumption⟩) (rm2 hd (by decide)) (rm2 hu (by decide)) ?_)
    intro at9 ta9 size9 ts9 code9 tc9 left9 tl9 C9 z9 n9 hnorm hz9 hr9 hc1 hc2 h9 tk9 F9 N9
    k_steps
    refine hret _ _ _ _ _ _ _ _ _ _ _ _ _ (getP_low_less (t := (C9, z9, n9)) hlow (by rw [hlw]; (first | exact n_ge (hszh trivial) (by assumption) | exact n_nge (hszh trivial) (by assumption) | exact n_le (hszh trivial) (hlh trivial) (by assumption) | exact n_nle (hszh trivial) (hlh trivial) (by assumption) | exact n_lt (hszh trivial) (hlh trivial) (by assumption) | exact n_nlt (hszh trivial) (hlh trivial) (by assumption))) (by rw [hlw]; (first | exact n_ge (hszh trivial) (by assumption) | exact n_nge (hszh trivial) (by assumption) | exact n_le (hszh trivial) (hlh trivial) (by assumption) | exact n_nle (hszh trivial) (hlh trivial) (by assumption) | exact n_lt (hszh trivial) (hlh trivial) (by assumption) | exact n_nlt (hszh trivial) (hlh trivial) (by assumption))) (by rw [hlw]; exact hnorm) (lessN_yes (by assumption))) ?_ ?_ hz9 hr9 hc1 hc2 _ _ (by assumption) (by assumption) <;> assumption
  · have hlow : decide (code < (size - tabv w.params (ss.getD i.toNat 0) 0) * 65536) = true := decide_eq_true (by assumption)
    dsimp only [List.cons_append, List.nil_append]
    (rename News _ _ _ _ => lN)
    k_dflt (refine Ct.use (by k_asm) (by k_asm) (by k_asm) lN (by k_asm) (by exact rfl) (widenD w (C := C) (z := z - l) (n := n) offw hnw hb (hszh trivial) (one_sub h1 hl2) (Nat.le_trans (Nat.sub_le _ _) h2) hr ⟨hc.1, by assumption⟩) (rm2 hd (by decide)) (rm2 hu (by decide)) ?_)
    intro at9 ta9 size9 ts9 code9 tc9 left9 tl9 C9 z9 n9 hnorm hz9 hr9 hc1 hc2 h9 tk9 F9 N9
    k_steps
    refine hret _ _ _ _ _ _ _ _ _ _ _ _ _ (getP_low_less (t := (C9, z9, n9)) hlow (by rw [hlw]; (first | exact n_ge (hszh trivial) (by assumption) | exact n_nge (hszh trivial) (by assumption) | exact n_le (hszh trivial) (hlh trivial) (by assumption) | exact n_nle (hszh trivial) (hlh trivial) (by assumption) | exact n_lt (hszh trivial) (hlh trivial) (by assumption) | exact n_nlt (hszh trivial) (hlh trivial) (by assumption))) (by rw [hlw]; (first | exact n_ge (hszh trivial) (by assumption) | exact n_nge (hszh trivial) (by assumption) | exact n_le (hszh trivial) (hlh trivial) (by assumption) | exact n_nle (hszh trivial) (hlh trivial) (by assumption) | exact n_lt (hszh trivial) (hlh trivial) (by assumption) | exact n_nlt (hszh trivial) (hlh trivial) (by assumption))) (by rw [hlw]; exact hnorm) (lessN_no (by assumption))) ?_ ?_ hz9 hr9 hc1 hc2 _ _ (by assumption) (by assumption) <;> assumption
  · have hlow : ¬ decide (code < (size - tabv w.params (ss.getD i.toNat 0) 0) * 65536) = true := by rw [decide_eq_true_eq]; assumption
    dsimp only [List.cons_append, List.nil_append]
    (rename News _ _ _ _ => lN)
    k_dflt (refine Ct.use (by k_asm) (by k_asm) (by k_asm) lN (by k_asm) (by exact rfl) (widenD w (C := C + (z - l)) (z := l) (n := n) offw hnw hb (hlh trivial) hl1 (Nat.le_trans hl2 (by decide)) (by rw [hszh trivial]; exact hr.upper) (up_code (by assumption) hc.2)) (rm2 hd (by decide)) (rm2 hu (by decide)) ?_)
    intro at9 ta9 size9 ts9 code9 tc9 left9 tl9 C9 z9 n9 hnorm hz9 hr9 hc1 hc2 h9 tk9 F9 N9
    k_steps
    refine hret _ _ _ _ _ _ _ _ _ _ _ _ _ (getP_up_more (t := (C9, z9, n9)) hlow (by rw [hlw]; (first | exact n_ge (hszh trivial) (by assumption) | exact n_nge (hszh trivial) (by assumption) | exact n_le (hszh trivial) (hlh trivial) (by assumption) | exact n_nle (hszh trivial) (hlh trivial) (by assumption) | exact n_lt (hszh trivial) (hlh trivial) (by assumption) | exact n_nlt (hszh trivial) (hlh trivial) (by assumption))) (by rw [hlw]; exact hnorm)) ?_ ?_ hz9 hr9 hc1 hc2 _ _ (by assumption) (by assumption) <;> assumption
  · have hlow : ¬ decide (code < (size - tabv w.params (ss.getD i.toNat 0) 0) * 65536) = true := by rw [decide_eq_true_eq]; assumption
    dsimp only [List.cons_append, List.nil_append]
    (rename News _ _ _ _ => lN)
    k_dflt (refine Ct.use (by k_asm) (by k_asm) (by k_asm) lN (by k_asm) (by exact rfl) (widenD w (C := C + (z - l)) (z := l) (n := n) offw hnw hb (hlh trivial) hl1 (Nat.le_trans hl2 (by decide)) (by rw [hszh trivial]; exact hr.upper) (up_code (by assumption) hc.2)) (rm2 hd (by decide)) (rm2 hu (by decide)) ?_)
    intro at9 ta9 size9 ts9 code9 tc9 left9 tl9 C9 z9 n9 hnorm hz9 hr9 hc1 hc2 h9 tk9 F9 N9
    k_steps
    refine hret _ _ _ _ _ _ _ _ _ _ _ _ _ (getP_up_less (t := (C9, z9, n9)) hlow (by rw [hlw]; (first | exact n_ge (hszh trivial) (by assumption) | exact n_nge (hszh trivial) (by assumption) | exact n_le (hszh trivial) (hlh trivial) (by assumption) | exact n_nle (hszh trivial) (hlh trivial) (by assumption) | exact n_lt (hszh trivial) (hlh trivial) (by assumption) | exact n_nlt (hszh trivial) (hlh trivial) (by assumption))) (by rw [hlw]; exact hnorm) (lessN_yes (by assumption))) ?_ ?_ hz9 hr9 hc1 hc2 _ _ (by assumption) (by assumption) <;> assumption
  · have hlow : ¬ decide (code < (size - tabv w.params (ss.getD i.toNat 0) 0) * 65536) = true := by rw [decide_eq_true_eq]; assumption
    dsimp only [List.cons_append, List.nil_append]
    (rename News _ _ _ _ => lN)
    k_dflt (refine Ct.use (by k_asm) (by k_asm) (by k_asm) lN (by k_asm) (by exact rfl) (widenD w (C := C + (z - l)) (z := l) (n := n) offw hnw hb (hlh trivial) hl1 (Nat.le_trans hl2 (by decide)) (by rw [hszh trivial]; exact hr.upper) (up_code (by assumption) hc.2)) (rm2 hd (by decide)) (rm2 hu (by decide)) ?_)
    intro at9 ta9 size9 ts9 code9 tc9 left9 tl9 C9 z9 n9 hnorm hz9 hr9 hc1 hc2 h9 tk9 F9 N9
    k_steps
    refine hret _ _ _ _ _ _ _ _ _ _ _ _ _ (getP_up_less (t := (C9, z9, n9)) hlow (by rw [hlw]; (first | exact n_ge (hszh trivial) (by assumption) | exact n_nge (hszh trivial) (by assumption) | exact n_le (hszh trivial) (hlh trivial) (by assumption) | exact n_nle (hszh trivial) (hlh trivial) (by assumption) | exact n_lt (hszh trivial) (hlh trivial) (by assumption) | exact n_nlt (hszh trivial) (hlh trivial) (by assumption))) (by rw [hlw]; exact hnorm) (lessN_no (by assumption))) ?_ ?_ hz9 hr9 hc1 hc2 _ _ (by assumption) (by assumption) <;> assumption
end Mine
end
section
open PySem PySem.Calls PySem.W PyProof.Rows
set_option Elab.async false
set_option maxRecDepth 100000
set_option maxHeartbeats 8000000
namespace Mine
local macro_rules | `(tactic| walk_at $s:str) => `(tactic| k_extra $s)
/-- a contract of a def as a code -/
def CtC (w : World) (f : Addr) (vs : List Value) (news : List (Addr × Obj)) (dn un0 : Nat) (R : (Value → List (Addr × Obj) → Prop) → Prop) : Prop :=
  ∀ (dp un : Nat) (gd : Option (List Code)) (cn : Str) (cs : Scope) (a : Addr) (ccd : Value) (cl : List (Str × Addr)) (outer : List Env) (A₀ : Around) (base h₀ : Heap) (L : Addr) (m : Str → Option Value) (s : Shared) (RR : Result → Shared → Prop) (mean : ExcName → Option Value) (mg mb : Str → Option Value),
    Below A₀ base outer h₀ → Fr h₀ L s.heap m → (Mine.Lit.lt.heap_1 w.params).In h₀ → News h₀ L s.heap news → Top Mine.Lit.lt.view_1 (looseW Mine.Lit.lt.view_1 []) mean mg mb h₀ → cs.kind = .function → dp + dn < recursionLimit → un + un0 < cLine →
    (R fun v news' => ∀ h' tk, Fr h₀ L h' m → News h₀ L h' news' → RR (.ok (.ret v)) { s with heap := h', toks := tk }) →
    codeAny (model PySem.Challenge.rw_nt0555_01.row.prog w) (ktrTop dp un gd cn cs L a ccd cl outer) (.call (.ref f) ⟨vs, []⟩) RR s
local macro_rules | `(tactic| k_ne) => `(tactic| walk_at "ne")

theorem initD (w : World) {x dx : Addr} {b : List UInt8} {tb : Tok} {rest : List (Addr × Obj)} (off : OwnOff rest [x, dx]) (hne : Apt [x, dx]) (hb : b.length ≤ 4096) :
    CtC w 186 [.ref x, .bytes b.toArray tb] ((x, instObj 217 dx) :: (dx, emptyDict) :: rest) 5 32
      (fun K => ∀ e0 e1 e2 e3 e4 k0 k1 k2 k3 k4 tb at' ta' ts' code' tc' tl', DecRep b 0 0 at' 0 code' → 0 ≤ code' → code' < 65536 * 65536 →
        K .none ((x, instObj 217 dx) :: (dx, decD e0 e1 e2 e3 e4 k0 k1 k2 k3 k4 b.toArray tb at' ta' 65536 ts' code' tc' 0 tl') :: rest)) := by
  k_with_none
  k_with "ne" => (first | exact Dif.ne (by assumption) | exact Dif.ne' (by assumption) | exact Nat.ne_of_lt (by assumption) | exact Nat.ne_of_gt (by assumption) | exact Nat.ne_of_gt (cj1 (by assumption)) | exact Nat.ne_of_lt (cj1 (by assumption)) | exact Nat.ne_of_gt (cj2 (by assumption)) | exact Nat.ne_of_lt (cj2 (by assumption)) | exact Nat.ne_of_gt (cj3 (by assumption)) | exact Nat.ne_of_lt (cj3 (by assumption)) | exact Nat.ne_of_gt (cj4 (by assumption)) | exact Nat.ne_of_lt (cj4 (by assumption)) | exact Nat.ne_of_gt (cj5 (by assumption)) | exact Nat.ne_of_lt (cj5 (by assumption)) | exact Nat.ne_of_gt (cj6 (by assumption)) | exact Nat.ne_of_lt (cj6 (by assumption)) | exact Nat.ne_of_gt (cj7 (by assumption)) | exact Nat.ne_of_lt (cj7 (by assumption)) | exact Nat.ne_of_gt (cj8 (by assumption)) | exact Nat.ne_of_lt (cj8 (by assumption)) | exact Nat.ne_of_gt (cj9 (by assumption)) | exact Nat.ne_of_lt (cj9 (by assumption)) | exact Nat.ne_of_gt (cl2 (by assumption)) | exact Nat.ne_of_lt (cl2 (by assumption)) | exact Nat.ne_of_gt (cl3 (by assumption)) | exact Nat.ne_of_lt (cl3 (by assumption)) | exact Nat.ne_of_gt (cl4 (by assumption)) | exact Nat.ne_of_lt (cl4 (by assumption)) | exact Nat.ne_of_gt (cl5 (by assumption)) | exact Nat.ne_of_lt (cl5 (by assumption)) | exact Nat.ne_of_gt (cl6 (by assumption)) | exact Nat.ne_of_lt (cl6 (by assumption)) | exact Nat.ne_of_gt (cl7 (by assumption)) | exact Nat.ne_of_lt (cl7 (by assumption)) | exact Nat.ne_of_gt (cl8 (by assumption)) | exact Nat.ne_of_lt (cl8 (by assumption)) | exact Nat.ne_of_gt (cl9 (by assumption)) | exact Nat.ne_of_lt (cl9 (by assumption)) | (refine neN ?_; (try dsimp only); omega))
  k_with "apt" => (repeat' (first | exact trivial | assumption | exact Dif.symm (by assumption) | exact Dif.mk (by walk_at "ne") | apply And.intro))
  k_with "sub" => (first | (intro p9 h9; k_ownIn) | exact List.forall_mem_nil _ | (refine List.forall_mem_cons.mpr ⟨by k_memK, ?_⟩; walk_at "sub"))
  k_with "inplaceOp LShift int int" => ((k_here; k_dflt (refine' ishl_by (p := 256) ?k1 ?k2 ?k3 ?k4 ?_; (case k1 => decide); (case k2 => decide); (case k3 => omega); (case k4 => exact rfl))))
  refine apt2 hne fun hd1 => ?_
  unfold CtC
  k_fill
  intro dp un gd cn cs a ccd cl outer A₀ base h₀ L m s RR mean mg mb B F X N T hk hd hu hret
  k_dflt ktr_enter
  k_with "call ref" => (
    dsimp only [List.cons_append, List.nil_append]
    (rename News _ _ _ _ => lN)
    k_dflt (have lM := Mine.News.sub (l' := (x, instObj 217 dx) :: (dx, _) :: (_, itR _ _) :: rest) lN (by walk_at "sub"))
    k_dflt (refine Ct.use (by k_asm) (by k_asm) (by k_asm) lM (by k_asm) (by exact rfl) (octet_in w (x := x) (dx := dx) (off_cons (by walk_at "apt") off) hne (by first | omega | decide) hb) (rm2 hd (by decide)) (rm2 hu (by decide)) ?_)
    intro at9 ta9 code9 tc9 hat9 hcode9 h9 tk9 F9 N9
    have hb9 := octet_bound hcode9)
  k_with "UnrEnd" => (
    (rename News _ _ _ _ => lN)
    (rename _ ∧ _ ∧ AllLt _ _ => l9)
    k_dflt (refine UnrEnd.intro (by assumption) lN ((x, instObj 217 dx) :: (dx, _) :: rest) (by walk_at "sub") (List.forall_mem_cons.mpr ⟨Nat.ne_of_lt l9.1, List.forall_mem_cons.mpr ⟨Nat.ne_of_lt l9.2.1, allLt_ne l9.2.2⟩⟩) ?_))
  k_steps
  refine and3 (dec_init (by assumption) (by assumption) hat9 hcode9) fun r1 r2 r3 => ?_
  exact hret _ _ _ _ _ _ _ _ _ _ _ _ _ _ _ _ _ r1 r2 r3 _ _ (by assumption) (by assumption)
theorem CtC.use {w : World} {f : Addr} {vs : List Value} {news : List (Addr × Obj)} {dn un0 : Nat} {R : (Value → List (Addr × Obj) → Prop) → Prop}
    {dp un : Nat} {gd : Option (List Code)} {cn : Str} {cs : Scope} {a : Addr} {ccd : Value} {cl : List (Str × Addr)} {outer : List Env} {A₀ : Around} {base h₀ : Heap} {L : Addr} {m : Str → Option Value} {s : Shared} {RR : Result → Shared → Prop} {mean : ExcName → Option Value} {mg mb : Str → Option Value}
    (B : Below A₀ base outer h₀) (F : Fr h₀ L s.heap m) (X : (Mine.Lit.lt.heap_1 w.params).In h₀) (N : News h₀ L s.heap news) (T : Top Mine.Lit.lt.view_1 (looseW Mine.Lit.lt.view_1 []) mean mg mb h₀) (hk : cs.kind = .function)
    (C : CtC w f vs news dn un0 R) (hd : dp + dn < recursionLimit) (hu : un + un0 < cLine)
    (ret : R fun v news' => ∀ h' tk, Fr h₀ L h' m → News h₀ L h' news' → RR (.ok (.ret v)) { s with heap := h', toks := tk }) :
    codeAny (model PySem.Challenge.rw_nt0555_01.row.prog w) (ktrTop dp un gd cn cs L a ccd cl outer) (.call (.ref f) ⟨vs, []⟩) RR s :=
  C dp un gd cn cs a ccd cl outer A₀ base h₀ L m s RR mean mg mb B F X N T hk hd hu ret
end Mine
end
section
open PySem PySem.Calls PySem.W PyProof.Rows
set_option Elab.async false
set_option maxRecDepth 100000
set_option maxHeartbeats 8000000
namespace Mine
local macro_rules | `(tactic| walk_at $s:str) => `(tactic| k_extra $s)
local macro_rules | `(tactic| k_ne) => `(tactic| walk_at "ne")

theorem fmod_bd (a : Int) {b : Int} (h : 0 < b) : 0 ≤ a.fmod b ∧ a.fmod b < b := ⟨Int.fmod_nonneg_of_pos a h, Int.fmod_lt_of_pos a h⟩
section
variable {prog : Program} {w : World} {A : Around} {E : Value → Shared → Prop} {s : Shared} {a b q : Int} {t u : Tok} {Q : Value → Shared → Prop}
theorem mul_by (hb : 0 ≤ b ∧ b < 2147483648) (h : ∀ t k, Q (.int (a * b) t) { s with toks := k }) : wpAny (model prog w) A (binaryOp .Mult (.int a t) (.int b u)) Q E s :=
  mul_int (h _ _) (.of_right (intBits_le_64 (by omega) (by omega)))
end
abbrev srcO (d : Int) (td : Tok) (m : Int) (tm : Tok) (n : Nat) : Obj := listOf #[.int d td, .int m tm] n
theorem take (w : World) {sl : Addr} {d m top : Int} {td tm tt : Tok} {n : Nat} {rest : List (Addr × Obj)} (off : OwnOff rest [sl])
    (h1 : 1 ≤ top) (h2 : top ≤ 100) (m0 : 0 ≤ m) (m1 : m < 2147483647) :
    Ct w 291 [.ref sl, .int top tt] ((sl, srcO d td m tm n) :: rest) 3 16
      (fun K => ∀ r tr d' td' m' tm', 0 ≤ r → r < top → 0 ≤ m' → m' < 2147483647 → K (.int r tr) ((sl, srcO d' td' m' tm' n) :: rest)) := by
  k_with_none
  k_with "ne" => (first | exact Dif.ne (by assumption) | exact Dif.ne' (by assumption) | exact Nat.ne_of_lt (by assumption) | exact Nat.ne_of_gt (by assumption) | exact Nat.ne_of_gt (cj1 (by assumption)) | exact Nat.ne_of_lt (cj1 (by assumption)) | exact Nat.ne_of_gt (cj2 (by assumption)) | exact Nat.ne_of_lt (cj2 (by assumption)) | exact Nat.ne_of_gt (cj3 (by assumption)) | exact Nat.ne_of_lt (cj3 (by assumption)) | exact Nat.ne_of_gt (cj4 (by assumption)) | exact Nat.ne_of_lt (cj4 (by assumption)) | exact Nat.ne_of_gt (cj5 (by assumption)) | exact Nat.ne_of_lt (cj5 (by assumption)) | exact Nat.ne_of_gt (cj6 (by assumption)) | exact Nat.ne_of_lt (cj6 (by assumption)) | exact Nat.ne_of_gt (cj7 (by assumption)) | exact Nat.ne_of_lt (cj7 (by assumption)) | exact Nat.ne_of_gt (cj8 (by assumption)) | exact Nat.ne_of_lt (cj8 (by assumption)) | exact Nat.ne_of_gt (cj9 (by assumption)) | exact Nat.ne_of_lt (cj9 (by assumption)) | exact Nat.ne_of_gt (cl2 (by assumption)) | exact Nat.ne_of_lt (cl2 (by assumption)) | exact Nat.ne_of_gt (cl3 (by assumption)) | exact Nat.ne_of_lt (cl3 (by assumption)) | exact Nat.ne_of_gt (cl4 (by assumption)) | exact Nat.ne_of_lt (cl4 (by assumption)) | exact Nat.ne_of_gt (cl5 (by assumption)) | exact Nat.ne_of_lt (cl5 (by assumption)) | exact Nat.ne_of_gt (cl6 (by assumption)) | exact Nat.ne_of_lt (cl6 (by assumption)) | exact Nat.ne_of_gt (cl7 (by assumption)) | exact Nat.ne_of_lt (cl7 (by assumption)) | exact Nat.ne_of_gt (cl8 (by assumption)) | exact Nat.ne_of_lt (cl8 (by assumption)) | exact Nat.ne_of_gt (cl9 (by assumption)) | exact Nat.ne_of_lt (cl9 (by assumption)) | (refine neN ?_; (try dsimp only); omega))
  k_with "apt" => (repeat' (first | exact trivial | assumption | exact Dif.symm (by assumption) | exact Dif.mk (by walk_at "ne") | apply And.intro))
  k_with "sub" => (first | (intro p9 h9; k_ownIn) | exact List.forall_mem_nil _ | (refine List.forall_mem_cons.mpr ⟨by k_memK, ?_⟩; walk_at "sub"))
  unfold Ct
  k_fill
  intro dp un gd cn cs a ccd cl outer A₀ base h₀ L m s Q E mean mg mb B F X N T hk hd hu hret
  refine wpAny_call ?_
  k_dflt ktr_enter
  k_with "binaryOp Mult int int" => (k_dflt (refine mul_by (by first | decide | exact ⟨(fmod_bd _ (by decide)).1, Int.lt_trans (fmod_bd _ (by decide)).2 (by decide)⟩) ?_); intro _ _)
  k_steps
  · exact hret _ _ _ _ _ _ (fmod_bd _ (by omega)).1 (fmod_bd _ (by omega)).2 m0 m1 _ _ (by assumption) (by assumption)
  · exact hret _ _ _ _ _ _ (fmod_bd _ (by omega)).1 (fmod_bd _ (by omega)).2 (fmod_bd _ (by decide)).1 (fmod_bd _ (by decide)).2 _ _ (by assumption) (by assumption)

theorem take_use {w : World} {sl : Addr} {d m₁ top : Int} {td tm tt : Tok} {n : Nat} {news : List (Addr × Obj)} {g : Obj → List (Addr × Obj)}
    {dp un : Nat} {gd : Option (List Code)} {cn : Str} {cs : Scope} {a : Addr} {ccd : Value} {cl : List (Str × Addr)} {outer : List Env} {A₀ : Around} {base h₀ : Heap} {L : Addr} {m : Str → Option Value} {s : Shared} {Q E : Value → Shared → Prop} {mean : ExcName → Option Value} {mg mb : Str → Option Value}
    (B : Below A₀ base outer h₀) (F : Fr h₀ L s.heap m) (X : (Mine.Lit.lt.heap_1 w.params).In h₀) (N : News h₀ L s.heap news) (T : Top Mine.Lit.lt.view_1 (looseW Mine.Lit.lt.view_1 []) mean mg mb h₀) (hk : cs.kind = .function)
    (U : UpdF sl (srcO d td m₁ tm n) news g) (h1 : 1 ≤ top) (h2 : top ≤ 100) (m0 : 0 ≤ m₁) (m1 : m₁ < 2147483647) (hd : dp + 3 < recursionLimit) (hu : un + 16 < cLine)
    (ret : ∀ r tr d' td' m' tm' h' tk, 0 ≤ r → r < top → 0 ≤ m' → m' < 2147483647 → Fr h₀ L h' m → News h₀ L h' (g (srcO d' td' m' tm' n)) → Q (.int r tr) { s with heap := h', toks := tk }) :
    wpAny (model PySem.Challenge.rw_nt0555_01.row.prog w) (ktrTop dp un gd cn cs L a ccd cl outer) (call (.ref 291) [.ref sl, .int top tt]) Q E s := by
  obtain ⟨pre, post, rfl, hg, a1, a2⟩ := U.split
  have off : OwnOff (pre ++ post) [sl] := fun p hp b hb => by
    rw [List.mem_singleton.mp hb]
    exact (List.mem_append.mp hp).elim (a1 p) (a2 p)
  refine Ct.use B F X (Mine.News.sub (l' := (sl, srcO d td m₁ tm n) :: (pre ++ post)) N fun p hp => ?_) T hk (take w off h1 h2 m0 m1) hd hu ?_
  · rcases List.mem_cons.mp hp with rfl | hp
    · exact List.mem_append_right _ (.head _)
    · exact (List.mem_append.mp hp).elim (List.mem_append_left _) fun h => List.mem_append_right _ (.tail _ h)
  · intro r tr d' td' m' tm' r0 r1 q0 q1 h' tk F' N'
    refine ret r tr d' td' m' tm' h' tk r0 r1 q0 q1 F' (Mine.News.sub N' fun p hp => ?_)
    rw [hg] at hp
    rcases List.mem_append.mp hp with hp | hp
    · exact .tail _ (List.mem_append_left _ hp)
    · rcases List.mem_cons.mp hp with rfl | hp
      · exact .head _
      · exact .tail _ (List.mem_append_right _ hp)
end Mine
end
section
open PySem PySem.Spec PySem.Calls PySem.W PyProof.Rows
set_option Elab.async false
set_option maxRecDepth 100000
namespace Mine
theorem append_L {prog : Program} {w : World} {A : Around} {E : Value → Shared → Prop} {s : Shared} {h₀ : Heap} {L D : Addr} {m : Str → Option Value} {news news' : List (Addr × Obj)} {vs : List Value} {n : Nat} {x : Value} {Q : Value → Shared → Prop} (F : Fr h₀ L s.heap m) (N : News h₀ L s.heap news)
    (U : Upd D (listOf vs.toArray n) (listOf (vs ++ [x]).toArray (n + 1)) news news') (h : ∀ h', Fr h₀ L h' m → News h₀ L h' news' → Q .none { s with heap := h' }) (hsz : vs.length ≤ 1000000) : wpAny (model prog w) A (call (.builtin "list.append") [.ref D, x]) Q E s := by
  have e : vs.toArray.push x = (vs ++ [x]).toArray := by simp
  rw [← e] at U
  exact append_K F N U h (by rw [sizeLine_eq, List.size_toArray]; omega)
abbrev tupO (a : Int) (t : Tok) (b : Int) (u : Tok) : Obj := { cls := .type "tuple", data := .seq #[.int a t, .int b u] }
/-- the row of the decisions -/
def RowIs (tups : List (Addr × Obj)) (refs : List Value) (decs : List (Int × Int)) : Prop :=
  refs.length = decs.length ∧ ∀ (k : Nat) (d : Int × Int), decs[k]? = some d → ∃ a t u, refs[k]? = some (.ref a) ∧ (a, tupO d.1 t d.2 u) ∈ tups
def DecOk (decs : List (Int × Int)) : Prop := ∀ d ∈ decs, 0 ≤ d.1 ∧ d.1 < 3 ∧ 0 ≤ d.2 ∧ d.2 < 2
def AllGt (a : Nat) (l : List (Addr × Obj)) : Prop := ∀ p ∈ l, @LT.lt Nat _ a p.1
theorem RowIs.nil : RowIs [] [] [] := ⟨rfl, fun k d h => by simp at h⟩
theorem RowIs.snoc {tups : List (Addr × Obj)} {refs : List Value} {decs : List (Int × Int)} (h : RowIs tups refs decs) (D : Addr) (a : Int) (t : Tok) (b : Int) (u : Tok) : RowIs ((D, tupO a t b u) :: tups) (refs ++ [Value.ref D]) (decs ++ [(a, b)]) := by
  refine ⟨by simp [h.1], fun k d hk => ?_⟩
  rcases Nat.lt_trichotomy k decs.length with q | q | q
  · rw [List.getElem?_append_left q] at hk
    obtain ⟨x, t', u', e, hm⟩ := h.2 k d hk
    exact ⟨x, t', u', by rw [List.getElem?_append_left (by rw [h.1]; exact q)]; exact e, .tail _ hm⟩
  · subst q
    simp at hk
    subst hk
    exact ⟨D, t, u, by rw [← h.1]; simp, .head _⟩
  · rw [List.getElem?_eq_none (by simp; omega)] at hk; cases hk
theorem DecOk.snoc {decs : List (Int × Int)} (h : DecOk decs) {a b : Int} (h1 : 0 ≤ a ∧ a < 3) (h2 : 0 ≤ b ∧ b < 2) : DecOk (decs ++ [(a, b)]) := fun d hd =>
  (List.mem_append.mp hd).elim (h d) fun hd => by rw [List.mem_singleton.mp hd]; exact ⟨h1.1, h1.2, h2.1, h2.2⟩
def RowJ (src rl : Addr) (n : Nat) (rest : List (Addr × Obj)) (m₀ : Str → Option Value) (i : Nat) (m : Str → Option Value) (nx : List (Addr × Obj)) : Prop :=
  ∃ ut ub refs tups decs q dd td mm tm, m = (fun y => if y = Str.ofString "turn" then ut else if y = Str.ofString "bit" then ub else m₀ y) ∧ nx = (src, srcO dd td mm tm n) :: (rl, listOf refs.toArray q) :: (tups ++ rest) ∧
    RowIs tups refs decs ∧ decs.length = i ∧ DecOk decs ∧ 0 ≤ mm ∧ mm < 2147483647 ∧ AllGt rl tups
section
variable {prog : Program} {w : World} {A : Around} {E : Value → Shared → Prop} {s : Shared} {env : Env} {h₀ : Heap} {body : List Stmt} {Q : Flow → Shared → Prop}
theorem row_loop {r src rl : Addr} {b₀ : Int} {t₀ u₀ v₀ : Tok} {k : Nat} {m₀ : Str → Option Value} {news rest : List (Addr × Obj)} {d m₁ : Int} {td tm : Tok} {n q : Nat}
    (hh : A.handled = none) (hr : IsRange s.heap r 0 b₀ 1 t₀ u₀ v₀) (hb : b₀ = (k : Int)) (hb1 : k < 1000000)
    (F : Fr h₀ env.locals s.heap m₀) (N : News h₀ env.locals s.heap news) (n1 : (src, srcO d td m₁ tm n) ∈ news) (n2 : (rl, listOf #[] q) ∈ news) (n3 : ∀ p ∈ rest, p ∈ news)
    (hs : @LT.lt Nat _ src rl) (hr1 : AllLt rl rest) (hoff : OwnOff rest [src]) (q0 : 0 ≤ m₁) (q1 : m₁ < 2147483647)
    (turn : ∀ (i : Nat) t ut ub refs tups decs q dd td mm tm h tk I it, i < k → RowIs tups refs decs → decs.length = i → DecOk decs → 0 ≤ mm → mm < 2147483647 → AllGt rl tups → OwnOff (tups ++ rest) [I, src, rl] → Dif I src → Dif I rl →
      Fr h₀ env.locals h (fun y => if y = Str.ofString "turn" then some (.int (i : Int) t) else if y = Str.ofString "turn" then ut else if y = Str.ofString "bit" then ub else m₀ y) →
      News h₀ env.locals h ((I, it) :: (src, srcO dd td mm tm n) :: (rl, listOf refs.toArray q) :: (tups ++ rest)) →
      wpAny (model prog w) A (execs body env) (GrowPost h₀ env.locals I it (RowJ src rl n rest m₀ (i + 1)) { s with heap := h, toks := tk } Q) E { s with heap := h, toks := tk })
    (done : ∀ ut ub refs tups decs q dd td mm tm h tk, RowIs tups refs decs → decs.length = k → DecOk decs → 0 ≤ mm → mm < 2147483647 → AllGt rl tups →
      Fr h₀ env.locals h (fun y => if y = Str.ofString "turn" then ut else if y = Str.ofString "bit" then ub else m₀ y) →
      News h₀ env.locals h ((src, srcO dd td mm tm n) :: (rl, listOf refs.toArray q) :: (tups ++ rest)) → Q .next { s with heap := h, toks := tk }) :
    wpAny (model prog w) A (pyIter (.ref r)) (fun it s₂ => LoopAtV prog w A h₀ env (Str.ofString "turn") body Q E it s₂) E s := by
  have offg : ∀ {tups}, AllGt rl tups → OwnOff (tups ++ rest) [src, rl] := by
    intro tups hg p hp b hb e
    rcases List.mem_append.mp hp with hp | hp
    · have h1 := hg p hp
      rcases List.mem_cons.mp hb with rfl | hb
      · rw [e] at h1; exact absurd (Nat.lt_trans hs h1) (Nat.lt_irrefl _)
      · rw [List.mem_singleton.mp hb] at e
        rw [e] at h1; exact Nat.lt_irrefl _ h1
    · rcases List.mem_cons.mp hb with rfl | hb
      · exact hoff p hp _ (.head _) e
      · rw [List.mem_singleton.mp hb] at e
        exact allLt_ne hr1 p hp e
  refine range_grow (RowJ src rl n rest m₀) hh hr hb hb1 F (News.sub (l' := (src, srcO d td m₁ tm n) :: (rl, listOf #[] q) :: ([] ++ rest)) N ?_) ⟨m₀ (Str.ofString "turn"), m₀ (Str.ofString "bit"), [], [], [], q, d, td, m₁, tm, canon2 fun _ _ _ => rfl, rfl, .nil, rfl, (fun d hd => nomatch hd), q0, q1, fun p hp => nomatch hp⟩ ?_ ?_
  · exact List.forall_mem_cons.mpr ⟨n1, List.forall_mem_cons.mpr ⟨n2, n3⟩⟩
  · rintro i t m nx h tk I it hi ⟨ut, ub, refs, tups, decs, q, dd, td, mm, tm, rfl, rfl, h1, h2, h3, h4, h5, h6⟩ hne F₁ N₁
    have a1 := hne _ (.head _)
    have a2 := hne _ (.tail _ (.head _))
    refine turn i t ut ub refs tups decs q dd td mm tm h tk I it hi h1 h2 h3 h4 h5 h6 ?_ (Ne.symm a1) (Ne.symm a2) F₁ N₁
    intro p hp b hb
    rcases List.mem_cons.mp hb with rfl | hb
    · exact hne p (.tail _ (.tail _ hp))
    · exact offg h6 p hp b hb
  · rintro m nx h tk ⟨ut, ub, refs, tups, decs, q, dd, td, mm, tm, rfl, rfl, h1, h2, h3, h4, h5, h6⟩ F₁ N₁
    exact done ut ub refs tups decs q dd td mm tm h tk h1 h2 h3 h4 h5 h6 F₁ N₁
theorem row_turn {src rl I D L : Addr} {it : Obj} {m₀ M : Str → Option Value} {all rest tups : List (Addr × Obj)} {refs : List Value} {decs : List (Int × Int)} {dd mm a b : Int} {td tm t u : Tok} {n q i : Nat} {s₁ : Shared} {h' : Heap} {tk : Nat}
    (F : Fr h₀ L h' M) (N : News h₀ L h' all) (hM : ∀ z, z ≠ Str.ofString "turn" → z ≠ Str.ofString "bit" → M z = m₀ z)
    (n0 : (I, it) ∈ all) (n1 : (src, srcO dd td mm tm n) ∈ all) (n2 : (rl, listOf (refs ++ [Value.ref D]).toArray q) ∈ all) (n3 : (D, tupO a t b u) ∈ all) (n4 : ∀ p ∈ tups ++ rest, p ∈ all)
    (hD : @LT.lt Nat _ rl D) (hDI : D ≠ I) (d1 : Dif I src) (d2 : Dif I rl) (off : OwnOff (tups ++ rest) [I, src, rl])
    (h1 : RowIs tups refs decs) (h2 : decs.length = i) (h3 : DecOk decs) (h4 : 0 ≤ mm) (h5 : mm < 2147483647) (h6 : AllGt rl tups) (ha : 0 ≤ a ∧ a < 3) (hb : 0 ≤ b ∧ b < 2) :
    GrowPost h₀ L I it (RowJ src rl n rest m₀ (i + 1)) s₁ Q .next { s₁ with heap := h', toks := tk } := by
  refine grow_next F (News.sub (l' := (I, it) :: (src, srcO dd td mm tm n) :: (rl, listOf (refs ++ [Value.ref D]).toArray q) :: (((D, tupO a t b u) :: tups) ++ rest)) N ?_) ?_
    ⟨_, _, _, _, _, q, dd, td, mm, tm, canon2 hM, rfl, h1.snoc D a t b u, by simp [h2], h3.snoc ha hb, h4, h5, ?_⟩
  · exact List.forall_mem_cons.mpr ⟨n0, List.forall_mem_cons.mpr ⟨n1, List.forall_mem_cons.mpr ⟨n2, List.forall_mem_cons.mpr ⟨n3, n4⟩⟩⟩⟩
  · exact List.forall_mem_cons.mpr ⟨Dif.ne' d1, List.forall_mem_cons.mpr ⟨Dif.ne' d2, List.forall_mem_cons.mpr ⟨hDI, fun p hp => off p hp _ (.head _)⟩⟩⟩
  · exact List.forall_mem_cons.mpr ⟨hD, h6⟩
end
end Mine
end
section
open PySem PySem.Spec PySem.Calls PySem.W PyProof.Rows
set_option Elab.async false
set_option maxRecDepth 100000
namespace Mine
/-! the pool: a product that grows -/
abbrev poolM (m₀ : Str → Option Value) (dg : Int) (t1 : Tok) (mx : Int) (t2 : Tok) (us un : Option Value) : Str → Option Value :=
  fun y => if y = Str.ofString "digits" then some (.int dg t1) else if y = Str.ofString "mixed" then some (.int mx t2) else if y = Str.ofString "size" then us else if y = Str.ofString "number" then un else m₀ y
def PoolJ (m₀ : Str → Option Value) (i : Nat) (m : Str → Option Value) : Prop :=
  ∃ dg t1 mx t2 us un, m = poolM m₀ dg t1 mx t2 us un ∧ Builtin.Int.intBits dg ≤ i * 1048580 ∧ 0 ≤ mx ∧ mx < 2147483647
theorem canon4 {a b c d : Str} {M m₀ : Str → Option Value} (h : ∀ z, z ≠ a → z ≠ b → z ≠ c → z ≠ d → M z = m₀ z) : M = fun y => if y = a then M a else if y = b then M b else if y = c then M c else if y = d then M d else m₀ y := by
  funext y
  by_cases h1 : y = a
  · subst h1; rw [if_pos rfl]
  · rw [if_neg h1]
    by_cases h2 : y = b
    · subst h2; rw [if_pos rfl]
    · rw [if_neg h2]
      by_cases h3 : y = c
      · subst h3; rw [if_pos rfl]
      · rw [if_neg h3]
        by_cases h4 : y = d
        · subst h4; rw [if_pos rfl]
        · rw [if_neg h4]; exact h y h1 h2 h3 h4
theorem poolM_of {M m₀ : Str → Option Value} {dg mx : Int} {t1 t2 : Tok} (h1 : M (Str.ofString "digits") = some (.int dg t1)) (h2 : M (Str.ofString "mixed") = some (.int mx t2))
    (h : ∀ z, z ≠ Str.ofString "digits" → z ≠ Str.ofString "mixed" → z ≠ Str.ofString "size" → z ≠ Str.ofString "number" → M z = m₀ z) : M = poolM m₀ dg t1 mx t2 (M (Str.ofString "size")) (M (Str.ofString "number")) := by
  have e := canon4 h
  rw [h1, h2] at e
  exact e
section
variable {prog : Program} {w : World} {A : Around} {E : Value → Shared → Prop} {s : Shared} {env : Env} {h₀ : Heap} {body : List Stmt} {Q : Flow → Shared → Prop}
theorem pool_loop {l : Addr} {vs : List Value} {ns : List Int} {m₀ : Str → Option Value} {news : List (Addr × Obj)} {t1 t2 : Tok}
    (hh : A.handled = none) (hl : h₀.IsList l vs.toArray) (hi : IntsAre vs ns) (F : Fr h₀ env.locals s.heap m₀) (N : News h₀ env.locals s.heap news) (e1 : m₀ (Str.ofString "digits") = some (.int 0 t1)) (e2 : m₀ (Str.ofString "mixed") = some (.int 43 t2))
    (turn : ∀ (i : Nat) n t dg t1 mx t2 us un h tk own, n ∈ ns → i < ns.length → Builtin.Int.intBits dg ≤ i * 1048580 → 0 ≤ mx → mx < 2147483647 →
      Fr h₀ env.locals h (fun y => if y = Str.ofString "number" then some (.int n t) else poolM m₀ dg t1 mx t2 us un y) → News h₀ env.locals h (own ++ news) →
      wpAny (model prog w) A (execs body env) (InvPost h₀ env.locals (PoolJ m₀ (i + 1)) (own ++ news) { s with heap := h, toks := tk } Q) E { s with heap := h, toks := tk })
    (done : ∀ dg t1 mx t2 us un h tk, 0 ≤ mx → mx < 2147483647 → Fr h₀ env.locals h (poolM m₀ dg t1 mx t2 us un) → News h₀ env.locals h news → Q .next { s with heap := h, toks := tk }) :
    wpAny (model prog w) A (pyIter (.ref l)) (fun it s₂ => LoopAtV prog w A h₀ env (Str.ofString "number") body Q E it s₂) E s := by
  refine iter_inv (PoolJ m₀) hh hl hi F N ⟨0, t1, 43, t2, _, _, poolM_of e1 e2 fun _ _ _ _ _ => rfl, by decide, by decide, by decide⟩ ?_ ?_
  · rintro i n t m₁ h tk own hn ⟨dg, t1, mx, t2, us, un, rfl, h1, h2, h3⟩ F₁ N₁
    exact turn i n t dg t1 mx t2 us un h tk own (List.mem_of_getElem? hn) (List.getElem?_eq_some_iff.mp hn).1 h1 h2 h3 F₁ N₁
  · rintro m₁ h tk ⟨dg, t1, mx, t2, us, un, rfl, h1, h2, h3⟩ F₁ N₁
    exact done dg t1 mx t2 us un h tk h2 h3 F₁ N₁
theorem pool_turn {L : Addr} {m₀ M : Str → Option Value} {need all : List (Addr × Obj)} {i : Nat} {dg mx : Int} {t1 t2 : Tok} {s₁ : Shared} {h' : Heap} {tk : Nat} (F : Fr h₀ L h' M) (N : News h₀ L h' all) (hn : ∀ p ∈ need, p ∈ all)
    (h1 : M (Str.ofString "digits") = some (.int dg t1)) (h2 : M (Str.ofString "mixed") = some (.int mx t2)) (h : ∀ z, z ≠ Str.ofString "digits" → z ≠ Str.ofString "mixed" → z ≠ Str.ofString "size" → z ≠ Str.ofString "number" → M z = m₀ z)
    (hb : Builtin.Int.intBits dg ≤ (i + 1) * 1048580) (hm : 0 ≤ mx ∧ mx < 2147483647) : InvEnd h₀ L (PoolJ m₀ (i + 1)) need s₁ { s₁ with heap := h', toks := tk } :=
  InvEnd.intro F N hn ⟨_, _, _, _, _, _, poolM_of h1 h2 h, hb, hm.1, hm.2⟩
theorem pool_loop_cps {l : Addr} {vs : List Value} {ns : List Int} {m₀ : Str → Option Value} {news : List (Addr × Obj)} {t1 t2 : Tok}
    (hh : A.handled = none) (hl : h₀.IsList l vs.toArray) (hi : IntsAre vs ns) (F : Fr h₀ env.locals s.heap m₀) (N : News h₀ env.locals s.heap news) (e1 : m₀ (Str.ofString "digits") = some (.int 0 t1)) (e2 : m₀ (Str.ofString "mixed") = some (.int 43 t2))
    (turn : ∀ (i : Nat) n t dg t1 mx t2 us un h tk own (W : Flow → Shared → Prop), n ∈ ns → i < ns.length → Builtin.Int.intBits dg ≤ i * 1048580 → 0 ≤ mx → mx < 2147483647 →
      (∀ M h' tk' all dg' t1' mx' t2', Fr h₀ env.locals h' M → News h₀ env.locals h' all → (∀ p ∈ own ++ news, p ∈ all) → M (Str.ofString "digits") = some (.int dg' t1') → M (Str.ofString "mixed") = some (.int mx' t2') →
        (∀ z, z ≠ Str.ofString "digits" → z ≠ Str.ofString "mixed" → z ≠ Str.ofString "size" → z ≠ Str.ofString "number" → M z = m₀ z) → Builtin.Int.intBits dg' ≤ (i + 1) * 1048580 → 0 ≤ mx' ∧ mx' < 2147483647 → W .next { s with heap := h', toks := tk' }) →
      Fr h₀ env.locals h (fun y => if y = Str.ofString "number" then some (.int n t) else poolM m₀ dg t1 mx t2 us un y) → News h₀ env.locals h (own ++ news) →
      wpAny (model prog w) A (execs body env) W E { s with heap := h, toks := tk })
    (done : ∀ dg t1 mx t2 us un h tk, 0 ≤ mx → mx < 2147483647 → Fr h₀ env.locals h (poolM m₀ dg t1 mx t2 us un) → News h₀ env.locals h news → Q .next { s with heap := h, toks := tk }) :
    wpAny (model prog w) A (pyIter (.ref l)) (fun it s₂ => LoopAtV prog w A h₀ env (Str.ofString "number") body Q E it s₂) E s :=
  pool_loop hh hl hi F N e1 e2 (fun i n t dg t1 mx t2 us un h tk own a b c d e f g => turn i n t dg t1 mx t2 us un h tk own _ a b c d e
    (fun _ _ _ _ _ _ _ _ F' N' hn h1 h2 hM hb hm => pool_turn (s₁ := { s with heap := h, toks := tk }) F' N' hn h1 h2 hM hb hm) f g) done
end
theorem bits_neg_of {n : Int} {k : Nat} (hk : 1 ≤ k) (h : Builtin.Int.intBits n ≤ k) : Builtin.Int.intBits (-1 - n) ≤ k + 1 := by
  have e := intBits_sub_le (x := -1) (m := 1) (intBits_le_iff.mpr (by decide)) h
  rw [Nat.max_eq_right hk] at e
  exact e
theorem bits_neg {n : Int} (h : Builtin.Int.intBits n ≤ 1048576) : Builtin.Int.intBits (-1 - n) ≤ 1048577 := by
  have e := bits_neg_of (k := 1048576) (by omega) h
  omega
theorem bits_step_of {dg sz : Int} {j k : Nat} (h1 : Builtin.Int.intBits dg ≤ j) (h2 : Builtin.Int.intBits sz ≤ k) : Builtin.Int.intBits (dg * sz + sz) ≤ j + k + 1 := by
  have e := intBits_add_le (intBits_mul_le h1 h2) h2
  rw [Nat.max_eq_left (Nat.le_add_left k j)] at e
  exact e
theorem bits_step {dg sz : Int} {i : Nat} (h1 : Builtin.Int.intBits dg ≤ i * 1048580) (h2 : Builtin.Int.intBits sz ≤ 1048577) : Builtin.Int.intBits (dg * sz + sz) ≤ (i + 1) * 1048580 := by
  have e := bits_step_of h1 h2
  omega
theorem bits_keep {dg : Int} {i : Nat} (h1 : Builtin.Int.intBits dg ≤ i * 1048580) : Builtin.Int.intBits dg ≤ (i + 1) * 1048580 := Nat.le_trans h1 (Nat.mul_le_mul_right _ (Nat.le_succ i))
theorem mul_ok {dg sz : Int} {i : Nat} (h1 : Builtin.Int.intBits dg ≤ i * 1048580) (h2 : Builtin.Int.intBits sz ≤ 1048577) (hi : i < 63) : IntMulOk dg sz := .of_le h1 h2 (by omega)
end Mine
end
section
open PySem PySem.Spec PySem.Calls PySem.W PyProof.Rows
open Sem (wp)
set_option Elab.async false
set_option maxRecDepth 100000
namespace Mine
section
variable {cs : List Code} {M : Model} {A : Around} {s : Shared} {env : Env} {pos : Pos} {f : Value} {first : List Value} {Q : Value → Shared → Prop}
theorem wpG_keep {α : Type} {vs : List Value} {m : Sem α} {Q : α → Shared → Prop} (h : wpG cs M A m Q s) : wpG cs M A (m.keep vs) Q s :=
  fun Γ p hΓ hg => by rw [Sem.wp_keep]; exact h Γ p hΓ hg
theorem wpG_callWith {P : Heap → Prop} {args : List (Bool × Sem Value)} (hplain : args.any (·.1) = false)
    (hk : ∀ h, P h → ∃ k, (k = Keeper.frame ∨ k = Keeper.machine) ∧ Looks M h (keeperOf f) k)
    (h : wpAny M A (evalArgs f true args []) (fun a s₁ => P s₁.heap ∧ a.kw = [] ∧ wpG cs M A (call f (first ++ a.pos)) Q s₁) (fun _ _ => False) s) : wpG cs M A (callWith pos f first args []) Q s := by
  unfold callWith
  refine wpG_bind (wpG_holding (wpG_mono (wpG_of h) fun a s₁ h₁ => wpG_bind (wpG_standAt ?_)))
  obtain ⟨h1, h2, h3⟩ := h₁
  obtain ⟨k, hk', L⟩ := hk _ h1
  simp only [hplain, List.any_nil, Bool.or_false, h2]
  refine wpG_bind (wpG_of (L.here ?_))
  have tail : ∀ {t : Sem Value}, wpG cs M A t Q s₁ → wpG cs M A (t >>= fun r => holding [r] point >>= fun _ => pure r) Q s₁ :=
    fun ht => wpG_bind (wpG_mono ht fun r s₂ hr => wpG_bind (wpG_holding (wpG_of (wpAny_point (wpG_pure hr)))))
  rcases hk' with rfl | rfl <;> dsimp only
  · split
    · exact tail h3
    · exact tail (by unfold callMarked; exact wpG_keep h3)
  · exact tail h3
/-- a method of the text's own -/
theorem wpG_callWith_K {K : Frag} {args : List (Bool × Sem Value)} (hk : keepIn K f = true) (hplain : args.any (·.1) = false)
    (h : wpAny M A (evalArgs f true args []) (fun a s₁ => K.In s₁.heap ∧ a.kw = [] ∧ wpG cs M A (call f (first ++ a.pos)) Q s₁) (fun _ _ => False) s) : wpG cs M A (callWith pos f first args []) Q s :=
  wpG_callWith hplain (fun h X => by obtain ⟨k, a, b⟩ := looks_keep (M := M) hk X; exact ⟨k, a, b⟩) h
theorem wpG_callWith_K0 {K : Frag} (X : K.In s.heap) (hk : keepIn K f = true) (h : wpG cs M A (call f first) Q s) : wpG cs M A (callWith pos f first (backTo pos (starEach [] env)) []) Q s :=
  wpG_callWith_K hk rfl (evalArgs_nil3 ⟨X, rfl, by rw [List.append_nil]; exact h⟩)
theorem wpG_callWith_K1 {K : Frag} {e : Expr} {rest : List Expr} (hk : keepIn K f = true)
    (h : wpAny M A (spliced (backTo pos (starEach (e :: rest) env))) (fun vs s₁ => K.In s₁.heap ∧ wpG cs M A (call f (first ++ vs)) Q s₁) (fun _ _ => False) s)
    (he : starEach (e :: rest) env = (false, eval e env) :: starEach rest env := by rfl) (hplain : (backTo pos (starEach rest env)).any (·.1) = false := by rfl) :
    wpG cs M A (callWith pos f first (backTo pos (starEach (e :: rest) env)) []) Q s := by
  rw [he] at h ⊢
  exact wpG_callWith_K hk (by show (false || (backTo pos (starEach rest env)).any (·.1)) = false; rw [hplain]; rfl) (evalArgs_plain (wpAny_mono h (fun _ _ q => ⟨q.1, rfl, q.2⟩) fun _ _ x => x))
/-- a built-in method -/
theorem wpG_callWith_b0 {id : String} (h : wpG cs M A (call (.builtin id) first) Q s) : wpG cs M A (callWith pos (.builtin id) first (backTo pos (starEach [] env)) []) Q s :=
  wpG_callWith (P := fun _ => True) rfl (fun _ _ => ⟨.machine, .inr rfl, Looks.of_pure rfl⟩) (evalArgs_nil3 ⟨trivial, rfl, by rw [List.append_nil]; exact h⟩)
theorem wpG_callWith_b1 {id : String} {e : Expr} {rest : List Expr}
    (h : wpAny M A (spliced (backTo pos (starEach (e :: rest) env))) (fun vs s₁ => wpG cs M A (call (.builtin id) (first ++ vs)) Q s₁) (fun _ _ => False) s)
    (he : starEach (e :: rest) env = (false, eval e env) :: starEach rest env := by rfl) (hplain : (backTo pos (starEach rest env)).any (·.1) = false := by rfl) :
    wpG cs M A (callWith pos (.builtin id) first (backTo pos (starEach (e :: rest) env)) []) Q s := by
  rw [he] at h ⊢
  exact wpG_callWith (P := fun _ => True) (by show (false || (backTo pos (starEach rest env)).any (·.1)) = false; rw [hplain]; rfl) (fun _ _ => ⟨.machine, .inr rfl, Looks.of_pure rfl⟩) (evalArgs_plain (wpAny_mono h (fun _ _ q => ⟨trivial, rfl, q⟩) fun _ _ x => x))
end

section
variable {cs : List Code} {prog : Program} {w : World} {A A₀ : Around} {s : Shared}
theorem codeG_whileLoop {test : Expr} {body orelse : List Stmt} {env : Env} {R : Result → Shared → Prop} (I : Nat → Shared → Prop)
    (turn : ∀ n s, I n s →
      wpAny (model prog w) A (isTrue test env (eval test env)) (fun b s₂ =>
        if b = true then wpG cs (model prog w) A (execs body env) (fun f s₃ => match f with
            | .next | .cont => ∃ m, m < n ∧ I m s₃
            | .brk => R (.ok .next) s₃
            | .ret v => R (.ok (.ret v)) s₃) s₂
        else wpG cs (model prog w) A (execs orelse env) (fun f s₃ => R (.ok f) s₃) s₂) (fun _ _ => False) s)
    (n : Nat) (h : I n s) : codeG cs (model prog w) A (.whileLoop test body orelse env) R s := by
  refine codeG_loop rfl I (fun n s hI => ?_) n h
  show wpG cs _ A ((whileTurn test body orelse env).onRaise (fun x => do noteFrame x env; theTreesLotGoes x)) _ s
  refine wpG_onRaise ?_
  simp only [whileTurn]
  refine wpG_bind (wpG_mono (wpG_of (turn n s hI)) fun b s₂ h₂ => ?_)
  cases b with
  | false =>
    simp only [Bool.false_eq_true, if_false] at h₂ ⊢
    exact wpG_bind (wpG_mono h₂ fun f s₃ h₃ => wpG_pure h₃)
  | true =>
    simp only [if_true] at h₂ ⊢
    refine wpG_bind (wpG_mono h₂ fun f s₃ h₃ => ?_)
    cases f with
    | next => exact wpG_pure ⟨rfl, h₃⟩
    | cont => exact wpG_pure ⟨rfl, h₃⟩
    | brk => exact wpG_pure h₃
    | ret v => exact wpG_pure h₃

theorem whileG_cps {Q : Flow → Shared → Prop} {env : Env} {h₀ : Heap} {L : Addr} {test : Expr} {body : List Stmt} {pos : Pos} {m : Str → Option Value} {news : List (Addr × Obj)}
    (J : Nat → (List (Addr × Obj) → Prop) → Prop) (n₀ : Nat)
    (F : Fr h₀ L s.heap m) (N : News h₀ L s.heap news) (hJ : ∀ K, J n₀ K → K news)
    (turn : ∀ n h₁ tk₁ (P : Flow → Shared → Prop), Fr h₀ L h₁ m → (∀ v s₃, Q (.ret v) s₃ → P (.ret v) s₃) →
      (∀ n' h' tk nx, Fr h₀ L h' m → News h₀ L h' nx → n' < n → (∀ K, J n' K → K nx) → P .next { s with heap := h', toks := tk }) →
      J n fun nx => News h₀ L h₁ nx → wpAny (model prog w) A (isTrue test env (eval test env)) (fun b s₂ =>
        if b = true then wpG cs (model prog w) A (execs body env) P s₂ else Q .next s₂) (fun _ _ => False) { s with heap := h₁, toks := tk₁ }) :
    wpG cs (model prog w) A (exec (.While test body [] pos) env) Q s := by
  refine wpG_While (codeG_whileLoop (fun n s' => ∃ h₁ tk₁ nx, s' = { s with heap := h₁, toks := tk₁ } ∧ Fr h₀ L h₁ m ∧ News h₀ L h₁ nx ∧ ∀ K, J n K → K nx) ?_ n₀ ⟨s.heap, s.toks, news, rfl, F, N, hJ⟩)
  rintro n s' ⟨h₁, tk₁, nx, rfl, F₁, N₁, J₁⟩
  refine wpAny_mono (J₁ _ (turn n h₁ tk₁ (fun f s₃ => match f with | .brk => Q .next s₃ | .ret v => Q (.ret v) s₃ | _ => ∃ h' tk nx n', s₃ = { s with heap := h', toks := tk } ∧ Fr h₀ L h' m ∧ News h₀ L h' nx ∧ n' < n ∧ ∀ K, J n' K → K nx) F₁ (fun _ _ x => x) fun n' h' tk nx' a b c d => ⟨h', tk, nx', n', rfl, a, b, c, d⟩) N₁) (fun b s₂ h₂ => ?_) fun _ _ x => x
  cases b with
  | false =>
    simp only [Bool.false_eq_true, if_false] at h₂ ⊢
    exact wpG_execs_nil h₂
  | true =>
    simp only [if_true] at h₂ ⊢
    refine wpG_mono h₂ fun f s₃ q => ?_
    cases f with
    | next => obtain ⟨h', tk, nx', n', rfl, F₂, N₂, hn, J₂⟩ := q; exact ⟨n', hn, h', tk, nx', rfl, F₂, N₂, J₂⟩
    | cont => obtain ⟨h', tk, nx', n', rfl, F₂, N₂, hn, J₂⟩ := q; exact ⟨n', hn, h', tk, nx', rfl, F₂, N₂, J₂⟩
    | brk => exact q
    | ret v => exact q

theorem codeG_func {body : List Stmt} {env : Env} {R : Result → Shared → Prop}
    (h : wpG cs (model prog w) (A.deeper env) (execs body env) (fun f s' => R (.ok (.ret (match f with | .ret v => v | _ => .none))) s') s) : codeG cs (model prog w) A (.func body env) R s := by
  refine codeG_of_tree ?_
  show wpG cs _ (A.deeper env) (do point; match ← (execs body env).onRaise (leaving env) with | .ret v => ret v | _ => ret .none) _ s
  refine wpG_bind (wpG_of (wpAny_point (wpG_bind (wpG_onRaise (wpG_mono h fun f s' h' => ?_)))))
  cases f <;> exact wpG_pure h'
theorem codeG_call_function {a : Addr} {args : Args} {o : Obj} {fd : FuncData} {body : List Stmt} {R : Result → Shared → Prop} (hroom : A.depth < recursionLimit)
    (ho : s.heap.get? a = some o) (hd' : o.data = .func fd) (hco : fd.scope.isCoroutine = false) (hgen : fd.scope.isGenerator = false) (hbody : fd.body = .stmts body) (hcd : s.heap.CodeRec fd.code fd.qualname)
    (h : wpAny (model prog w) A.in1 (bindArgs fd args) (fun binds s₁ =>
      wpAny (model prog w) A.in1 (newFunctionEnv fd.scope fd.globals fd.closure binds (fd.qualname ++ ".<locals>.") (some a) fd.code none fd.builtins)
        (fun env s₂ => s₂.heap.NoLimit ∧ codeG cs (model prog w) A (.func body env) R s₂) (fun _ _ => False) s₁) (fun _ _ => False) s) :
    codeG cs (model prog w) A (.call (.ref a) args) R s := by
  refine codeG_of_tree ?_
  show wpG cs _ A.in1 (callAny (.ref a) args) _ s
  simp only [callAny]
  refine wpG_bind (wpG_of (wpAny_load ho ?_))
  obtain ⟨c, oc, vs, tq, hc, hoc, hdc, hq⟩ := hcd
  simp only [hd', callFunction, hco, hgen, hbody, hc]
  rw [hc] at h
  refine wpG_bind (m := field (.ref c) 1) (wpG_of (wpAny_field hoc hdc hq (wpG_bind (wpG_pure ?_))))
  exact wpG_bind (wpG_mono (wpG_of h) fun binds s₁ h₁ => wpG_bind (wpG_mono (wpG_of h₁) fun env s₂ h₂ => wpG_bind (wpG_of (wpAny_enterFrame h₂.1 hroom (wpG_pure ⟨rfl, h₂.2⟩)))))

theorem codeG_def {base h₀ : Heap} {outer : List Env} {L f : Addr} {m : Str → Option Value} {env : Env} {news : List (Addr × Obj)} {K : Frag} {p : Program} {loose : List Str} {mean : ExcName → Option Value} {mg mb : Str → Option Value}
    {R : Result → Shared → Prop} {name qual : Str} {params : Arguments} {body : List Stmt} {scope : Scope} {dV kV doc pm cdv ct oc : Value} {an od : Option Addr} {osl : Array (Option Value)} {args : Args} {binds : List (Str × Value)}
    (B : Below A₀ base outer h₀) (F : Fr h₀ L s.heap m) (X₀ : K.In h₀) (N : News h₀ L s.heap news) (T : Top p loose mean mg mb h₀) (hA : A.frames = some (env :: outer)) (hf : env.frame = some L) (hke : env.scope.kind = .function)
    (ho : K.lookup f = some ⟨oc, od, .func (fnOf name qual params body scope dV kV doc pm an cdv ct), osl⟩) (hcd : codeIn K cdv qual = true) (hroom : A.depth < recursionLimit)
    (hbind : BindsTo s (fnOf name qual params body scope dV kV doc pm an cdv ct) args binds) (hloc : ∀ y ∈ binds, scope.names.lookup y.1 = some .local)
    (h : ∀ g L' h₁, Fr h₀ L g m → Fr g L' h₁ (fun y => binds.reverse.lookup y) → News g L' h₁ news → Below A base (env :: outer) g → K.In g → Top p loose mean mg mb g →
      wpG cs (model prog w) (A.deeper (envOf qual scope L' f cdv)) (execs body (envOf qual scope L' f cdv))
        (fun fl s' => LeaveK h₀ L m g R (match fl with | .ret v => v | _ => .none) s') { s with heap := h₁, toks := s.toks + binds.length })
    (hco : scope.isCoroutine = false) (hgen : scope.isGenerator = false) (hk : scope.kind = .function) (hcell : ∀ x ∈ scope.names, x.2 ≠ .cell) : codeG cs (model prog w) A (.call (.ref f) args) R s := by
  obtain ⟨FG, BG, st, lv⟩ := groundX (R := R) B F N hA hf hke
  refine codeG_call_function hroom ((X₀.keeps F.keep) _ _ ho) rfl hco hgen rfl (codeRec_of (X₀.keeps F.keep) hcd) (hbind _ _ _ _ ?_)
  refine wpAny_newFunctionEnv hcell hloc (fun h₁ hns hsb => ⟨(T.nolimit.keeps F.keep).fresh _ hsb, codeG_func ?_⟩) hk
  have hk₁ : ∀ b o, s.heap.get? b = some o → h₁.get? b = some o := fun b o e => hsb.extBut b o (Nat.ne_of_lt (Heap.lt_size e)) (Heap.get?_push_of_some _ e)
  exact wpG_mono (h _ s.heap.objs.size h₁ FG ⟨hns, fun b o e => hk₁ b o (of_hideAll _ e), Nat.le_of_eq (hideAll_size _ _)⟩
    (fun p hp => ⟨hk₁ _ _ (N p hp).1, Nat.ne_of_lt (Heap.lt_size (N p hp).1), hideAll_none _ (List.mem_map_of_mem hp)⟩) BG (X₀.keeps st) (T.keeps st)) fun fl s' hl => lv _ _ hl
end
end Mine
end
section
open PySem PySem.Spec PySem.Calls PySem.W PyProof.Rows
open Sem (wp)
set_option Elab.async false
set_option maxRecDepth 100000
namespace Mine
/-! what lies on the stack: where the claim's caller is below and the units are used up, no decoder -/
theorem units_code (c : Code) : 3 * c.envs.length ≤ c.cUnits := by
  unfold Code.envs
  split
  · rename_i h
    cases c <;> simp [Code.isFrame] at h <;> (try (simp [Code.env?, Code.cUnits, Code.frames, Code.isFrame]; done))
    all_goals (split at h <;> simp_all [Code.env?, Code.cUnits, Code.frames, Code.isFrame])
  · simp
/-- what a code takes beside its frame -/
def extra (c : Code) : Nat := c.cUnits - 3 * c.envs.length
def extras (cs : List Code) : Nat := (cs.map extra).sum
theorem units_eq : ∀ st : List (Code × Pos), unitsOf st = 3 * (envsOf st).length + extras (st.map (·.1))
  | [] => rfl
  | (c, p) :: r => by
    rw [envsOf_cons, unitsOf_cons, List.length_append]
    have h1 := units_code c
    have h2 := units_eq r
    have h3 : extras (((c, p) :: r).map (·.1)) = extra c + extras (r.map (·.1)) := by simp [extras]
    have h4 : extra c = c.cUnits - 3 * c.envs.length := rfl
    rw [h3]; omega
theorem extras_sub {cs l : List Code} (h : List.Sublist cs l) : extras cs ≤ extras l := by
  induction h with
  | slnil => exact Nat.le_refl _
  | cons a _ ih => simp only [extras, List.map_cons, List.sum_cons] at ih ⊢; omega
  | cons_cons a _ ih => simp only [extras, List.map_cons, List.sum_cons] at ih ⊢; omega
theorem all_known {cs l : List Code} (h : List.Sublist cs l) (hs : extras l ≤ extras cs) : ∀ c ∈ l, 1 ≤ extra c → c ∈ cs := by
  induction h with
  | slnil => intro c hc; cases hc
  | cons a h ih =>
    intro c hc he
    have h1 := extras_sub h
    simp only [extras, List.map_cons, List.sum_cons] at hs h1 ih
    rcases List.mem_cons.mp hc with rfl | hc
    · omega
    · exact ih (by omega) c hc he
  | cons_cons a h ih =>
    intro c hc he
    simp only [extras, List.map_cons, List.sum_cons] at hs ih
    rcases List.mem_cons.mp hc with rfl | hc
    · exact .head _
    · exact .tail _ (ih (by omega) c hc he)
theorem extra_builtin (id : String) (args : Args) : 1 ≤ extra (.builtin id args) := by
  have e1 : (Code.builtin id args).envs.length = 0 := rfl
  have e2 : 1 ≤ (Code.builtin id args).cUnits := by show 1 ≤ 1 + 3 * _; omega
  unfold extra; omega
/-- the built-ins below are the known ones -/
theorem known_builtin {l : List Env} {cs : List Code} {st : List (Code × Pos)} {q' : Pos} {id : String} {args : Args} (hc : List.Sublist cs (st.map (·.1))) (he : envsOf st = l) (hu : unitsOf st ≤ 3 * l.length + extras cs) (hb : (Code.builtin id args, q') ∈ st) : Code.builtin id args ∈ cs := by
  rw [units_eq, he] at hu
  exact all_known hc (by omega) _ (List.mem_map.mpr ⟨_, hb, rfl⟩) (extra_builtin id args)
/-- codes that hold no bytearray -/
def Calm (cs : List Code) : Prop := ∀ c ∈ cs, ∃ id args, c = .builtin id args ∧ (id = "claim.caller" ∨ id = "type.__call__")
theorem Calm.cons {cs : List Code} (h : Calm cs) (args : Args) : Calm (.builtin "type.__call__" args :: cs) := fun c hc =>
  (List.mem_cons.mp hc).elim (fun e => ⟨_, _, e, .inr rfl⟩) (h c)
theorem calm_one : Calm [callerCode] := fun c hc => ⟨_, _, List.mem_singleton.mp hc, .inl rfl⟩

def wpO {α : Type} (cs : List Code) (M : Model) (A : Around) (c : Code) (t : Sem α) (Q : α → Shared → Prop) (s : Shared) : Prop :=
  ∀ (Γ : PySem.Ctx) (p : Pos), Γ.code = c → Γ.Below A → Has cs Γ → wp M Γ t (fun a _ s' => Q a s') (fun _ _ _ => False) p s
section
variable {α β : Type} {cs : List Code} {M : Model} {A : Around} {s : Shared} {c : Code}
theorem wpO_of {t : Sem α} {Q : α → Shared → Prop} (h : wpAny M (A.under c) t Q (fun _ _ => False) s) : wpO cs M A c t Q s := fun Γ p hc hΓ _ => h Γ p (hc ▸ hΓ.in)
theorem wpO_pure {a : α} {Q : α → Shared → Prop} (h : Q a s) : wpO cs M A c (pure a) Q s := fun _ _ _ _ _ => h
theorem wpO_mono {t : Sem α} {Q Q' : α → Shared → Prop} (h : wpO cs M A c t Q s) (hQ : ∀ a s, Q a s → Q' a s) : wpO cs M A c t Q' s :=
  fun Γ p hc hΓ hg => Sem.wp_mono M Γ t (fun a _ s => hQ a s) (fun _ _ _ x => x) p s (h Γ p hc hΓ hg)
theorem wpO_bind {m : Sem α} {f : α → Sem β} {Q : β → Shared → Prop} (h : wpO cs M A c m (fun a s' => wpO cs M A c (f a) Q s') s) : wpO cs M A c (m >>= f) Q s := fun Γ p hc hΓ hg => by
  rw [Sem.wp_bind']
  exact Sem.wp_mono M Γ m (fun a p' s' h' => h' Γ p' hc hΓ hg) (fun _ _ _ x => x) p s (h Γ p hc hΓ hg)
theorem codeG_of_own {R : Result → Shared → Prop}
    (h : wpO cs M A c (M.den c) (fun fin s' => match fin with | .done f => R (.ok f) s' | .again c' => c'.quiet = true ∧ codeG cs M A c' R s') s) : codeG cs M A c R s := fun Γ p hc hΓ hg => by
  rw [wpCode_iff_wp, hc]
  refine Sem.wp_mono M Γ _ (fun fin p' s' h' => ?_) (fun _ _ _ h' => h'.elim) p s (h Γ p hc hΓ hg)
  cases fin with
  | done f => exact h'
  | again c' => exact ⟨h'.1, h'.2 (Γ.goto c') p' rfl (hΓ.goto c') (hg.goto c')⟩
/-- the stack below holds no decoder -/
theorem wpO_exported {id : String} {args : Args} {fb : Addr} {l : List Env} {Q : Bool → Shared → Prop} (hid : id = "bytearray.append" ∨ id = "bytearray.pop" ∨ id = "bytearray.__init__") (hcs : Calm cs) (hf : A.frames = some l) (hu : A.units ≤ 3 * l.length + extras cs) (h : Q false s) :
    wpO cs M A (.builtin id args) (Builtin.Bytes.exported (.ref fb)) Q s := fun Γ p hc hΓ hg => by
  unfold Builtin.Bytes.exported
  rw [Sem.wp_bind']
  show wp M Γ (.stack .pure) _ _ p s
  rw [Sem.wp_stack, Sem.wp_pure]
  show Q (List.any _ _) s
  have fin : ∀ b : Bool, b = false → Q b s := fun b hb => hb ▸ h
  refine fin _ (List.any_eq_false.mpr fun x hx => ?_)
  have hfr := hΓ.2.2.1 l hf
  have hun := hΓ.2.2.2.2
  have hx' : (∃ i a, x.1 = .builtin i a ∧ Builtin.Bytes.decodersThatHold.contains i = false ∧ (i = "bytearray.append" ∨ i = "bytearray.pop" ∨ i = "bytearray.__init__" ∨ i = "claim.caller" ∨ i = "type.__call__")) ∨ ∀ i a, x.1 ≠ .builtin i a := by
    rcases List.mem_cons.mp hx with rfl | hx
    · exact .inl ⟨id, args, hc, by rcases hid with rfl | rfl | rfl <;> decide +kernel, by rcases hid with h | h | h <;> simp [h]⟩
    · obtain ⟨c, p'⟩ := x
      cases c with
      | builtin i a =>
        obtain ⟨i', a', e, hi⟩ := hcs _ (known_builtin hg hfr (Nat.le_trans hun hu) hx)
        injection e with e1 e2
        subst e1
        exact .inl ⟨i, a, rfl, by rcases hi with rfl | rfl <;> decide +kernel, by rcases hi with h | h <;> simp [h]⟩
      | _ => exact .inr fun i a e => (nomatch e)
  obtain ⟨c, p'⟩ := x
  clear hx fin
  rcases hx' with ⟨i, a, e, hn, hi⟩ | e
  · dsimp only at e
    subst e
    obtain ⟨pos, kw⟩ := a
    have two : ∀ v r, ¬ ((Builtin.Bytes.sameRef v r && Builtin.Bytes.decodersThatHold.contains i) = true) := fun v r => by rw [hn, Bool.and_false]; exact Bool.false_ne_true
    rcases hi with rfl | rfl | rfl | rfl | rfl
    all_goals (
      rcases pos with _ | ⟨v, _ | ⟨v2, r⟩⟩
      · exact Bool.false_ne_true
      · exact two v (.ref fb)
      · exact two v (.ref fb))
  · cases c with
    | builtin i a => exact absurd rfl (e i a)
    | _ => exact Bool.false_ne_true
end
end Mine
end
section
open PySem PySem.Spec PySem.Calls PySem.W PyProof.Rows
open Sem (wp)
set_option Elab.async false
set_option maxRecDepth 100000
namespace Mine
/-! what the interpreter's tables say of bytearray -/
theorem ba_plainAttrs : PlainAttrs "bytearray" :=
  ⟨⟨"bytearray.__getattribute__", by rw [typeLookup_type, builtinLookup_eq_fast]; kernel_rfl, by decide +kernel⟩, by rw [typeLookup_type, builtinLookup_eq_fast]; kernel_rfl⟩
theorem ba_owner : Manifest.owners.lookup (String.ofList ['y', 'a', 'r', 'r', 'a', 'e', 't', 'y', 'b'].reverse) = some Manifest.sig_bytearray := by kernel_rfl
theorem ba_slot_append : Slot "bytearray" "append" "bytearray.append" :=
  .of (owner := "bytearray") (n := "append") (by rw [typeLookup_type, builtinLookup_eq_fast]; kernel_rfl) (by decide +kernel) (by decide +kernel) (by decide +kernel)
    (by first | exact .inl (by decide +kernel) | exact .inr (by decide +kernel)) (by rw [isSubtype_type]; kernel_rfl)
theorem ba_entry_append : entryFor table "bytearray.append" = some Builtin.«bytearray.append» := by first | exact entryFor_of_tree (by kernel_rfl) | exact entryFor_of_fast (by kernel_rfl)
theorem ba_args_append (a b : Value) : argsOk "bytearray.append" ⟨[a, b], []⟩ := by
  unfold argsOk; rw [signature?_of (id := "bytearray.append") (n := ['d', 'n', 'e', 'p', 'p', 'a']) (o := ['y', 'a', 'r', 'r', 'a', 'e', 't', 'y', 'b']) (by kernel_rfl) ba_owner]; kernel_rfl
theorem ba_type_append : typeOf (.builtin "bytearray.append") = pure (.type "method_descriptor") := by show builtinType _ = _; rw [builtinType_eq_fast]; kernel_rfl
theorem ba_slot_pop : Slot "bytearray" "pop" "bytearray.pop" :=
  .of (owner := "bytearray") (n := "pop") (by rw [typeLookup_type, builtinLookup_eq_fast]; kernel_rfl) (by decide +kernel) (by decide +kernel) (by decide +kernel)
    (by first | exact .inl (by decide +kernel) | exact .inr (by decide +kernel)) (by rw [isSubtype_type]; kernel_rfl)
theorem ba_entry_pop : entryFor table "bytearray.pop" = some Builtin.«bytearray.pop» := by first | exact entryFor_of_tree (by kernel_rfl) | exact entryFor_of_fast (by kernel_rfl)
theorem ba_args_pop (a : Value) : argsOk "bytearray.pop" ⟨[a], []⟩ := by
  unfold argsOk; rw [signature?_of (id := "bytearray.pop") (n := ['p', 'o', 'p']) (o := ['y', 'a', 'r', 'r', 'a', 'e', 't', 'y', 'b']) (by kernel_rfl) ba_owner]; kernel_rfl
theorem ba_type_pop : typeOf (.builtin "bytearray.pop") = pure (.type "method_descriptor") := by show builtinType _ = _; rw [builtinType_eq_fast]; kernel_rfl
theorem ba_slot_len : Slot "bytearray" "__len__" "bytearray.__len__" :=
  .of (owner := "bytearray") (n := "__len__") (by rw [typeLookup_type, builtinLookup_eq_fast]; kernel_rfl) (by decide +kernel) (by decide +kernel) (by decide +kernel)
    (by first | exact .inl (by decide +kernel) | exact .inr (by decide +kernel)) (by rw [isSubtype_type]; kernel_rfl)
theorem ba_entry_len : entryFor table "bytearray.__len__" = some Builtin.«bytearray.__len__» := by first | exact entryFor_of_tree (by kernel_rfl) | exact entryFor_of_fast (by kernel_rfl)
theorem ba_args_len (a : Value) : argsOk "bytearray.__len__" ⟨[a], []⟩ := by
  unfold argsOk; rw [signature?_of (id := "bytearray.__len__") (n := ['_', '_', 'n', 'e', 'l', '_', '_']) (o := ['y', 'a', 'r', 'r', 'a', 'e', 't', 'y', 'b']) (by kernel_rfl) ba_owner]; kernel_rfl
theorem ba_slot_getitem : Slot "bytearray" "__getitem__" "bytearray.__getitem__" :=
  .of (owner := "bytearray") (n := "__getitem__") (by rw [typeLookup_type, builtinLookup_eq_fast]; kernel_rfl) (by decide +kernel) (by decide +kernel) (by decide +kernel)
    (by first | exact .inl (by decide +kernel) | exact .inr (by decide +kernel)) (by rw [isSubtype_type]; kernel_rfl)
theorem ba_entry_getitem : entryFor table "bytearray.__getitem__" = some Builtin.«bytearray.__getitem__» := by first | exact entryFor_of_tree (by kernel_rfl) | exact entryFor_of_fast (by kernel_rfl)
theorem ba_args_getitem (a b : Value) : argsOk "bytearray.__getitem__" ⟨[a, b], []⟩ := by
  unfold argsOk; rw [signature?_of (id := "bytearray.__getitem__") (n := ['_', '_', 'm', 'e', 't', 'i', 't', 'e', 'g', '_', '_']) (o := ['y', 'a', 'r', 'r', 'a', 'e', 't', 'y', 'b']) (by kernel_rfl) ba_owner]; kernel_rfl
theorem ba_slot_setitem : Slot "bytearray" "__setitem__" "bytearray.__setitem__" :=
  .of (owner := "bytearray") (n := "__setitem__") (by rw [typeLookup_type, builtinLookup_eq_fast]; kernel_rfl) (by decide +kernel) (by decide +kernel) (by decide +kernel)
    (by first | exact .inl (by decide +kernel) | exact .inr (by decide +kernel)) (by rw [isSubtype_type]; kernel_rfl)
theorem ba_entry_setitem : entryFor table "bytearray.__setitem__" = some Builtin.«bytearray.__setitem__» := by first | exact entryFor_of_tree (by kernel_rfl) | exact entryFor_of_fast (by kernel_rfl)
theorem ba_args_setitem (a b c : Value) : argsOk "bytearray.__setitem__" ⟨[a, b, c], []⟩ := by
  unfold argsOk; rw [signature?_of (id := "bytearray.__setitem__") (n := ['_', '_', 'm', 'e', 't', 'i', 't', 'e', 's', '_', '_']) (o := ['y', 'a', 'r', 'r', 'a', 'e', 't', 'y', 'b']) (by kernel_rfl) ba_owner]; kernel_rfl
theorem ba_slot_ne : Slot "bytearray" "__ne__" "bytearray.__ne__" :=
  .of (owner := "bytearray") (n := "__ne__") (by rw [typeLookup_type, builtinLookup_eq_fast]; kernel_rfl) (by decide +kernel) (by decide +kernel) (by decide +kernel)
    (by first | exact .inl (by decide +kernel) | exact .inr (by decide +kernel)) (by rw [isSubtype_type]; kernel_rfl)
theorem ba_entry_ne : entryFor table "bytearray.__ne__" = some Builtin.«bytearray.__ne__» := by first | exact entryFor_of_tree (by kernel_rfl) | exact entryFor_of_fast (by kernel_rfl)
theorem ba_args_ne (a b : Value) : argsOk "bytearray.__ne__" ⟨[a, b], []⟩ := by
  unfold argsOk; rw [signature?_of (id := "bytearray.__ne__") (n := ['_', '_', 'e', 'n', '_', '_']) (o := ['y', 'a', 'r', 'r', 'a', 'e', 't', 'y', 'b']) (by kernel_rfl) ba_owner]; kernel_rfl
theorem ba_slot_init : Slot "bytearray" "__init__" "bytearray.__init__" :=
  .of (owner := "bytearray") (n := "__init__") (by rw [typeLookup_type, builtinLookup_eq_fast]; kernel_rfl) (by decide +kernel) (by decide +kernel) (by decide +kernel)
    (by first | exact .inl (by decide +kernel) | exact .inr (by decide +kernel)) (by rw [isSubtype_type]; kernel_rfl)
theorem ba_entry_init : entryFor table "bytearray.__init__" = some Builtin.«bytearray.__init__» := by first | exact entryFor_of_tree (by kernel_rfl) | exact entryFor_of_fast (by kernel_rfl)
theorem ba_args_init (a : Value) : argsOk "bytearray.__init__" ⟨[a], []⟩ := by
  unfold argsOk; rw [signature?_of (id := "bytearray.__init__") (n := ['_', '_', 't', 'i', 'n', 'i', '_', '_']) (o := ['y', 'a', 'r', 'r', 'a', 'e', 't', 'y', 'b']) (by kernel_rfl) ba_owner]; kernel_rfl
theorem ba_buffer : typeLookup (.type "bytearray") "__buffer__" = pure (some (.builtin "bytearray.__buffer__")) := by rw [typeLookup_type, builtinLookup_eq_fast]; kernel_rfl
theorem by_buffer : typeLookup (.type "bytes") "__buffer__" = pure (some (.builtin "bytes.__buffer__")) := by rw [typeLookup_type, builtinLookup_eq_fast]; kernel_rfl
theorem ba_release : typeLookup (.type "bytearray") "__release_buffer__" = pure (some (.builtin "bytearray.__release_buffer__")) := by rw [typeLookup_type, builtinLookup_eq_fast]; kernel_rfl
theorem ba_nobytes : typeLookup (.type "bytearray") "__bytes__" = pure none := by rw [typeLookup_type, builtinLookup_eq_fast]; kernel_rfl
theorem ba_noindex : typeLookup (.type "bytearray") "__index__" = pure none := by rw [typeLookup_type, builtinLookup_eq_fast]; kernel_rfl
theorem ba_new : typeLookup (.type "bytearray") "__new__" = pure (some (.builtin "bytearray.__new__")) := by rw [typeLookup_type, builtinLookup_eq_fast]; kernel_rfl
theorem ba_mro : mroOf (.type "bytearray") = pure [.type "bytearray", .type "object"] := by rw [mroOf_type]; kernel_rfl
end Mine
end
section
open PySem PySem.Spec PySem.Calls PySem.W PyProof.Rows
open Sem (wp)
set_option Elab.async false
set_option maxRecDepth 100000
namespace Mine
abbrev baOf (b : List UInt8) : Obj := { cls := .type "bytearray", data := .bytearray b.toArray }
section
variable {cs : List Code} {prog : Program} {w : World} {A : Around} {s : Shared}
theorem codeG_call_builtin {id : String} {args : Args} {b : Builtin} {R : Result → Shared → Prop} (hq : plainId id = true) (hb : entryFor table id = some b) (hck : ∀ (Q : Unit → Shared → Prop), Q () s → wpAny (model prog w) A.in1 (checkBuiltinCall id args) Q (fun _ _ => False) s)
    (h : wpO cs (model prog w) A (.builtin id args) (b args) (fun fin s' => match fin with | .done f => R (.ok f) s' | .again c' => c'.quiet = true ∧ codeG cs (model prog w) A c' R s') s) : codeG cs (model prog w) A (.call (.builtin id) args) R s := by
  refine codeG_of_tree ?_
  show wpG cs _ A.in1 (do checkBuiltinCall id args; again (.builtin id args)) _ s
  refine wpG_bind (wpG_of (hck _ (wpG_pure ⟨plainId_quiet hq _, codeG_of_own ?_⟩)))
  show wpO cs _ _ _ (match entryFor table id with | some b => b args | none => unsupported ((withoutEnding? id "#data").getD id)) _ s
  rw [hb]; exact h
theorem wpO_checkResize {id : String} {args : Args} {fb : Addr} {b : List UInt8} {l : List Env} {Q : Unit → Shared → Prop} (hid : id = "bytearray.append" ∨ id = "bytearray.pop" ∨ id = "bytearray.__init__") (hcs : Calm cs) (hf : A.frames = some l) (hu : A.units ≤ 3 * l.length + extras cs)
    (hb : s.heap.get? fb = some (baOf b)) (h : Q () s) : wpO cs (model prog w) A (.builtin id args) (Builtin.Bytes.checkResize (.ref fb)) Q s := by
  unfold Builtin.Bytes.checkResize
  refine wpO_bind ?_
  refine wpO_mono (Q := fun b s' => b = false ∧ s' = s) ?_ ?_
  · unfold orM
    refine wpO_bind (wpO_exported hid hcs hf hu ?_)
    show wpO cs _ _ _ (Builtin.Bytes.exportsOf (.ref fb) >>= fun n => pure (decide (n > 0))) _ s
    unfold Builtin.Bytes.exportsOf
    exact wpO_of (wpAny_bind (wpAny_bind (wpAny_load hb (wpAny_pure (wpAny_pure ⟨rfl, rfl⟩)))))
  · rintro b s' ⟨rfl, rfl⟩
    rw [if_neg Bool.false_ne_true]
    exact wpO_pure h
theorem wpAny_write {E : Value → Shared → Prop} {fb : Addr} {b : List UInt8} {g : Array UInt8 → Array UInt8} {Q : Unit → Shared → Prop} (hb : s.heap.get? fb = some (baOf b)) (hz : (g b.toArray).size ≤ 16777216)
    (h : Q () { s with heap := s.heap.update fb (Obj.mapBytearray g) }) : wpAny (model prog w) A (Builtin.Bytes.write (.ref fb) g) Q E s := by
  show wpAny _ _ (updateBytearray fb g) _ _ _
  unfold updateBytearray
  refine wpAny_bind (wpAny_load hb ?_)
  show wpAny _ _ (update fb (Obj.mapBytearray g) >>= fun _ => lookBehind fb) _ _ _
  refine wpAny_bind (wpAny_update hb (wpAny_lookBehind (Heap.get?_update_self (Obj.mapBytearray g) hb rfl) ?_ h))
  show (if (g b.toArray).size > sizeLine then some "bytearray:memory" else none) = none
  rw [if_neg (by rw [sizeLine_eq]; omega)]
theorem append_codeG {fb : Addr} {b : List UInt8} {v : Int} {t : Tok} {l : List Env} {Q : Value → Shared → Prop} (hcs : Calm cs) (hf : A.frames = some l) (hu : A.units ≤ 3 * l.length + extras cs) (hb : s.heap.get? fb = some (baOf b)) (h0 : 0 ≤ v) (h1 : v < 256) (hz : b.length < 1000000)
    (h : Q .none { s with heap := s.heap.update fb (Obj.mapBytearray (·.push v.toNat.toUInt8)) }) : wpG cs (model prog w) A (call (.builtin "bytearray.append") [.ref fb, .int v t]) Q s := by
  refine wpG_call (codeG_call_builtin ba_slot_append.plain ba_entry_append (fun Q q => ba_slot_append.check _ _ _ _ _ _ _ _ ⟨_, hb, rfl⟩ (ba_args_append _ _) q) ?_)
  unfold Builtin.«bytearray.append»
  refine wpO_bind (wpO_of (wpAny_of_eq (a := (.ref fb, .int v t)) rfl ?_))
  dsimp only
  refine wpO_bind (wpO_of ?_)
  unfold Builtin.Bytes.byteValue
  refine wpAny_bind (wpAny_of_eq (rfl : asIndex (.int v t) = pure v) ?_)
  rw [if_neg (by simp; omega)]
  refine wpAny_pure (wpO_bind (wpO_checkResize (.inl rfl) hcs hf hu hb ?_))
  refine wpO_bind (wpO_of (wpAny_write hb ?_ (wpO_of (wpAny_pure h))))
  simp
  omega
end
end Mine
end
section
open PySem PySem.Spec PySem.Calls PySem.W PyProof.Rows
open Sem (wp)
set_option Elab.async false
set_option maxRecDepth 100000
namespace Mine
section
variable {prog : Program} {w : World} {A : Around} {E : Value → Shared → Prop} {s : Shared} {fb : Addr} {b : List UInt8}
theorem ba_typeIs (hb : s.heap.get? fb = some (baOf b)) : s.TypeIs (.ref fb) "bytearray" := ⟨_, hb, rfl⟩
theorem ba_payload {Q : Array UInt8 → Shared → Prop} (hb : s.heap.get? fb = some (baOf b)) (h : Q b.toArray s) : wpAny (model prog w) A (Builtin.Bytes.payload (.ref fb)) Q E s := by
  unfold Builtin.Bytes.payload Builtin.Bytes.payload?
  exact wpAny_bind (wpAny_bind (wpAny_load hb (wpAny_pure (wpAny_pure h))))
theorem len_entry : entryFor table "len" = some Builtin.«len» := by first | exact entryFor_of_tree (by kernel_rfl) | exact entryFor_of_fast (by kernel_rfl)
theorem ba_len {Q : Value → Shared → Prop} (hb : s.heap.get? fb = some (baOf b)) (hz : b.length < 1000000)
    (h : ∀ t k, Q (.int b.length t) { s with toks := k }) : wpAny (model prog w) A (call (.builtin "len") [.ref fb]) Q E s := by
  have hT := ba_typeIs hb
  refine Calls.call_function_entry (by decide +kernel) (by decide +kernel) len_entry (by unfold argsOk; kernel_rfl) ?_
  unfold Builtin.«len»
  refine wpAny_bind (m := oneArg "len" _) (wpAny_pure ?_)
  refine wpAny_bind (m := callSpecial? (.ref fb) (Str.ofString "__len__")) (wpAny_callSpecial?_slot (name := Str.ofString "__len__") hT ba_slot_len
    (wpAny_call_entry ba_slot_len hT ba_entry_len ?_ (ba_args_len _)))
  unfold Builtin.«bytearray.__len__»
  refine wpAny_bind (wpAny_of_eq (a := (.ref fb, [])) rfl ?_)
  dsimp only
  refine wpAny_bind (ba_payload hb ?_)
  refine wpAny_bind (wpAny_mkInt (wpAny_pure ⟨_, rfl, ?_⟩))
  refine wpAny_bind (wpAny_holding (wpAny_pure ?_))
  refine wpAny_bind (wpAny_letGo ?_)
  show wpAny _ _ (if ((b.toArray.size : Nat) : Int) < 0 then _ else _) _ _ _
  rw [if_neg (by omega)]
  show wpAny _ _ (if ((b.toArray.size : Nat) : Int) ≥ 2 ^ 63 then _ else _) _ _ _
  rw [if_neg (by rw [List.size_toArray]; omega)]
  refine wpAny_bind (wpAny_mkInt (wpAny_pure ⟨_, rfl, ?_⟩))
  rw [List.size_toArray]
  exact h _ _
theorem lookup_int_index : typeLookup (.type "int") "__index__" = pure (some (.builtin "int.__index__")) := by rw [typeLookup_type, builtinLookup_eq_fast]; kernel_rfl
theorem ba_subscript {k : Int} {t : Tok} {Q : Option Int → Shared → Prop} (h0 : -1000000 ≤ k) (h1 : k < 1000000) (h : Q (some k) s) : wpAny (model prog w) A (Builtin.Bytes.subscript? (.int k t)) Q E s := by
  unfold Builtin.Bytes.subscript?
  refine wpAny_bind (wpAny_specialOf (typeIs_int s k t) lookup_int_index ?_)
  rw [if_neg (by simp)]
  refine wpAny_bind (wpAny_of_eq (rfl : asIndex (.int k t) = pure k) ?_)
  have hf : (!Builtin.Bytes.fitsIndex k) = false := by
    unfold Builtin.Bytes.fitsIndex
    simp
    omega
  rw [hf]
  rw [if_neg Bool.false_ne_true]
  exact wpAny_pure h
theorem ba_getItem {k : Int} {t : Tok} {i : Nat} {Q : Value → Shared → Prop} (hb : s.heap.get? fb = some (baOf b)) (h0 : -1000000 ≤ k) (h1 : k < 1000000) (hi : seqIndex? k b.length = some i) (hlt : i < b.length)
    (h : ∀ t k, Q (.int (b.getD i 0).toNat t) { s with toks := k }) : wpAny (model prog w) A (getItem (.ref fb) (.int k t)) Q E s := by
  have hT := ba_typeIs hb
  unfold getItem
  try with_reducible refine wpAny_holding ?_
  first | refine wpAny_bind (wpAny_pure ?_) | skip
  refine wpAny_bind (wpAny_sequenceKey hT (by decide) ?_)
  refine wpAny_bind (wpAny_callSpecial?_slot (name := Str.ofString "__getitem__") hT ba_slot_getitem
    (wpAny_call_entry ba_slot_getitem hT ba_entry_getitem ?_ (ba_args_getitem _ _)))
  unfold Builtin.«bytearray.__getitem__»
  refine wpAny_bind (wpAny_of_eq (a := (.ref fb, [.int k t])) rfl ?_)
  dsimp only
  refine wpAny_bind (ba_subscript h0 h1 ?_)
  dsimp only
  refine wpAny_bind (ba_payload hb ?_)
  have e : (seqIndex? k b.toArray.size).bind (fun x => b.toArray[x]?) = some b[i] := by
    rw [List.size_toArray, hi]
    simp [hlt]
  rw [e]
  refine wpAny_bind (wpAny_mkInt (wpAny_pure ?_))
  have e2 : b[i] = b.getD i 0 := by simp [List.getD, hlt]
  rw [e2]
  exact ⟨_, rfl, wpAny_pure (h _ _)⟩
theorem ba_setItem {k v : Int} {t u : Tok} {i : Nat} {Q : Unit → Shared → Prop} (hb : s.heap.get? fb = some (baOf b)) (h0 : -1000000 ≤ k) (h1 : k < 1000000) (hi : seqIndex? k b.length = some i) (hv0 : 0 ≤ v) (hv1 : v < 256) (hz : b.length < 1000000)
    (h : Q () { s with heap := s.heap.update fb (Obj.mapBytearray (·.setIfInBounds i v.toNat.toUInt8)) }) : wpAny (model prog w) A (setItem (.ref fb) (.int k t) (.int v u)) Q E s := by
  have hT := ba_typeIs hb
  unfold setItem
  try with_reducible refine wpAny_holding ?_
  first | refine wpAny_bind (wpAny_pure ?_) | skip
  refine wpAny_bind (wpAny_sequenceKey hT (by decide) ?_)
  refine wpAny_bind (wpAny_callSpecial?_slot (name := Str.ofString "__setitem__") hT ba_slot_setitem
    (wpAny_call_entry ba_slot_setitem hT ba_entry_setitem ?_ (ba_args_setitem _ _ _)))
  unfold Builtin.«bytearray.__setitem__»
  rw [if_neg (by simp)]
  dsimp only
  refine wpAny_bind (ba_subscript h0 h1 ?_)
  dsimp only
  refine wpAny_bind ?_
  unfold Builtin.Bytes.byteValue
  refine wpAny_bind (wpAny_of_eq (rfl : asIndex (.int v u) = pure v) ?_)
  rw [if_neg (by simp; omega)]
  refine wpAny_pure (wpAny_bind (ba_payload hb ?_))
  rw [List.size_toArray, hi]
  refine wpAny_bind (wpAny_write hb ?_ (wpAny_pure ⟨.none, rfl, wpAny_pure h⟩))
  rw [Array.size_setIfInBounds, List.size_toArray]
  omega
end
end Mine
end
section
open PySem PySem.Spec PySem.Calls PySem.W PyProof.Rows
open Sem (wp)
set_option Elab.async false
set_option maxRecDepth 100000
set_option linter.deprecated false
namespace Mine
theorem ba_sub_self : isSubtype (.type "bytearray") (.type "bytearray") = pure true := by rw [isSubtype_type]; kernel_rfl
theorem by_sub_ba : isSubtype (.type "bytes") (.type "bytearray") = pure false := by rw [isSubtype_type]; kernel_rfl
section
variable {prog : Program} {w : World} {A : Around} {E : Value → Shared → Prop} {s : Shared} {fb : Addr} {b : List UInt8}
theorem ba_own {name : String} {id : String} {Q : Bool → Shared → Prop} (hb : s.heap.get? fb = some (baOf b)) (hl : typeLookup (.type "bytearray") (Str.ofString name) = pure (some (.builtin id)))
    (he : id.endsWith ("." ++ name) = true) (hd : id.dropRight (name.length + 1) = "bytearray") (h : Q true s) : wpAny (model prog w) A (Builtin.Bytes.slotIsOwn (.ref fb) name) Q E s := by
  have key : ∀ x : String, x = "bytearray" → wpAny (model prog w) A (isInstance (.ref fb) (.type x)) Q E s := fun x hx => by rw [hx]; exact wpAny_isInstance (ba_typeIs hb) ba_sub_self h
  unfold Builtin.Bytes.slotIsOwn
  refine wpAny_bind (wpAny_specialOf (ba_typeIs hb) hl ?_)
  dsimp only
  rw [he]
  rw [if_neg (by decide)]
  exact key _ hd
theorem ba_buffer_wp {id : String} {full : Bool} {Q : Option (Array UInt8) → Shared → Prop} (hb : s.heap.get? fb = some (baOf b)) (h : Q (some b.toArray) s) : wpAny (model prog w) A (Builtin.Bytes.buffer? id (.ref fb) full) Q E s := by
  unfold Builtin.Bytes.buffer?
  refine wpAny_bind (wpAny_specialOf (ba_typeIs hb) ba_buffer ?_)
  dsimp only
  refine wpAny_bind (ba_own hb ba_buffer (by decide +kernel) (by decide +kernel) ?_)
  rw [if_neg (by decide)]
  refine wpAny_bind (wpAny_specialOf (ba_typeIs hb) ba_buffer ?_)
  refine wpAny_bind ?_
  unfold Builtin.Bytes.ownRelease
  refine wpAny_bind (ba_own hb ba_release (by decide +kernel) (by decide +kernel) (wpAny_pure ?_))
  rw [if_neg (by decide)]
  exact wpAny_bind (ba_payload hb (wpAny_pure h))
theorem order_nil : ∀ b : List UInt8, Builtin.Bytes.order b [] = if b = [] then .eq else .gt
  | [] => rfl
  | _ :: _ => rfl
theorem ba_ne_call {t : Tok} {Q : Value → Shared → Prop} (hb : s.heap.get? fb = some (baOf b)) (h : Q (.bool (decide (b ≠ []))) s) : wpAny (model prog w) A (call (.builtin "bytearray.__ne__") [.ref fb, .bytes #[] t]) Q E s := by
  refine wpAny_call_entry ba_slot_ne (ba_typeIs hb) ba_entry_ne ?_ (ba_args_ne _ _)
  show wpAny _ _ (Builtin.Bytes.buffer? "bytearray.__ne__" (.ref fb) >>= fun r => _) _ _ s
  refine wpAny_bind (ba_buffer_wp hb ?_)
  show wpAny _ _ (Builtin.Bytes.bufferQuiet? "bytearray.__ne__" (.bytes #[] t) >>= fun r => _) _ _ s
  refine wpAny_bind (wpAny_of_eq KBy.quiet_eq ?_)
  refine wpAny_pure ⟨.bool (decide (b ≠ [])), ?_, h⟩
  show Fin.done (.ret (.bool (Builtin.Bytes.holds "__ne__" (Builtin.Bytes.order b [])))) = _
  rw [order_nil]
  by_cases e : b = []
  · subst e; rfl
  · rw [if_neg e, decide_eq_true (show b ≠ [] from e)]; rfl
theorem ba_ne {t : Tok} {Q : Value → Shared → Prop} (hb : s.heap.get? fb = some (baOf b)) (hu : A.units < cLine) (h : Q (.bool (decide (b ≠ []))) s) : wpAny (model prog w) A (richCompare .NotEq (.ref fb) (.bytes #[] t)) Q E s := by
  have ha := ba_typeIs hb
  have hy := typeIs_bytes s #[] t
  unfold richCompare
  refine wpAny_holding ?_
  refine wpAny_bind (wpAny_cRoomFor hu ?_)
  rw [ha.oneThing_none]
  show wpAny _ _ (typeOf (.ref fb) >>= fun ta => _) _ _ _
  refine wpAny_bind (wpAny_typeOf ha ?_)
  refine wpAny_bind (wpAny_typeOf hy ?_)
  rw [if_pos (by decide)]
  refine wpAny_bind (wpAny_of_eq by_sub_ba ?_)
  dsimp only
  refine bm_if_false rfl ?_
  show wpAny _ _ (tryCompare (.ref fb) (Str.ofString "__ne__") (.bytes #[] t) >>= fun r => _) _ _ _
  exact wpAny_bind (wpAny_tryCompare_slot ha ba_slot_ne (ba_ne_call hb ⟨by simp, wpAny_pure h⟩))

/-- bytes(found) -/
theorem ba_to_bytes {Q : Value → Shared → Prop} (hb : s.heap.get? fb = some (baOf b)) (hz : b.length < 1000000) (h : ∀ t k, Q (.bytes b.toArray t) { s with toks := k }) : wpAny (model prog w) A (call (.type "bytes") [.ref fb]) Q E s := by
  have hT := ba_typeIs hb
  refine callType_codes (Q₁ := fun obj s₁ => s₁.TypeIs obj "bytes" ∧ Q obj s₁) F.bm_called (F.bm_typeCall _) F.entry_object_init ?_ fun obj s₁ h₁ => ?_
  · refine codeAny_of_tree ?_
    show wpAny _ _ (do checkBuiltinCall "bytes.__new__" ⟨[.type "bytes", .ref fb], []⟩; again (.builtin "bytes.__new__" ⟨[.type "bytes", .ref fb], []⟩)) _ _ s
    refine wpAny_bind (wpAny_of_eq (F.bm_newCall _) (wpAny_pure ⟨plainId_quiet F.bm_plain _, codeAny_builtin F.bm_entry ?_⟩))
    rw [Around.under_plainId F.bm_plain _]
    unfold Builtin.«bytes.__new__»
    refine wpAny_bind (wpAny_of_eq (a := true) rfl ?_)
    rw [if_neg (by decide)]
    refine wpAny_bind (wpAny_of_eq F.bm_sub ?_)
    rw [if_neg (by decide)]
    refine wpAny_bind (wpAny_of_eq (F.bm_bind _) ?_)
    refine wpAny_bind (wpAny_of_eq (a := ()) rfl ?_)
    refine wpAny_bind (wpAny_of_eq (a := ()) rfl ?_)
    dsimp only
    rw [if_neg (by decide)]
    refine wpAny_bind (wpAny_specialOf hT ba_nobytes ?_)
    dsimp only
    refine wpAny_bind (wpAny_bind ?_)
    show wpAny _ _ (load fb >>= _) _ _ _
    refine wpAny_bind (wpAny_load hb ?_)
    dsimp only
    refine wpAny_pure (wpAny_pure ?_)
    rw [if_neg (by decide)]
    refine wpAny_bind (wpAny_specialOf hT ba_noindex ?_)
    rw [if_pos (by decide)]
    refine wpAny_bind ?_
    refine ba_buffer_wp hb ?_
    dsimp only
    refine wpAny_bind (wpAny_rule (wpAny_bind (wpAny_mkBytes ?_ (by rw [List.size_toArray, sizeLine_eq]; omega))))
    show wpAny _ _ (if (Value.type "bytes" == Value.type "bytes") = true then _ else _) _ _ _
    rw [if_pos (by decide)]
    first
      | exact wpAny_pure ⟨typeIs_bytes _ _ _, h _ _⟩
      | exact wpAny_bind (wpAny_pure (wpAny_pure ⟨typeIs_bytes _ _ _, h _ _⟩))
  · exact ⟨h₁.1, F.args_object_init_2 obj _, object_init_meets F.bm_called.init.lookup F.bm_called.made (by decide) prog w A.in1 _ s₁ ⟨h₁.1, rfl, h₁.2⟩⟩
end
end Mine
end
section
open PySem PySem.Spec PySem.Calls PySem.W PyProof.Rows
open Sem (wp)
set_option Elab.async false
set_option maxRecDepth 100000
set_option maxHeartbeats 4000000
namespace Mine
theorem int_nobytes : typeLookup (.type "int") "__bytes__" = pure none := by rw [typeLookup_type, builtinLookup_eq_fast]; kernel_rfl
section
variable {prog : Program} {w : World} {A : Around} {E : Value → Shared → Prop} {s : Shared}
theorem bytes_of_int {n : Int} {t : Tok} {Q : Value → Shared → Prop} (h0 : 0 ≤ n) (h1 : n ≤ 1000) (h₀ : ∀ t' k, KBw.bInts (List.replicate n.toNat 0).toArray = List.replicate n.toNat (0 : Int) → Q (.bytes (List.replicate n.toNat 0).toArray t') { s with toks := k }) : wpAny (model prog w) A (call (.type "bytes") [.int n t]) Q E s := by
  have e : (List.replicate n.toNat (0 : UInt8)).toArray = Array.replicate n.toNat 0 := by simp
  have h : ∀ t' k, Q (.bytes (List.replicate n.toNat 0).toArray t') { s with toks := k } := fun t' k => h₀ t' k (by rw [KBw.ints_list]; simp)
  rw [e] at h
  refine callType_codes (Q₁ := fun obj s₁ => s₁.TypeIs obj "bytes" ∧ Q obj s₁) F.bm_called (F.bm_typeCall _) F.entry_object_init ?_ fun obj s₁ h₁ => ?_
  · refine codeAny_of_tree ?_
    show wpAny _ _ (do checkBuiltinCall "bytes.__new__" ⟨[.type "bytes", .int n t], []⟩; again (.builtin "bytes.__new__" ⟨[.type "bytes", .int n t], []⟩)) _ _ s
    refine wpAny_bind (wpAny_of_eq (F.bm_newCall _) (wpAny_pure ⟨plainId_quiet F.bm_plain _, codeAny_builtin F.bm_entry ?_⟩))
    rw [Around.under_plainId F.bm_plain _]
    unfold Builtin.«bytes.__new__»
    refine wpAny_bind (wpAny_of_eq (a := true) rfl ?_)
    rw [if_neg (by decide)]
    refine wpAny_bind (wpAny_of_eq F.bm_sub ?_)
    rw [if_neg (by decide)]
    refine wpAny_bind (wpAny_of_eq (F.bm_bind _) ?_)
    refine wpAny_bind (wpAny_of_eq (a := ()) rfl ?_)
    refine wpAny_bind (wpAny_of_eq (a := ()) rfl ?_)
    dsimp only
    rw [if_neg (by decide)]
    refine wpAny_bind (wpAny_specialOf (typeIs_int s n t) int_nobytes ?_)
    dsimp only
    refine wpAny_bind (wpAny_of_eq (a := false) rfl ?_)
    rw [if_neg (by decide)]
    refine wpAny_bind (wpAny_specialOf (typeIs_int s n t) lookup_int_index ?_)
    rw [if_neg (by decide)]
    refine wpAny_bind (wpAny_attempt (wpAny_of_eq (rfl : asIndex (.int n t) = pure n) ?_))
    dsimp only
    rw [if_neg (by unfold Builtin.Bytes.fitsIndex; simp; omega)]
    rw [if_neg (by omega)]
    rw [if_neg (by omega)]
    rw [if_neg (by unfold Builtin.Bytes.tooLong; simp only [decide_eq_true_eq]; have := sizeLine_eq; omega)]
    refine wpAny_bind (wpAny_rule (wpAny_bind (wpAny_mkBytes ?_ (by rw [Array.size_replicate, sizeLine_eq]; omega))))
    show wpAny _ _ (if (Value.type "bytes" == Value.type "bytes") = true then _ else _) _ _ _
    rw [if_pos (by decide)]
    first
      | exact wpAny_pure ⟨typeIs_bytes _ _ _, h _ _⟩
      | exact wpAny_bind (wpAny_pure (wpAny_pure ⟨typeIs_bytes _ _ _, h _ _⟩))
  · exact ⟨h₁.1, F.args_object_init_2 obj _, object_init_meets F.bm_called.init.lookup F.bm_called.made (by decide) prog w A.in1 _ s₁ ⟨h₁.1, rfl, h₁.2⟩⟩
end
end Mine
end
section
open PySem PySem.Spec PySem.Calls PySem.W PyProof.Rows
open Sem (wp)
set_option Elab.async false
set_option maxRecDepth 100000
namespace Mine
section
variable {cs : List Code} {prog : Program} {w : World} {A : Around} {E : Value → Shared → Prop} {s : Shared} {fb : Addr} {b : List UInt8} {h₀ : Heap} {L : Addr} {m : Str → Option Value} {news news' : List (Addr × Obj)}
theorem ba_upd {c : List UInt8} {g : Array UInt8 → Array UInt8} (F : Fr h₀ L s.heap m) (N : News h₀ L s.heap news) (U : Upd fb (baOf b) (baOf c) news news') (hg : g b.toArray = c.toArray) :
    s.heap.get? fb = some (baOf b) ∧ Fr h₀ L (s.heap.update fb (Obj.mapBytearray g)) m ∧ News h₀ L (s.heap.update fb (Obj.mapBytearray g)) news' := by
  obtain ⟨pre, post, rfl, rfl, a, e⟩ := U.split
  have z := N (fb, baOf b) (List.mem_append.mpr (.inr (.head _)))
  refine ⟨z.1, F.change (Heap.SameBut.update ..) z.2.1 z.2.2, News.setAt N a e (Heap.SameBut.update ..) ?_⟩
  have q := Heap.get?_update_self (Obj.mapBytearray g) z.1 rfl
  rw [q]
  show some ({ cls := .type "bytearray", data := .bytearray (g b.toArray) } : Obj) = _
  rw [hg]
theorem ba_mem (N : News h₀ L s.heap news) (hm : (fb, baOf b) ∈ news) : s.heap.get? fb = some (baOf b) := (N _ hm).1

theorem append_N {v : Int} {t : Tok} {l : List Env} {Q : Value → Shared → Prop} (F : Fr h₀ L s.heap m) (N : News h₀ L s.heap news) (U : Upd fb (baOf b) (baOf (b ++ [v.toNat.toUInt8])) news news') (hcs : Calm cs) (hf : A.frames = some l) (hu : A.units ≤ 3 * l.length + extras cs)
    (h0 : 0 ≤ v) (h1 : v < 256) (hz : b.length < 1000000) (h : ∀ h', Fr h₀ L h' m → News h₀ L h' news' → Q .none { s with heap := h' }) : wpG cs (model prog w) A (call (.builtin "bytearray.append") [.ref fb, .int v t]) Q s := by
  obtain ⟨z, F', N'⟩ := ba_upd (g := (·.push v.toNat.toUInt8)) F N U (by simp)
  exact append_codeG hcs hf hu z h0 h1 hz (h _ F' N')
theorem pop_N {x : UInt8} {l : List Env} {Q : Value → Shared → Prop} (F : Fr h₀ L s.heap m) (N : News h₀ L s.heap news) (U : Upd fb (baOf (b ++ [x])) (baOf b) news news') (hcs : Calm cs) (hf : A.frames = some l) (hu : A.units ≤ 3 * l.length + extras cs)
    (hz : b.length < 1000000) (h : ∀ h' v t k, Fr h₀ L h' m → News h₀ L h' news' → Q (.int v t) { s with heap := h', toks := k }) : wpG cs (model prog w) A (call (.builtin "bytearray.pop") [.ref fb]) Q s := by
  have hi : (b ++ [x]).toArray.eraseIdxIfInBounds b.length = b.toArray := by
    apply Array.toList_inj.mp
    simp [Array.eraseIdxIfInBounds, List.eraseIdx_append_of_length_le]
  obtain ⟨z, F', N'⟩ := ba_upd (g := (·.eraseIdxIfInBounds b.length)) F N U hi
  refine wpG_call (codeG_call_builtin ba_slot_pop.plain ba_entry_pop (fun Q q => ba_slot_pop.check _ _ _ _ _ _ _ _ ⟨_, z, rfl⟩ (ba_args_pop _) q) ?_)
  unfold Builtin.«bytearray.pop»
  refine wpO_bind (wpO_of (wpAny_of_eq (a := (.ref fb, [])) rfl ?_))
  dsimp only
  refine wpO_bind (wpO_pure ?_)
  refine wpO_bind (wpO_of (ba_payload z ?_))
  have he : (b ++ [x]).toArray.isEmpty = false := by simp
  rw [he]
  rw [if_neg Bool.false_ne_true]
  have hk : (seqIndex? (-1) (b ++ [x]).toArray.size).bind (fun k => (b ++ [x]).toArray[k]?.map (fun y => (k, y))) = some (b.length, x) := by
    have e : seqIndex? (-1) (b ++ [x]).toArray.size = some b.length := by
      rw [List.size_toArray, List.length_append, List.length_singleton]
      unfold seqIndex?
      simp
      omega
    rw [e]
    simp
  rw [hk]
  dsimp only
  refine wpO_bind (wpO_checkResize (.inr (.inl rfl)) hcs hf hu z ?_)
  refine wpO_bind (wpO_of (wpAny_write z ?_ (wpO_bind (wpO_of (wpAny_mkInt (wpO_pure ?_))))))
  · rw [hi, List.size_toArray]; omega
  · exact h _ _ _ _ F' N'
end
end Mine
end
section
open PySem PySem.Spec PySem.Calls PySem.W PyProof.Rows
open Sem (wp)
set_option Elab.async false
set_option maxRecDepth 100000
set_option maxHeartbeats 4000000
namespace Mine
/-! bytearray() -/
theorem ba_called : TypeCalled "bytearray" "bytearray.__new__" "bytearray.__init__" :=
  ⟨by decide +kernel, by decide +kernel, ⟨_, _, ba_mro⟩, madeBy_type ba_mro ba_new (by decide +kernel), by decide +kernel, by rw [isSubtype_type]; kernel_rfl, ba_slot_init⟩
theorem ba_typeCall : checkTypeCall "bytearray" ⟨[], []⟩ = pure () := by kernel_rfl
theorem ba_newCall : checkBuiltinCall "bytearray.__new__" ⟨[.type "bytearray"], []⟩ = pure () := by kernel_rfl
theorem ba_entry_new : entryFor table "bytearray.__new__" = some Builtin.«list.__new__» := entryFor_alias (id' := "list.__new__") (by rw [fastTable_eq_tree]; kernel_rfl) (by decide +kernel) (by decide +kernel) (by rw [fastTable_eq_tree]; kernel_rfl)
theorem ba_plain_new : plainId "bytearray.__new__" = true := by decide +kernel
set_option maxRecDepth 1000000 in
set_option maxHeartbeats 4000000 in
theorem ba_owner_new : ("bytearray.__new__".splitOn ".__new__").headD "" = "bytearray" := by simp +decide [String.splitOn, String.splitOnAux]
section
variable {α : Type} {cs : List Code} {prog : Program} {w : World} {A : Around} {E : Value → Shared → Prop} {s : Shared} {c : Code}
theorem ba_code_new {Q₁ : Value → Shared → Prop} (h : Q₁ (.ref s.heap.objs.size) { s with heap := s.heap.push (baOf []) }) :
    codeAny (model prog w) A (.call (.builtin "bytearray.__new__") ⟨[.type "bytearray"], []⟩) (wants Q₁ E) s := by
  refine codeAny_of_tree ?_
  show wpAny _ A.in1 (do checkBuiltinCall "bytearray.__new__" ⟨[.type "bytearray"], []⟩; again (.builtin "bytearray.__new__" ⟨[.type "bytearray"], []⟩)) _ _ s
  refine wpAny_bind (wpAny_of_eq ba_newCall (wpAny_pure ⟨plainId_quiet ba_plain_new _, codeAny_builtin_stack ba_entry_new rfl fun p st => ?_⟩))
  rw [Around.under_plainId ba_plain_new _]
  have hsub := ba_sub_self
  have hown := ba_owner_new
  obtain ⟨hp, g, d, tk, os⟩ := s
  simp only [hown]
  wp_walk
  exact h
theorem wpO_call {f : Value} {pos : List Value} {Q : Value → Shared → Prop} (hc : codeG (c :: cs) (model prog w) (A.under c) (.call f ⟨pos, []⟩) (RetG Q) s) : wpO cs (model prog w) A c (call f pos) Q s := fun Γ p hcd hΓ hg => by
  show wp _ Γ (runValue (.call f ⟨pos, []⟩)) _ _ p s
  rw [Sem.wp_runValue]
  refine wpCode_mono (fun r s' h => ?_) (hc _ p rfl ((hcd ▸ hΓ.in : Γ.In (A.under c)).enter _ none p (by intro x; cases x)) (hg.own hcd _ none p))
  cases r with
  | error e => exact h
  | ok f => cases f <;> exact h
theorem wpO_holding {vs : List Value} {m : Sem α} {Q : α → Shared → Prop} (h : wpO cs (model prog w) A c m Q s) : wpO cs (model prog w) A c (holding vs m) Q s :=
  fun Γ p hc hΓ hg => by rw [Sem.wp_holding]; exact h Γ p hc hΓ hg
theorem ba_init {fb : Addr} {l : List Env} {R : Result → Shared → Prop} (hcs : Calm cs) (hf : A.frames = some l) (hu : A.units ≤ 3 * l.length + extras cs) (hb : s.heap.get? fb = some (baOf []))
    (h : R (.ok (.ret .none)) { s with heap := s.heap.update fb (Obj.mapBytearray fun _ => #[]) }) : codeG cs (model prog w) A (.call (.builtin "bytearray.__init__") ⟨[.ref fb], []⟩) R s := by
  refine codeG_call_builtin ba_slot_init.plain ba_entry_init (fun Q q => ba_slot_init.check _ _ _ _ _ _ _ _ ⟨_, hb, rfl⟩ (ba_args_init _) q) ?_
  unfold Builtin.«bytearray.__init__»
  dsimp only
  refine wpO_bind (wpO_of ?_)
  refine wpAny_bind (ba_own hb ba_release (by decide +kernel) (by decide +kernel) (wpAny_pure ?_))
  rw [if_neg (by decide)]
  refine wpO_bind (wpO_of (wpAny_of_eq (a := [none, none, none]) (by kernel_rfl) ?_))
  dsimp only
  refine wpO_bind (wpO_pure ?_)
  refine wpO_bind (wpO_pure ?_)
  refine wpO_bind (wpO_mono (Q := fun b s' => b = false ∧ s' = s) ?_ ?_)
  · unfold orM
    refine wpO_bind (wpO_exported (.inr (.inr rfl)) hcs hf hu ?_)
    show wpO cs _ _ _ (Builtin.Bytes.exportsOf (.ref fb) >>= fun n => pure (decide (n > 0))) _ s
    unfold Builtin.Bytes.exportsOf
    exact wpO_of (wpAny_bind (wpAny_bind (wpAny_load hb (wpAny_pure (wpAny_pure ⟨rfl, rfl⟩)))))
  · rintro b s' ⟨rfl, rfl⟩
    rw [if_neg Bool.false_ne_true]
    refine wpO_bind (wpO_of (wpAny_write hb (by decide) ?_))
    exact wpO_bind (wpO_pure (wpO_pure h))
theorem codeG_own {id : String} {args : Args} {b : Builtin} {R : Result → Shared → Prop} (hb : entryFor table id = some b)
    (h : wpO cs (model prog w) A (.builtin id args) (b args) (fun fin s' => match fin with | .done f => R (.ok f) s' | .again c' => c'.quiet = true ∧ codeG cs (model prog w) A c' R s') s) : codeG cs (model prog w) A (.builtin id args) R s := by
  refine codeG_of_own ?_
  show wpO cs _ _ _ (match entryFor table id with | some b => b args | none => unsupported ((withoutEnding? id "#data").getD id)) _ s
  rw [hb]; exact h
theorem wpG_callSpecial {self : Value} {T : String} {name : Str} {id : String} {args : List Value} {Q : Option Value → Shared → Prop} (hT : s.TypeIs self T) (h : Slot T name id)
    (hc : wpO cs (model prog w) A c (call (.builtin id) (self :: args)) (fun v => Q (some v)) s) : wpO cs (model prog w) A c (callSpecial? self name args []) Q s := by
  simp only [callSpecial?]
  refine wpO_bind (wpO_of (wpAny_specialOf hT h.lookup ?_))
  simp only [h.bind]
  exact wpO_holding (wpO_bind (wpO_pure (wpO_bind (wpO_mono hc fun v s' h' => wpO_pure h'))))
theorem ba_make {l : List Env} {Q : Value → Shared → Prop} (hcs : Calm cs) (hf : A.frames = some l) (hu : A.units ≤ 3 * l.length + extras cs)
    (h : Q (.ref s.heap.objs.size) { s with heap := (s.heap.push (baOf [])).update s.heap.objs.size (Obj.mapBytearray fun _ => #[]) }) : wpG cs (model prog w) A (call (.type "bytearray") []) Q s := by
  refine wpG_call (codeG_of_tree ?_)
  show wpG cs _ _ (callAny (.type "bytearray") _) _ s
  refine wpG_pure ⟨Code.quiet_builtin _ (by decide +kernel), codeG_own F.entry_type_call ?_⟩
  obtain ⟨c1, tl, hmro⟩ := ba_called.mro
  unfold Builtin.«type.__call__»
  dsimp only
  rw [ba_called.notType]
  rw [if_neg Bool.false_ne_true]
  rw [ba_called.canCreate]
  rw [if_neg Bool.false_ne_true]
  refine wpO_bind (wpO_of (wpAny_of_eq ba_typeCall ?_))
  refine wpO_bind (wpO_of (wpAny_of_eq hmro ?_))
  rw [if_neg (show ¬ (c1 :: tl).isEmpty = true from Bool.false_ne_true)]
  refine wpO_bind (wpO_of (wpAny_of_eq ba_called.made ?_))
  dsimp only
  refine wpO_bind (wpO_pure ?_)
  have hb0 : (s.heap.push (baOf [])).get? s.heap.objs.size = some (baOf []) := Heap.get?_push_size _ rfl
  refine wpO_bind (wpO_holding (wpO_of (wpAny_call (ba_code_new ?_))))
  refine wpO_bind (wpO_of (wpAny_isInstance (ba_typeIs (s := { s with heap := s.heap.push (baOf []) }) hb0) ba_sub_self ?_))
  rw [if_neg (by decide)]
  refine wpO_bind (wpO_holding (wpG_callSpecial (ba_typeIs (s := { s with heap := s.heap.push (baOf []) }) hb0) ba_slot_init (wpO_call ?_)))
  rw [Around.under_plain (weight_type_call_type "bytearray" [] []) rfl]
  refine codeG_mono (ba_init (hcs.cons _) hf ?_ hb0 (R := RetG fun v s' => v = .none ∧ Q (.ref s.heap.objs.size) s') ⟨rfl, h⟩) ?_
  · have e : extras (Code.builtin "type.__call__" { pos := [Value.type "bytearray"] } :: cs) = extra (.builtin "type.__call__" { pos := [Value.type "bytearray"] }) + extras cs := by simp [extras]
    have e2 := extra_builtin "type.__call__" { pos := [Value.type "bytearray"] }
    show A.units + 1 ≤ _
    omega
  · intro r s' hr
    cases r with
    | error e => exact hr
    | ok f =>
      cases f with
      | ret v =>
        obtain ⟨rfl, hq⟩ := hr
        dsimp only [RetG]
        rw [if_neg (by decide)]
        exact wpO_pure hq
      | _ => exact hr
theorem ba_makeN {l : List Env} {h₀ : Heap} {L : Addr} {m : Str → Option Value} {news : List (Addr × Obj)} {Q : Value → Shared → Prop} (F : Fr h₀ L s.heap m) (N : News h₀ L s.heap news) (hcs : Calm cs) (hf : A.frames = some l) (hu : A.units ≤ 3 * l.length + extras cs)
    (h : ∀ fb h', Fr h₀ L h' m → News h₀ L h' ((fb, baOf []) :: news) → AllLt fb news → Q (.ref fb) { s with heap := h' }) : wpG cs (model prog w) A (call (.type "bytearray") []) Q s := by
  have lt : AllLt s.heap.objs.size news := allLt_of fun p hp => Heap.lt_size (N p hp).1
  have F1 := F.push (baOf [])
  have N1 := N.push F (baOf [])
  obtain ⟨_, F2, N2⟩ := ba_upd (s := { s with heap := s.heap.push (baOf []) }) (c := []) (g := fun _ => #[]) F1 N1 (Upd.head (allLt_ne lt)) rfl
  exact ba_make hcs hf hu (h _ _ F2 N2 lt)
end
end Mine
end
section
open PySem PySem.Spec PySem.Calls PySem.W PyProof.Rows
open Sem (wp)
set_option Elab.async false
set_option maxRecDepth 100000
set_option maxHeartbeats 4000000
namespace Mine
section
variable {cs : List Code} {prog : Program} {w : World} {A : Around} {K : Frag} {C : Addr} {R : Result → Shared → Prop}
/-- a class called, its __init__ run with the caller below -/
theorem makeG {fI : Addr} {s : Shared} {h₀ : Heap} {L : Addr} {m : Str → Option Value} {news : List (Addr × Obj)} {Q : Value → Shared → Prop} (F : Fr h₀ L s.heap m) (N : News h₀ L s.heap news) (X : K.In s.heap) (hm : makesIn K C = true)
    (hi : findIn K (.ref C) "__init__" = some (some (.ref fI))) (hf0 : isFn K (.ref fI) = true)
    (h : ∀ x dx h', Fr h₀ L h' m → News h₀ L h' ((x, instObj C dx) :: (dx, emptyDict) :: news) → AllLt dx news → @LT.lt Nat _ dx x →
      codeG (.builtin "type.__call__" ⟨[.ref C], []⟩ :: cs) (model prog w) (A.under (.builtin "type.__call__" ⟨[.ref C], []⟩)) (.call (.ref fI) ⟨[.ref x], []⟩) (InitBack x (RetG Q)) { s with heap := h' }) :
    wpG cs (model prog w) A (call (.ref C) []) Q s := by
  have hf := beq_iff_eq.mp hf0
  obtain ⟨hh, g, d, t, os⟩ := s
  have N' := (N.push F emptyDict).push (F.push _) (instObj C hh.objs.size)
  rw [Heap.size_push] at N'
  have hq := h _ hh.objs.size _ ((F.push _).push _) N' (allLt_of fun p hp => Heap.lt_size (N p hp).1) (Nat.lt_succ_self _)
  have Y : Makes (model prog w) hh C := makes_of X hm
  have Y' := Y
  have hi' : Looks (model prog w) hh (typeLookup (.ref C) "__init__") (some (.ref fI)) := looks_findIn X hi
  have hb : ∀ self, Looks (model prog w) hh (bindSpecial (.ref fI) self) (.ref fI, [self]) := fun self => bind_fn X self hf
  obtain ⟨⟨oc, od, cd, sl, hC, e1, e2, e4⟩, made, base, self, top, call, typ⟩ := Y
  have hmro : Looks (model prog w) hh (mroOf (.ref C)) cd.mro := ((Looks.ld (part := none) hC).andThen .now).andThen .now
  have k : ∀ b o, hh.get? b = some o → ((hh.push emptyDict).push (instObj C hh.objs.size)).get? b = some o := fun b o e => Heap.get?_push_of_some _ (Heap.get?_push_of_some _ e)
  have hx : ((hh.push emptyDict).push (instObj C hh.objs.size)).get? (hh.objs.size + 1) = some (instObj C hh.objs.size) := by heap_get
  have t1 : Looks (model prog w) ((hh.push emptyDict).push (instObj C hh.objs.size)) (typeOf (.ref (hh.objs.size + 1))) (.ref C) := (Looks.ld hx).andThen .now
  have s1 := self.keeps k
  have i1 := hi'.keeps k
  have b1 := (hb (.ref (hh.objs.size + 1))).keeps k
  refine wpG_call (codeG_of_tree (wpG_of ?_))
  show wpAny _ _ (callAny (.ref C) _) _ _ _
  refine nd_load hC ?_
  show wpAny _ _ (callAny.viaDunder (.ref C) _) _ _ _
  unfold callAny.viaDunder
  refine wpAny_bind (call.at ?_)
  dsimp only
  rw [tc_bind]
  refine wpAny_bind (wpAny_pure (wpAny_bind (wpAny_pure ?_)))
  refine wpAny_pure (a := Fin.again (.call (.builtin "type.__call__") ⟨[.ref C], []⟩)) (And.intro rfl ?_)
  refine codeG_of_tree (wpG_of ?_)
  show wpAny _ _ (do checkBuiltinCall "type.__call__" ⟨[.ref C], []⟩; again (.builtin "type.__call__" ⟨[.ref C], []⟩)) _ _ _
  refine wpAny_bind (check_slot tc_kind tc_split typ (tc_args _ _ _) ?_)
  refine wpAny_pure (And.intro (Code.quiet_builtin _ (by decide +kernel)) (codeG_own entry_typeCall ?_))
  unfold Builtin.«type.__call__»
  dsimp only
  rw [if_neg (show ¬ (Value.ref C == Value.type "type") = true from Bool.false_ne_true)]
  refine wpO_bind (wpO_of (hmro.at ?_))
  rw [if_neg (by rw [e4]; decide)]
  refine wpO_bind (wpO_of (made.at ?_))
  dsimp only
  refine wpO_bind (wpO_pure ?_)
  refine wpO_bind (wpO_holding (wpO_of (wpAny_call (new_K (rest := []) (kw := []) Y' hi' (.inl rfl) ?_))))
  dsimp only
  refine wpO_bind (wpO_of ?_)
  unfold isInstance
  refine wpAny_bind (t1.at (s1.at ?_))
  rw [if_neg (by decide)]
  refine wpO_bind (wpO_holding ?_)
  unfold callSpecial?
  refine wpO_bind (wpO_of ?_)
  unfold specialOf
  refine wpAny_bind (t1.at (i1.at ?_))
  dsimp only
  refine wpO_holding (wpO_bind (wpO_of (b1.at ?_)))
  dsimp only
  refine wpO_bind (wpO_call (codeG_mono hq ?_))
  intro r s' hr
  cases r with
  | error e => exact hr
  | ok f =>
    cases f with
    | ret v =>
      obtain ⟨rfl, hq⟩ := hr
      dsimp only [RetG]
      refine wpO_pure ?_
      dsimp only
      rw [if_neg (by decide)]
      exact wpO_pure hq
    | _ => exact hr
end
end Mine
end
section
open PySem PySem.Spec PySem.Calls PySem.W PyProof.Rows
open Sem (wp)
set_option Elab.async false
set_option maxRecDepth 100000
set_option maxHeartbeats 4000000
namespace Mine
section
variable {cs : List Code} {M : Model} {A : Around} {s : Shared} {env : Env}
theorem codeG_of {c : Code} {R : Result → Shared → Prop} (h : codeAny M A c R s) : codeG cs M A c R s := fun Γ p hc hΓ _ => h Γ p hc hΓ
theorem codeG_loop' {c : Code} {R : Result → Shared → Prop} (hq : c.quiet = true) (I : Nat → Shared → Prop)
    (turn : ∀ n s, I n s → wpG cs M (A.under c) (M.den c) (fun fin s' => match fin with | .done f => R (.ok f) s' | .again c' => (c' = c ∧ ∃ m, m < n ∧ I m s') ∨ (c'.quiet = true ∧ codeG cs M A c' R s')) s)
    (n : Nat) (h : I n s) : codeG cs M A c R s := by
  induction n using Nat.strongRecOn generalizing s with
  | ind n ih =>
    refine codeG_of_tree (wpG_mono (turn n s h) fun fin s' hf => ?_)
    cases fin with
    | done f => exact hf
    | again c' =>
      rcases hf with ⟨rfl, m, hm, hI⟩ | hf
      · exact ⟨hq, ih m hm hI⟩
      · exact hf
/-- a value first, its storing without the caller -/
theorem wpG_Assign {targets : List Expr} {value : Expr} {pos : Pos} {sw : Option (List Str)} {Q : Flow → Shared → Prop}
    (h : wpG cs M A (eval value env) (fun v s₁ => wpAny M A (assignStores env v sw ((assignEach targets env).map (·.2))) Q (fun _ _ => False) s₁) s)
    (hs : swapsWithSole targets value pos.line env = pure false) (hw : swappedStores targets value env = pure sw) :
    wpG cs M A (exec (.Assign targets value pos) env) Q s := by
  rw [exec_Assign]
  refine wpG_bind (wpG_standAt ?_)
  rw [hs]
  refine wpG_bind (wpG_pure ?_)
  rw [if_neg (by decide)]
  refine wpG_bind (wpG_mono h (fun v s₁ h₁ => ?_))
  rw [hw]
  exact wpG_bind (wpG_pure (wpG_of h₁))
theorem wpG_Assign_Attr {o : Expr} {attr : Str} {apos : Pos} {value : Expr} {pos : Pos} {Q : Flow → Shared → Prop}
    (h : wpG cs M A (eval value env) (fun v s₁ => wpAny M A (assign (.Attribute o attr apos) env v) (fun _ => Q .next) (fun _ _ => False) s₁) s)
    (hs : swapsWithSole [.Attribute o attr apos] value pos.line env = pure false := by rfl) (hw : swappedStores [.Attribute o attr apos] value env = pure none := by rfl) :
    wpG cs M A (exec (.Assign [.Attribute o attr apos] value pos) env) Q s := by
  refine wpG_Assign (sw := none) (wpG_mono h fun v s₁ h₁ => ?_) hs hw
  show wpAny M A (do assignAll v [assign (.Attribute o attr apos) env]; pure .next) Q _ s₁
  exact wpAny_bind (wpAny_mono h₁ (fun _ _ x => wpAny_pure x) fun _ _ x => x)
theorem wpG_Assign_swapped {elts : List Expr} {k} {tpos : Pos} {value : Expr} {pos : Pos} {names : List Str} {Q : Flow → Shared → Prop}
    (h : wpG cs M A (eval value env) (fun v s₁ => wpAny M A (unpackItems v names.length none) (fun items s₂ =>
      wpAny M A (assignInOrder (names.reverse.map fun n => bindName env n) items.reverse) (fun _ => Q .next) (fun _ _ => False) s₂) (fun _ _ => False) s₁) s)
    (hs : swapsWithSole [.Tuple elts k tpos] value pos.line env = pure false := by rfl)
    (hw : swappedStores [.Tuple elts k tpos] value env = pure (some names) := by rfl) :
    wpG cs M A (exec (.Assign [.Tuple elts k tpos] value pos) env) Q s := by
  refine wpG_Assign (sw := some names) (wpG_mono h fun v s₁ h₁ => ?_) hs hw
  show wpAny M A (do rule "assign.swapped-stores"; let items ← unpackItems v names.length none; assignInOrder (names.reverse.map fun n => bindName env n) items.reverse; pure .next) Q _ s₁
  exact wpAny_bind (wpAny_rule (wpAny_bind (wpAny_mono h₁ (fun items s₂ h₂ => wpAny_bind (wpAny_mono h₂ (fun _ _ x => wpAny_pure x) fun _ _ x => x)) fun _ _ x => x)))
/-- a tuple display whose first item needs the caller -/
theorem wpG_Tuple1 {e : Expr} {rest : List Expr} {k} {pos : Pos} {Q : Value → Shared → Prop}
    (h : wpG cs M A (eval e env) (fun v s₁ => wpAny M A (spliced (backTo pos (starEach rest env))) (fun vs s₂ => wpAny M A (newTuple (v :: vs)) Q (fun _ _ => False) s₂) (fun _ _ => False) s₁) s)
    (he : starEach (e :: rest) env = (false, eval e env) :: starEach rest env := by rfl) :
    wpG cs M A (eval (.Tuple (e :: rest) k pos) env) Q s := by
  rw [arm_eval_Tuple]
  refine wpG_bind (wpG_standAt ?_)
  rw [he]
  show wpG cs M A (spliced ((false, eval e env) :: backTo pos (starEach rest env)) >>= fun vs => newTuple vs) Q s
  rw [spliced]
  refine wpG_bind (wpG_bind (wpG_mono h fun v s₁ h₁ => ?_))
  simp only [Bool.false_eq_true, if_false]
  exact wpG_bind (wpG_pure (wpG_bind (wpG_holding (wpG_of (wpAny_mono h₁ (fun vs s₂ h₂ => wpG_pure (wpG_of h₂)) fun _ _ x => x)))))
/-- a callee by its name -/
theorem wpG_CallName {x : Str} {xp pos : Pos} {args : List Expr} {Q : Value → Shared → Prop}
    (h : wpAny M A (eval (.Name x xp) env) (fun f s₁ => wpG cs M A (callWith pos f [] (backTo pos (starEach args env)) []) Q s₁) (fun _ _ => False) s) :
    wpG cs M A (eval (.Call (.Name x xp) args [] pos) env) Q s := by
  rw [arm_eval_Call_Name']
  exact wpG_bind (wpG_of h)
end
section
variable {cs : List Code} {prog : Program} {w : World} {A : Around} {s : Shared} {env : Env}
theorem codeG_forLoop {R : Result → Shared → Prop} {target it body orelse env} (I : Nat → Shared → Prop)
    (turn : ∀ n s, I n s → wpAny (model prog w) A (pyNext it) (fun r s₁ => match r with
      | none => wpAny (model prog w) A (execs orelse env) (fun f s₃ => R (.ok f) s₃) (fun _ _ => False) s₁
      | some v => wpAny (model prog w) A (letOwnedTupleGo target it v) (fun _ s₁' =>
          wpAny (model prog w) A (assign target env v) (fun _ s₂ => wpG cs (model prog w) A (execs body env) (fun f s₃ => match f with
            | .next | .cont => ∃ m, m < n ∧ I m s₃
            | .brk => R (.ok .next) s₃
            | .ret v => R (.ok (.ret v)) s₃) s₂) (fun _ _ => False) s₁') (fun _ _ => False) s₁) (fun _ _ => False) s)
    (n : Nat) (h : I n s) : codeG cs (model prog w) A (.forLoop target it body orelse env) R s := by
  refine codeG_loop' rfl I (fun n s hI => ?_) n h
  show wpG cs _ A ((forTurn target it body orelse env).onRaise (fun x => do noteFrame x env; theTreesLotGoes x)) _ s
  refine wpG_onRaise ?_
  simp only [forTurn]
  refine wpG_bind (wpG_standAt (wpG_bind (wpG_onRaise (wpG_mono (wpG_of (turn n s hI)) (fun r s₁ h₁ => ?_)))))
  cases r with
  | none => exact wpG_pure (.inr ⟨rfl, codeG_of (codeAny_block (wpAny_mono h₁ (fun _ _ x => x) fun _ _ x => x.elim))⟩)
  | some v =>
    refine wpG_bind (wpG_mono (wpG_of h₁) (fun _ s₁' h₁' => ?_))
    refine wpG_bind (wpG_mono (wpG_of h₁') (fun _ s₂ h₂ => wpG_bind (wpG_mono h₂ (fun f s₃ h₃ => ?_))))
    cases f with
    | next => exact wpG_pure (.inl ⟨rfl, h₃⟩)
    | cont => exact wpG_pure (.inl ⟨rfl, h₃⟩)
    | brk => exact wpG_pure h₃
    | ret v => exact wpG_pure h₃
/-- for a, b in a list of the ledger, its turns free to make what stays -/
theorem forG_list {elts : List Expr} {k} {tpos : Pos} {iter : Expr} {body : List Stmt} {pos : Pos} {rl : Addr} {vs : List Value} {q : Nat} {h₀ : Heap} {L : Addr} {m₀ : Str → Option Value} {news : List (Addr × Obj)} {Q : Flow → Shared → Prop} (J : Nat → (Str → Option Value) → List (Addr × Obj) → Prop)
    (hev : wpAny (model prog w) A (eval iter env) (fun x s₁ => x = .ref rl ∧ s₁ = s) (fun _ _ => False) s) (hh : A.handled = none)
    (F : Fr h₀ L s.heap m₀) (N : News h₀ L s.heap news) (hj : J 0 m₀ news) (hrl : ∀ i m nx, J i m nx → (rl, listOf vs.toArray q) ∈ nx) (hrefs : ∀ v ∈ vs, ∃ a, v = .ref a)
    (turn : ∀ i v m nx h tk I it, vs[i]? = some v → J i m nx → (∀ p ∈ nx, p.1 ≠ I) → Fr h₀ L h m → News h₀ L h ((I, it) :: nx) →
      wpAny (model prog w) A (assign (.Tuple elts k tpos) env v) (fun _ s₂ => wpG cs (model prog w) A (execs body env) (GrowPost h₀ L I it (J (i + 1)) { s with heap := h, toks := tk } Q) s₂) (fun _ _ => False) { s with heap := h, toks := tk })
    (done : ∀ m nx h tk, J vs.length m nx → Fr h₀ L h m → News h₀ L h nx → Q .next { s with heap := h, toks := tk })
    (hs : ∀ x, foldedSetIterable iter env x = pure x := by intro _; rfl) :
    wpG cs (model prog w) A (exec (.For (.Tuple elts k tpos) iter body [] pos) env) Q s := by
  rw [exec_For]
  refine wpG_bind (wpG_standAt (wpG_bind (wpG_mono (wpG_of hev) fun x s₁ hx => ?_)))
  obtain ⟨rfl, rfl⟩ := hx
  rw [hs]
  refine wpG_bind (wpG_pure ?_)
  have hl : ∀ {h nx}, News h₀ L h nx → (rl, listOf vs.toArray q) ∈ nx → h.IsList rl vs.toArray := fun N hm => News.isList N hm
  have hm0 := hrl _ _ _ hj
  have hne : rl ≠ s₁.heap.objs.size := Nat.ne_of_lt (Heap.lt_size (N _ hm0).1)
  refine wpG_bind (wpG_standAt (wpG_bind (wpG_holding (wpG_of (wpAny_pyIter_list (hl N hm0) ?_)))))
  refine wpG_runOwn ?_
  have W := Walks.list (prog := prog) (w := w) hh s₁.heap.objs.size rl hne vs.toArray
  generalize hI : s₁.heap.objs.size = I at *
  have hIn : h₀.get? I = none := by rw [← hI]; exact next_is_new F
  have hIL : I ≠ L := by rw [← hI]; exact (Nat.ne_of_lt F.ns.lt).symm
  let Inv : Nat → Shared → Prop := fun n s' => ∃ i h tk m nx it, s' = { s₁ with heap := h, toks := tk } ∧ i ≤ vs.length ∧ n = vs.length - i ∧ J i m nx ∧ (∀ p ∈ nx, p.1 ≠ I) ∧ Fr h₀ L h m ∧ News h₀ L h ((I, it) :: nx) ∧ h.IsListIter I rl i
  refine codeG_forLoop Inv ?_ vs.length ?_
  · rintro n s' ⟨i, h, tk, m, nx, it, rfl, hi, rfl, hJ, hoff, F₁, N₁, hit⟩
    have N₂ : News h₀ L h nx := fun p hp => N₁ p (.tail _ hp)
    have hlist := hl N₂ (hrl _ _ _ hJ)
    have step : ∀ {h' : Heap}, (∀ b o, b ∉ [I] → h.get? b = some o → h'.get? b = some o) → Fr h₀ L h' m ∧ News h₀ L h' nx := fun {h'} hk =>
      ⟨⟨F₁.ns.at' fun o e => hk L o (fun c => hIL (List.mem_singleton.mp c).symm) e, fun b o e => hk b o (fun c => by rw [List.mem_singleton.mp c, hIn] at e; cases e) (F₁.keep b o e), F₁.above⟩,
        fun p hp => ⟨hk p.1 p.2 (fun c => hoff p hp (List.mem_singleton.mp c)) (N₂ p hp).1, (N₂ p hp).2⟩⟩
    by_cases hlt : i < vs.length
    · refine W.item i _ _ _ (by simpa using hlt) ⟨hit, hlist⟩ fun v h' tk' hv hst hk => ?_
      obtain ⟨F', N'⟩ := step hk
      have hv' : vs[i]? = some v := by simpa using hv
      obtain ⟨a, rfl⟩ := hrefs v (List.mem_of_getElem? hv')
      refine wpAny_letOwnedTupleGo_listiter hst.1 ?_
      obtain ⟨it', hit', hc1, hc2⟩ := hst.1
      have N'' : News h₀ L h' ((I, it') :: nx) := fun p hp => (List.mem_cons.mp hp).elim (fun e => e ▸ ⟨hit', hIL, hIn⟩) (N' p)
      refine wpAny_mono (turn i _ m nx h' tk' I it' hv' hJ hoff F' N'') (fun _ s₂ h₂ => wpG_mono h₂ fun f s₃ p => ?_) fun _ _ x => x
      have fin : GrowEnd h₀ L I it' (J (i + 1)) { s₁ with heap := h', toks := tk' } s₃ → ∃ m, m < vs.length - i ∧ Inv m s₃ := by
        rintro ⟨h2, tk2, m2, nx2, rfl, F2, N2, ho2, hJ2⟩
        exact ⟨vs.length - (i + 1), by omega, i + 1, h2, tk2, m2, nx2, it', rfl, hlt, rfl, hJ2, ho2, F2, N2, it', (N2 _ (.head _)).1, hc1, hc2⟩
      cases f with
      | ret v => exact p
      | brk => exact p
      | next => exact fin p
      | cont => exact fin p
    · have hie : i = vs.length := by omega
      subst hie
      refine W.done _ _ _ (by simpa using ⟨hit, hlist⟩) fun h' tk' hk => ?_
      obtain ⟨F', N'⟩ := step hk
      exact wpAny_execs_nil (done m nx h' tk' hJ F' N')
  · refine ⟨0, _, s₁.toks, m₀, news, { cls := .type "list_iterator", data := .fields #[.ref rl, .int 0 0] }, rfl, Nat.zero_le _, rfl, hj, fun p hp e => ?_, F.push _, fun p hp => ?_, ?_⟩
    · have := Heap.lt_size (N p hp).1
      rw [e, hI] at this
      exact Nat.lt_irrefl _ this
    · rcases List.mem_cons.mp hp with rfl | hp
      · exact ⟨by rw [← hI]; exact Heap.get?_push_size _ rfl, hIL, hIn⟩
      · exact ⟨Heap.get?_push_of_some _ (N p hp).1, (N p hp).2⟩
    · exact ⟨_, by rw [← hI]; exact Heap.get?_push_size _ rfl, rfl, rfl⟩
end
end Mine
end
section
open PySem PySem.Spec PySem.Calls PySem.W PyProof.Rows
open Sem (wp)
set_option Elab.async false
set_option maxRecDepth 100000
namespace Mine
theorem callG_full {cs : List Code} {prog : Program} {w : World} {A : Around} {R : Result → Shared → Prop} {s : Shared} {name : Str} {params : Arguments} {body : List Stmt} {scope : Scope}
    {dV kV pm cd doc : Value} {a : Addr} {o : Obj} {args : Args} {binds : List (Str × Value)}
    (hroom : A.depth < recursionLimit) (ho : s.heap.get? a = some o) (hdata : o.data = .func { docDef name params body scope pm cd doc with defaults := dV, kwdefaults := kV }) (hlim : s.heap.NoLimit) (hcd : s.heap.CodeRec cd name)
    (hbind : BindsTo s { docDef name params body scope pm cd doc with defaults := dV, kwdefaults := kV } args binds)
    (hloc : ∀ x ∈ binds, scope.names.lookup x.1 = some .local)
    (h : ∀ h₁, Fr s.heap s.heap.objs.size h₁ (fun x => binds.reverse.lookup x) →
      wpG cs (model prog w) (A.deeper (envOf name scope s.heap.objs.size a cd)) (execs body (envOf name scope s.heap.objs.size a cd))
        (fun f s' => R (.ok (.ret (match f with | .ret v => v | _ => .none))) s') { s with heap := h₁, toks := s.toks + binds.length })
    (hco : scope.isCoroutine = false := by rfl) (hgen : scope.isGenerator = false := by rfl) (hk : scope.kind = .function := by rfl)
    (hcell : ∀ x ∈ scope.names, x.2 ≠ .cell := by decide) :
    codeG cs (model prog w) A (.call (.ref a) args) R s := by
  refine codeG_call_function hroom ho hdata hco hgen rfl hcd (hbind _ _ _ _ ?_)
  refine wpAny_newFunctionEnv hcell hloc (fun h₁ hns hsb => ⟨hlim.fresh _ hsb, codeG_func ?_⟩) hk
  exact h h₁ ⟨hns, fun b o e => hsb.extBut b o (Nat.ne_of_lt (Heap.lt_size e)) (Heap.get?_push_of_some _ e), Nat.le_refl _⟩
theorem extras_caller : extras [callerCode] = 4 := by decide
theorem tight_make : 7 + (Code.builtin "type.__call__" ⟨[.ref 273], []⟩).cUnits ≤ 3 * (0 + 1) + extras [.builtin "type.__call__" ⟨[.ref 273], []⟩, callerCode] := by decide +kernel
theorem tight_law : 7 ≤ 3 * (0 + 1) + extras [callerCode] := by rw [extras_caller]; omega
theorem room_make : (7 + (Code.builtin "type.__call__" ⟨[.ref 273], []⟩).cUnits) + 32 < cLine := by decide +kernel
theorem allLt_offs {a : Nat} {l : List (Addr × Obj)} {as : List Addr} (h : AllLt a l) (has : ∀ b ∈ as, a ≤ b) : OwnOff l as := fun p hp b hb e => by
  have h1 := allLt_mem h p hp
  have h2 := has b hb
  rw [e] at h1
  exact Nat.lt_irrefl _ (Nat.lt_of_lt_of_le h1 h2)
end Mine
end
section
open PySem PySem.Spec PySem.Calls PySem.W PyProof.Rows
open Sem (wp)
set_option Elab.async false
set_option maxRecDepth 100000
namespace Mine
/-- a contract of a def whose run needs the caller below -/
def CtG (w : World) (f : Addr) (vs : List Value) (news : List (Addr × Obj)) (dn un0 : Nat) (R : (Value → List (Addr × Obj) → Prop) → Prop) : Prop :=
  ∀ (ks : List Code) (dp un : Nat) (gd : Option (List Code)) (cn : Str) (cs : Scope) (a : Addr) (ccd : Value) (cl : List (Str × Addr)) (outer : List Env) (A₀ : Around) (base h₀ : Heap) (L : Addr) (m : Str → Option Value) (s : Shared) (Q : Value → Shared → Prop) (mean : ExcName → Option Value) (mg mb : Str → Option Value),
    Calm ks → un ≤ 3 * (outer.length + 1) + extras ks →
    Below A₀ base outer h₀ → Fr h₀ L s.heap m → (Mine.Lit.lt.heap_1 w.params).In h₀ → News h₀ L s.heap news → Top Mine.Lit.lt.view_1 (looseW Mine.Lit.lt.view_1 []) mean mg mb h₀ → cs.kind = .function → dp + dn < recursionLimit → un + un0 < cLine →
    (R fun v news' => ∀ h' tk, Fr h₀ L h' m → News h₀ L h' news' → Q v { s with heap := h', toks := tk }) →
    wpG ks (model PySem.Challenge.rw_nt0555_01.row.prog w) (ktrTop dp un gd cn cs L a ccd cl outer) (call (.ref f) vs) Q s

theorem CtG.use {w : World} {f : Addr} {vs : List Value} {news : List (Addr × Obj)} {dn un0 : Nat} {R : (Value → List (Addr × Obj) → Prop) → Prop} {ks : List Code}
    {dp un : Nat} {gd : Option (List Code)} {cn : Str} {cs : Scope} {a : Addr} {ccd : Value} {cl : List (Str × Addr)} {outer : List Env} {A₀ : Around} {base h₀ : Heap} {L : Addr} {m : Str → Option Value} {s : Shared} {Q : Value → Shared → Prop} {mean : ExcName → Option Value} {mg mb : Str → Option Value}
    (hks : Calm ks) (htight : un ≤ 3 * (outer.length + 1) + extras ks)
    (B : Below A₀ base outer h₀) (F : Fr h₀ L s.heap m) (X : (Mine.Lit.lt.heap_1 w.params).In h₀) (N : News h₀ L s.heap news) (T : Top Mine.Lit.lt.view_1 (looseW Mine.Lit.lt.view_1 []) mean mg mb h₀) (hk : cs.kind = .function)
    (C : CtG w f vs news dn un0 R) (hd : dp + dn < recursionLimit) (hu : un + un0 < cLine)
    (ret : R fun v news' => ∀ h' tk, Fr h₀ L h' m → News h₀ L h' news' → Q v { s with heap := h', toks := tk }) :
    wpG ks (model PySem.Challenge.rw_nt0555_01.row.prog w) (ktrTop dp un gd cn cs L a ccd cl outer) (call (.ref f) vs) Q s :=
  C ks dp un gd cn cs a ccd cl outer A₀ base h₀ L m s Q mean mg mb hks htight B F X N T hk hd hu ret

/-- the encoder's own dict -/
abbrev encD (e0 e1 e2 e3 : Int) (k0 k1 k2 k3 : Tok) (size : Int) (ts : Tok) (code : Int) (tc : Tok) (left : Int) (tl : Tok) (fb : Addr) : Obj :=
  dictOf [⟨e0, .str "size" k0, .int size ts⟩, ⟨e1, .str "code" k1, .int code tc⟩, ⟨e2, .str "left" k2, .int left tl⟩, ⟨e3, .str "found" k3, .ref fb⟩] 4

section
variable {prog : Program} {w : World} {A : Around} {E : Value → Shared → Prop} {s : Shared} {fb : Addr} {b : List UInt8} {h₀ : Heap} {L : Addr} {m : Str → Option Value} {news news' : List (Addr × Obj)}
theorem ba_lenN {Q : Value → Shared → Prop} (N : News h₀ L s.heap news) (hm : (fb, baOf b) ∈ news) (hz : b.length < 1000000)
    (h : ∀ t k, Q (.int b.length t) { s with toks := k }) : wpAny (model prog w) A (call (.builtin "len") [.ref fb]) Q E s := ba_len (ba_mem N hm) hz h
theorem ba_methN {pl : Sem Bool} {name : Str} {id : String} {Q : Value × List Value → Shared → Prop} (N : News h₀ L s.heap news) (hm : (fb, baOf b) ∈ news) (slot : Slot "bytearray" name id) (hty : typeOf (.builtin id) = pure (.type "method_descriptor"))
    (h : Q (.builtin id, [.ref fb]) s) : wpAny (model prog w) A (getMethod (.ref fb) name pl) Q E s :=
  getMethod_builtin (ba_typeIs (ba_mem N hm)) ba_plainAttrs slot hty (fun a e => by cases e; exact ⟨_, ba_mem N hm, rfl⟩) h
theorem ba_getN {k : Int} {t : Tok} {Q : Value → Shared → Prop} (N : News h₀ L s.heap news) (hm : (fb, baOf b) ∈ news) (h0 : 0 ≤ k) (h1 : k < b.length) (hz : b.length < 1000000)
    (h : ∀ t j, (b.getD k.toNat 0).toNat < 256 → Q (.int (b.getD k.toNat 0).toNat t) { s with toks := j }) : wpAny (model prog w) A (getItem (.ref fb) (.int k t)) Q E s :=
  ba_getItem (ba_mem N hm) (by omega) (by omega) (StrLaws.seqIndex_nonneg h0 h1) (by omega) fun t j => h t j (UInt8.toNat_lt _)
theorem ba_subN {value slice : Expr} {k : Int} {t : Tok} {Q : Value → Shared → Prop} (N : News h₀ L s.heap news) (hm : (fb, baOf b) ∈ news) (h0 : 0 ≤ k) (h1 : k < b.length) (hz : b.length < 1000000)
    (h : ∀ t j, (b.getD k.toNat 0).toNat < 256 → Q (.int (b.getD k.toNat 0).toNat t) { s with toks := j })
    (hs : subscripted slice false (.ref fb) (.int k t) = operate [.ref fb, .int k t] (getItem (.ref fb) (.int k t)) := by with_unfolding_all rfl) (ht : ∀ r, letTemporaryGo value (.ref fb) r = pure () := by intro _; with_unfolding_all rfl) :
    wpAny (model prog w) A (subscriptTail value slice (.ref fb) (.int k t)) Q E s :=
  subscriptTail_builtin (ba_typeIs (ba_mem N hm)) ba_slot_getitem.lookup (ba_getN N hm h0 h1 hz h) hs ht
theorem ba_setN {k v : Int} {t u : Tok} {Q : Unit → Shared → Prop} (F : Fr h₀ L s.heap m) (N : News h₀ L s.heap news) (U : Upd fb (baOf b) (baOf (b.set k.toNat v.toNat.toUInt8)) news news') (h0 : 0 ≤ k) (h1 : k < b.length) (hz : b.length < 1000000) (hv0 : 0 ≤ v) (hv1 : v < 256)
    (h : ∀ h', Fr h₀ L h' m → News h₀ L h' news' → Q () { s with heap := h' }) : wpAny (model prog w) A (setItem (.ref fb) (.int k t) (.int v u)) Q E s := by
  obtain ⟨z, F', N'⟩ := ba_upd (g := (·.setIfInBounds k.toNat v.toNat.toUInt8)) F N U (by simp)
  exact ba_setItem z (by omega) (by omega) (StrLaws.seqIndex_nonneg h0 h1) hv0 hv1 hz (h _ F' N')
end
section
variable {prog : Program} {w : World} {A : Around} {E : Value → Shared → Prop} {s : Shared} {a b n q : Int} {t u : Tok} {Q : Value → Shared → Prop}
theorem rshift_by (hn : 0 ≤ n) (hq : a.fdiv (2 ^ n.toNat) = q) (h : ∀ t k, Q (.int q t) { s with toks := k }) : wpAny (model prog w) A (binaryOp .RShift (.int a t) (.int n u)) Q E s := rshift_int hn (by rw [hq]; exact h _ _)
theorem imod_by (hb : b ≠ 0) (hq : a.fmod b = q) (h : ∀ t k, Q (.int q t) { s with toks := k }) : wpAny (model prog w) A (inplaceOp .Mod (.int a t) (.int b u)) Q E s := imod_int hb (by rw [hq]; exact h _ _)
theorem floordiv_by (hb : b ≠ 0) (hq : a.fdiv b = q) (hs2 : b.natAbs < 1073741824) (h : ∀ t k, Q (.int q t) { s with toks := k }) : wpAny (model prog w) A (binaryOp .FloorDiv (.int a t) (.int b u)) Q E s := floordiv_int hb (by rw [hq]; exact h _ _) (.inl (PyProof.noPylong_small hs2))
theorem lshift_by (hn : 0 ≤ n) (hn2 : n ≤ 1000) (ha : a.natAbs < 18446744073709551616) (hq : a * 2 ^ n.toNat = q) (h : ∀ t k, Q (.int q t) { s with toks := k }) : wpAny (model prog w) A (binaryOp .LShift (.int a t) (.int n u)) Q E s :=
  lshift_int_small hn (by omega) (by simpa using ha) (by rw [hq]; exact h _ _)
theorem ilshift_by (hn : 0 ≤ n) (hn2 : n ≤ 1000) (ha : a.natAbs < 18446744073709551616) (hq : a * 2 ^ n.toNat = q) (h : ∀ t k, Q (.int q t) { s with toks := k }) : wpAny (model prog w) A (inplaceOp .LShift (.int a t) (.int n u)) Q E s :=
  ilshift_int_small hn (by omega) (by simpa using ha) (by rw [hq]; exact h _ _)
end
/-- a while that turns one int and one bytearray -/
def WBa (h₀ : Heap) (L : Addr) (s : Shared) (x : Str) (m₀ : Str → Option Value) (e1 e2 : Addr × Obj) (fb : Addr) (rest : List (Addr × Obj)) (J : Nat → Int → List UInt8 → Prop) (Q : Flow → Shared → Prop) (n : Nat) (f : Flow) (s₃ : Shared) : Prop :=
  match f with
  | .brk => Q .next s₃
  | .ret v => Q (.ret v) s₃
  | _ => ∃ h' tk m' n' a t b, s₃ = { s with heap := h', toks := tk } ∧ Fr h₀ L h' m' ∧ (∀ z, m' z = if z = x then some (.int a t) else m₀ z) ∧ News h₀ L h' (e1 :: e2 :: (fb, baOf b) :: rest) ∧ n' < n ∧ J n' a b
theorem while_ba {prog : Program} {w : World} {A : Around} {E : Value → Shared → Prop} {Q : Flow → Shared → Prop} {s : Shared} {env : Env} {h₀ : Heap} {L fb : Addr} {test : Expr} {body : List Stmt} {pos : Pos} {x : Str} {m₀ : Str → Option Value} {a₀ : Int} {t₀ : Tok} {e1 e2 : Addr × Obj} {rest : List (Addr × Obj)} {b₀ : List UInt8}
    (J : Nat → Int → List UInt8 → Prop) (n₀ : Nat)
    (F : Fr h₀ L s.heap (fun z => if z = x then some (.int a₀ t₀) else m₀ z)) (N : News h₀ L s.heap (e1 :: e2 :: (fb, baOf b₀) :: rest)) (hJ : J n₀ a₀ b₀)
    (turn : ∀ n a t b h₁ tk₁, Fr h₀ L h₁ (fun z => if z = x then some (.int a t) else m₀ z) → News h₀ L h₁ (e1 :: e2 :: (fb, baOf b) :: rest) → J n a b →
      wpAny (model prog w) A (isTrue test env (eval test env)) (fun c s₂ =>
        if c = true then wpAny (model prog w) A (execs body env) (WBa h₀ L s x m₀ e1 e2 fb rest J Q n) E s₂ else Q .next s₂) E { s with heap := h₁, toks := tk₁ })
    (hE : PassesOwn (model prog w) A env E) :
    wpAny (model prog w) A (exec (.While test body [] pos) env) Q E s := by
  refine While_inv2 (fun n m' nx => ∃ a t b, m' = (fun z => if z = x then some (.int a t) else m₀ z) ∧ nx = e1 :: e2 :: (fb, baOf b) :: rest ∧ J n a b) F N ⟨a₀, t₀, b₀, rfl, rfl, hJ⟩ ?_ hE
  rintro n m₁ nx h₁ tk₁ F₁ N₁ ⟨a, t, b, rfl, rfl, J₁⟩
  refine wpAny_mono (turn n a t b h₁ tk₁ F₁ N₁ J₁) (fun c s₂ p => ?_) fun _ _ x => x
  cases c with
  | false => simpa using p
  | true =>
    simp only [if_true] at p ⊢
    refine wpAny_mono p (fun f s₃ q => ?_) fun _ _ x => x
    cases f with
    | ret v => exact q
    | brk => exact q
    | next =>
      obtain ⟨h', tk, m', n', a', t', b', rfl, F', hm, N', hn, hj⟩ := q
      exact ⟨h', tk, m', _, n', rfl, F', N', hn, a', t', b', funext hm, rfl, hj⟩
    | cont =>
      obtain ⟨h', tk, m', n', a', t', b', rfl, F', hm, N', hn, hj⟩ := q
      exact ⟨h', tk, m', _, n', rfl, F', N', hn, a', t', b', funext hm, rfl, hj⟩
theorem wba_next {s : Shared} {h₀ : Heap} {L fb : Addr} {x : Str} {m₀ m₁ : Str → Option Value} {e1 e2 : Addr × Obj} {rest : List (Addr × Obj)} {J : Nat → Int → List UInt8 → Prop} {Q : Flow → Shared → Prop} {n : Nat} {h' : Heap} {tk : Nat} {a : Int} {t : Tok} {b : List UInt8} (n' : Nat)
    (F : Fr h₀ L h' (fun z => if z = x then some (.int a t) else m₁ z)) (N : News h₀ L h' (e1 :: e2 :: (fb, baOf b) :: rest)) (hm : ∀ z, z ≠ x → m₁ z = m₀ z) (hn : n' < n) (hj : J n' a b) : WBa h₀ L s x m₀ e1 e2 fb rest J Q n .next { s with heap := h', toks := tk } :=
  ⟨h', tk, _, n', a, t, b, rfl, F, fun z => by by_cases h : z = x <;> simp [h, hm], N, hn, hj⟩
theorem div19 {c : Nat} : Int.fdiv (c : Int) (2 ^ (19 : Int).toNat) = ((c / 524288 : Nat) : Int) := by
  rw [Int.fdiv_eq_ediv_of_nonneg _ (by decide)]
  show (c : Int) / 524288 = _
  omega
theorem mod19 {c : Nat} : Int.fmod (c : Int) 524288 = ((c % 524288 : Nat) : Int) := by
  rw [Int.fmod_eq_emod_of_nonneg _ (by decide)]
  omega
end Mine
end
section
open PySem PySem.Calls PySem.W PyProof.Rows
set_option Elab.async false
set_option maxRecDepth 100000
set_option maxHeartbeats 8000000
namespace Mine
local macro_rules | `(tactic| walk_at $s:str) => `(tactic| k_extra $s)
local macro_rules | `(tactic| k_ne) => `(tactic| walk_at "ne")
theorem octet_out (w : World) {y dy fb : Addr} {e0 e1 e2 e3 : Int} {k0 k1 k2 k3 : Tok} {b : List UInt8} {ts tc tl : Tok} {size code left : Int} {rest : List (Addr × Obj)} (off : OwnOff rest [y, dy, fb]) (hne : Apt [y, dy, fb])
    {c v : Nat} (hb : b.length ≤ 4096) (hc : code = (c : Int)) (hv : v = c / 524288) (hv1 : v < 512) (hcar : 256 ≤ v → ∃ p x k, b = fl p x k 0 ∧ x.toNat < 255) :
    CtG w 256 [.ref y] ((y, instObj 273 dy) :: (dy, encD e0 e1 e2 e3 k0 k1 k2 k3 size ts code tc left tl fb) :: (fb, baOf b) :: rest) 5 32
      (fun K => ∀ b' code' tc', b'.length = b.length + 1 → N b' = N b * 256 + v → code' = ((c % 524288 : Nat) : Int) →
        K .none ((y, instObj 273 dy) :: (dy, encD e0 e1 e2 e3 k0 k1 k2 k3 size ts code' tc' left tl fb) :: (fb, baOf b') :: rest)) := by
  k_with_none
  k_with "ne" => (first | exact Dif.ne (by assumption) | exact Dif.ne' (by assumption) | exact Nat.ne_of_lt (by assumption) | exact Nat.ne_of_gt (by assumption) | exact Nat.ne_of_gt (cj1 (by assumption)) | exact Nat.ne_of_lt (cj1 (by assumption)) | exact Nat.ne_of_gt (cj2 (by assumption)) | exact Nat.ne_of_lt (cj2 (by assumption)) | exact Nat.ne_of_gt (cj3 (by assumption)) | exact Nat.ne_of_lt (cj3 (by assumption)) | exact Nat.ne_of_gt (cj4 (by assumption)) | exact Nat.ne_of_lt (cj4 (by assumption)) | exact Nat.ne_of_gt (cj5 (by assumption)) | exact Nat.ne_of_lt (cj5 (by assumption)) | exact Nat.ne_of_gt (cj6 (by assumption)) | exact Nat.ne_of_lt (cj6 (by assumption)) | exact Nat.ne_of_gt (cj7 (by assumption)) | exact Nat.ne_of_lt (cj7 (by assumption)) | exact Nat.ne_of_gt (cj8 (by assumption)) | exact Nat.ne_of_lt (cj8 (by assumption)) | exact Nat.ne_of_gt (cj9 (by assumption)) | exact Nat.ne_of_lt (cj9 (by assumption)) | exact Nat.ne_of_gt (cl2 (by assumption)) | exact Nat.ne_of_lt (cl2 (by assumption)) | exact Nat.ne_of_gt (cl3 (by assumption)) | exact Nat.ne_of_lt (cl3 (by assumption)) | exact Nat.ne_of_gt (cl4 (by assumption)) | exact Nat.ne_of_lt (cl4 (by assumption)) | exact Nat.ne_of_gt (cl5 (by assumption)) | exact Nat.ne_of_lt (cl5 (by assumption)) | exact Nat.ne_of_gt (cl6 (by assumption)) | exact Nat.ne_of_lt (cl6 (by assumption)) | exact Nat.ne_of_gt (cl7 (by assumption)) | exact Nat.ne_of_lt (cl7 (by assumption)) | exact Nat.ne_of_gt (cl8 (by assumption)) | exact Nat.ne_of_lt (cl8 (by assumption)) | exact Nat.ne_of_gt (cl9 (by assumption)) | exact Nat.ne_of_lt (cl9 (by assumption)) | (refine neN ?_; (try dsimp only); omega))
  k_with "apt" => (repeat' (first | exact trivial | assumption | exact Dif.symm (by assumption) | exact Dif.mk (by walk_at "ne") | apply And.intro))
  k_with "sub" => (first | (intro p9 h9; k_ownIn) | exact List.forall_mem_nil _ | (refine List.forall_mem_cons.mpr ⟨by k_memK, ?_⟩; walk_at "sub"))
  k_with "call builtin:len" => ((k_here; (with_reducible show wpAny _ _ (call (Value.builtin "len") [Value.ref _]) _ _ _); k_dflt (refine' ba_lenN ?k1 ?k2 ?k3 ?_; (case k1 => k_asm); (case k2 => k_mem); (case k3 => (first | exact sz1 (by assumption) | omega | (simp only [fl_length] at *; omega)))); intro _ _))
  k_with "getMethod ref" => ((k_here; k_dflt (first | (refine' ba_methN ?k1 ?k2 ba_slot_append ba_type_append ?_; (case k1 => k_asm); (case k2 => k_mem)) | (refine' ba_methN ?k1 ?k2 ba_slot_pop ba_type_pop ?_; (case k1 => k_asm); (case k2 => k_mem)))))
  k_with "subscriptTail" => ((k_here; (with_reducible show wpAny _ _ (subscriptTail _ _ (Value.ref _) (Value.int _ _)) _ _ _); k_dflt (refine' ba_subN ?k1 ?k2 ?k3 ?k4 ?k5 ?_ ?k6 ?k7; (case k1 => k_asm); (case k2 => k_mem); (case k3 => omega); (case k4 => (first | exact sz1 (by assumption) | omega | (simp only [fl_length] at *; omega))); (case k5 => (first | exact sz1 (by assumption) | omega | (simp only [fl_length] at *; omega))); (case k6 => with_unfolding_all rfl); (case k7 => intro _; with_unfolding_all rfl)); intro _ _ _))
  k_with "getItem ref int" => ((k_here; (with_reducible show wpAny _ _ (getItem (Value.ref _) (Value.int _ _)) _ _ _); k_dflt (refine' ba_getN ?k1 ?k2 ?k3 ?k4 ?k5 ?_; (case k1 => k_asm); (case k2 => k_mem); (case k3 => omega); (case k4 => (first | exact sz1 (by assumption) | omega | (simp only [fl_length] at *; omega))); (case k5 => (first | exact sz1 (by assumption) | omega | (simp only [fl_length] at *; omega)))); intro _ _ _))
  k_with "setItem ref int" => ((k_here; (with_reducible show wpAny _ _ (setItem (Value.ref _) (Value.int _ _) (Value.int _ _)) _ _ _); k_dflt (refine' ba_setN ?k1 ?k2 ?k3 ?k4 ?k5 ?k6 ?k7 ?k8 ?_; (case k1 => k_asm); (case k2 => k_asm); (case k3 => k_upd); (case k4 => omega); (case k5 => (first | exact sz1 (by assumption) | omega | (simp only [fl_length] at *; omega))); (case k6 => (first | exact sz1 (by assumption) | omega | (simp only [fl_length] at *; omega))); (case k7 => omega); (case k8 => omega)); intro h' F' N'))
  refine apt3 hne fun d01 d02 d12 => ?_
  unfold CtG
  k_fill
  intro ks dp un gd cn cs a ccd cl outer A₀ base h₀ L m s Q mean mg mb hks htight B F X N T hk hd hu hret
  refine wpG_call ?_
  k_dflt (refine' codeG_def ?k1 ?k2 ?k3 ?k4 ?k5 ?kA ?kF ?kK ?k6 ?k7 ?k8 ?k9 ?kB ?_ ?c2 ?c3 ?c4 ?c5; (case kA => exact rfl); (case kF => exact rfl); (case kK => assumption); (case k1 => k_asm); (case k2 => k_asm); (case k3 => k_asm); (case k4 => k_asm); (case k5 => k_asm); (case k6 => k_is); (case k7 => k_is); (case k8 => ktr_room); (case k9 => exact BindsTo.of_eq rfl); (case c5 => decide); (case kB => exact locs rfl); (case c2 => exact rfl); (case c3 => exact rfl); (case c4 => exact rfl); intro g' L' h' FG' F' N' B' X' T'; (try dsimp only))
  subst hc
  subst hv
  k_with "binaryOp RShift int int" => ((k_dflt (refine rshift_by (by decide) div19 ?_)); intro _ _)
  k_with "binaryOp LShift int int" => ((k_dflt (refine lshift_by (q := 524288) (by decide) (by decide) (by decide) (by decide) ?_)); intro _ _)
  k_with "inplaceOp Mod int int" => ((k_dflt (refine imod_by (by decide) mod19 ?_)); intro _ _)
  refine wpG_execs_any ?_
  k_steps
  dsimp only [NextG]
  refine wpG_execs_any ?_
  k_steps
  dsimp only [NextG]
  k_with "exec While Compare cons nil" => (
    (obtain ⟨p, x, k, rfl, hx⟩ := hcar (by omega))
    (rename Fr _ _ _ _ => lF)
    (rename News _ _ _ _ => lN)
    k_dflt (refine while_ba (fun n a bb => ∃ j, n + j = k ∧ a = ((p.length + n : Nat) : Int) ∧ bb = fl p x n j) k lF lN ⟨0, rfl, by rw [fl_length]; omega, rfl⟩ ?_ PassesOwn.never)
    clear lF lN
    rintro n a9 t9 _ h9 tk9 F9 N9 ⟨j, hj, rfl, rfl⟩
    rcases n with _ | n
    rotate_left
    (have hg : ((fl p x (n + 1) j).getD (((p.length + (n + 1) : Nat) : Int)).toNat 0).toNat = 255 := congrArg UInt8.toNat fl_get)
    rotate_left
    (have hg : ((fl p x 0 j).getD (((p.length + 0 : Nat) : Int)).toNat 0).toNat = x.toNat := congrArg UInt8.toNat fl_get_x))
  refine wpG_execs_any ?_
  k_steps
  · exfalso; omega
  · clear hcar
    dsimp only [NextG]
    refine wpG_execs_cons (wpG_Expr (wpG_Method ?_))
    k_steps
    refine wpG_callWith_b1 ?_
    k_steps
    (try dsimp only [List.cons_append, List.nil_append])
    k_dflt (refine append_N (by k_asm) (by k_asm) (by k_upd) hks rfl (tight3 htight) (by omega) (by omega) (by simp only [List.length_set, fl_length] at *; omega) ?_)
    intro h5 F5 N5
    refine ⟨(fun _ e => by cases e), ?_⟩
    dsimp only [NextG]
    refine wpG_execs_nil ?_
    k_steps
    (try dsimp only [RetG])
    have hj0 : j = k := by omega
    subst hj0
    refine and2 (octet_carry (p := p) (j := j) (c := c / 524288) hx (u8_of (k := ((((fl p x 0 j).getD (((p.length + 0 : Nat) : Int)).toNat 0).toNat : Nat) : Int) + 1) (n := x.toNat + 1) (by omega) (by omega)) (u8_of (k := ((c / 524288 : Nat) : Int) - 256) (n := c / 524288 - 256) (by omega) (by omega)) (by omega)) fun q1 q2 => ?_
    rw [← fl_set_x (x := x)] at q1 q2
    exact hret _ _ _ q1 q2 rfl _ _ (by assumption) (by assumption)
  · (rename Fr _ _ _ _ => lF)
    refine wba_next n lF (b := fl p x n (j + 1)) (by rw [← fl_set]; assumption) (fun z hz => by simp [hz]) (Nat.lt_succ_self _) ⟨j + 1, by omega, by omega, rfl⟩
  · exfalso; omega
  · dsimp only [NextG]
    refine wpG_execs_cons (wpG_Expr (wpG_Method ?_))
    k_steps
    refine wpG_callWith_b1 ?_
    k_steps
    (try dsimp only [List.cons_append, List.nil_append])
    k_dflt (refine append_N (by k_asm) (by k_asm) (by k_upd) hks rfl (tight3 htight) (by omega) (by omega) (by omega) ?_)
    intro h5 F5 N5
    refine ⟨(fun _ e => by cases e), ?_⟩
    dsimp only [NextG]
    refine wpG_execs_nil ?_
    k_steps
    (try dsimp only [RetG])
    refine and2 (octet_plain (b := b) (u8_of (k := ((c / 524288 : Nat) : Int)) (n := c / 524288) rfl (by omega))) fun q1 q2 => ?_
    exact hret _ _ _ q1 q2 rfl _ _ (by assumption) (by assumption)
end Mine
end
section
open PySem PySem.Calls PySem.W PyProof.Rows
set_option Elab.async false
set_option maxRecDepth 100000
set_option maxHeartbeats 8000000
namespace Mine
local macro_rules | `(tactic| walk_at $s:str) => `(tactic| k_extra $s)
local macro_rules | `(tactic| k_ne) => `(tactic| walk_at "ne")

theorem widenE (w : World) {y dy fb : Addr} {e0 e1 e2 e3 : Int} {k0 k1 k2 k3 : Tok} {b : List UInt8} {ts tc tl : Tok} {size code left : Int} {rest : List (Addr × Obj)} (off : OwnOff rest [y, dy, fb]) (hne : Apt [y, dy, fb])
    {C z n : Nat} (hn : n ≤ 20000) (hz : size = (z : Int)) (h1 : 1 ≤ z) (h2 : z ≤ 65536) (hr : EncRep b C n z code left) :
    CtG w 249 [.ref y] ((y, instObj 273 dy) :: (dy, encD e0 e1 e2 e3 k0 k1 k2 k3 size ts code tc left tl fb) :: (fb, baOf b) :: rest) 8 64
      (fun K => ∀ b' size' ts' code' tc' left' tl' C' z' n', norm 16 C z n = (C', z', n') → size' = (z' : Int) → EncRep b' C' n' z' code' left' →
        K .none ((y, instObj 273 dy) :: (dy, encD e0 e1 e2 e3 k0 k1 k2 k3 size' ts' code' tc' left' tl' fb) :: (fb, baOf b') :: rest)) := by
  k_with_none
  k_with "ne" => (first | exact Dif.ne (by assumption) | exact Dif.ne' (by assumption) | exact Nat.ne_of_lt (by assumption) | exact Nat.ne_of_gt (by assumption) | exact Nat.ne_of_gt (cj1 (by assumption)) | exact Nat.ne_of_lt (cj1 (by assumption)) | exact Nat.ne_of_gt (cj2 (by assumption)) | exact Nat.ne_of_lt (cj2 (by assumption)) | exact Nat.ne_of_gt (cj3 (by assumption)) | exact Nat.ne_of_lt (cj3 (by assumption)) | exact Nat.ne_of_gt (cj4 (by assumption)) | exact Nat.ne_of_lt (cj4 (by assumption)) | exact Nat.ne_of_gt (cj5 (by assumption)) | exact Nat.ne_of_lt (cj5 (by assumption)) | exact Nat.ne_of_gt (cj6 (by assumption)) | exact Nat.ne_of_lt (cj6 (by assumption)) | exact Nat.ne_of_gt (cj7 (by assumption)) | exact Nat.ne_of_lt (cj7 (by assumption)) | exact Nat.ne_of_gt (cj8 (by assumption)) | exact Nat.ne_of_lt (cj8 (by assumption)) | exact Nat.ne_of_gt (cj9 (by assumption)) | exact Nat.ne_of_lt (cj9 (by assumption)) | exact Nat.ne_of_gt (cl2 (by assumption)) | exact Nat.ne_of_lt (cl2 (by assumption)) | exact Nat.ne_of_gt (cl3 (by assumption)) | exact Nat.ne_of_lt (cl3 (by assumption)) | exact Nat.ne_of_gt (cl4 (by assumption)) | exact Nat.ne_of_lt (cl4 (by assumption)) | exact Nat.ne_of_gt (cl5 (by assumption)) | exact Nat.ne_of_lt (cl5 (by assumption)) | exact Nat.ne_of_gt (cl6 (by assumption)) | exact Nat.ne_of_lt (cl6 (by assumption)) | exact Nat.ne_of_gt (cl7 (by assumption)) | exact Nat.ne_of_lt (cl7 (by assumption)) | exact Nat.ne_of_gt (cl8 (by assumption)) | exact Nat.ne_of_lt (cl8 (by assumption)) | exact Nat.ne_of_gt (cl9 (by assumption)) | exact Nat.ne_of_lt (cl9 (by assumption)) | (refine neN ?_; (try dsimp only); omega))
  k_with "apt" => (repeat' (first | exact trivial | assumption | exact Dif.symm (by assumption) | exact Dif.mk (by walk_at "ne") | apply And.intro))
  k_with "sub" => (first | (intro p9 h9; k_ownIn) | exact List.forall_mem_nil _ | (refine List.forall_mem_cons.mpr ⟨by k_memK, ?_⟩; walk_at "sub"))
  k_with "call builtin:len" => ((k_here; (with_reducible show wpAny _ _ (call (Value.builtin "len") [Value.ref _]) _ _ _); k_dflt (refine' ba_lenN ?k1 ?k2 ?k3 ?_; (case k1 => k_asm); (case k2 => k_mem); (case k3 => (first | exact sz1 (by assumption) | omega | (simp only [fl_length] at *; omega)))); intro _ _))
  k_with "getMethod ref" => ((k_here; k_dflt (first | (refine' ba_methN ?k1 ?k2 ba_slot_append ba_type_append ?_; (case k1 => k_asm); (case k2 => k_mem)) | (refine' ba_methN ?k1 ?k2 ba_slot_pop ba_type_pop ?_; (case k1 => k_asm); (case k2 => k_mem)))))
  k_with "subscriptTail" => ((k_here; (with_reducible show wpAny _ _ (subscriptTail _ _ (Value.ref _) (Value.int _ _)) _ _ _); k_dflt (refine' ba_subN ?k1 ?k2 ?k3 ?k4 ?k5 ?_ ?k6 ?k7; (case k1 => k_asm); (case k2 => k_mem); (case k3 => omega); (case k4 => (first | exact sz1 (by assumption) | omega | (simp only [fl_length] at *; omega))); (case k5 => (first | exact sz1 (by assumption) | omega | (simp only [fl_length] at *; omega))); (case k6 => with_unfolding_all rfl); (case k7 => intro _; with_unfolding_all rfl)); intro _ _ _))
  k_with "getItem ref int" => ((k_here; (with_reducible show wpAny _ _ (getItem (Value.ref _) (Value.int _ _)) _ _ _); k_dflt (refine' ba_getN ?k1 ?k2 ?k3 ?k4 ?k5 ?_; (case k1 => k_asm); (case k2 => k_mem); (case k3 => omega); (case k4 => (first | exact sz1 (by assumption) | omega | (simp only [fl_length] at *; omega))); (case k5 => (first | exact sz1 (by assumption) | omega | (simp only [fl_length] at *; omega)))); intro _ _ _))
  k_with "setItem ref int" => ((k_here; (with_reducible show wpAny _ _ (setItem (Value.ref _) (Value.int _ _) (Value.int _ _)) _ _ _); k_dflt (refine' ba_setN ?k1 ?k2 ?k3 ?k4 ?k5 ?k6 ?k7 ?k8 ?_; (case k1 => k_asm); (case k2 => k_asm); (case k3 => k_upd); (case k4 => omega); (case k5 => (first | exact sz1 (by assumption) | omega | (simp only [fl_length] at *; omega))); (case k6 => (first | exact sz1 (by assumption) | omega | (simp only [fl_length] at *; omega))); (case k7 => omega); (case k8 => omega)); intro h' F' N'))
  k_with "enterG" => ((refine wpG_call ?_; k_dflt (refine' codeG_def ?k1 ?k2 ?k3 ?k4 ?k5 ?kA ?kF ?kK ?k6 ?k7 ?k8 ?k9 ?kB ?_ ?c2 ?c3 ?c4 ?c5; (case kA => exact rfl); (case kF => exact rfl); (case kK => assumption); (case k1 => k_asm); (case k2 => k_asm); (case k3 => k_asm); (case k4 => k_asm); (case k5 => k_asm); (case k6 => k_is); (case k7 => k_is); (case k8 => ktr_room); (case k9 => exact BindsTo.of_eq rfl); (case c5 => decide); (case kB => exact locs rfl); (case c2 => exact rfl); (case c3 => exact rfl); (case c4 => exact rfl); intro g' L' h' FG' F' N' B' X' T'; (try dsimp only))))
  refine apt3 hne fun d01 d02 d12 => ?_
  unfold CtG
  k_fill
  intro ks dp un gd cn cs a ccd cl outer A₀ base h₀ L m s Q mean mg mb hks htight B F X N T hk hd hu hret
  walk_at "enterG"
  refine wpG_execs_cons ?_
  (rename Fr _ _ _ _ => lF)
  (rename News _ _ _ _ => lN)
  k_dflt (refine whileG_cps (fun f K => ∀ b' size' ts' code' tc' left' tl' C' z' n', norm 16 C z n = norm f C' z' n' → 32768 ≤ z' * 2 ^ f → 1 ≤ z' → z' ≤ 65536 → n' + f ≤ n + 16 → size' = (z' : Int) → EncRep b' C' n' z' code' left' →
        K ((y, instObj 273 dy) :: (dy, encD e0 e1 e2 e3 k0 k1 k2 k3 size' ts' code' tc' left' tl' fb) :: (fb, baOf b') :: rest)) 16 lF lN (fun K k => k _ _ _ _ _ _ _ C z n rfl (by omega) h1 h2 (Nat.le_refl _) hz hr) ?_)
  clear lF lN
  intro f h9 tk9 W F9 wret wnext b' size' ts' code' tc' left' tl' C' z' n' q1 q2 q3 q4 q5 q6 q7 N9
  have hle := q7.left_range
  have hco := q7.code_range
  have hlen := q7.length_le
  k_steps
  · refine wpG_execs_any ?_
    k_steps
    dsimp only [NextG]
    refine wpG_execs_any ?_
    k_steps
    dsimp only [NextG]
    refine wpG_execs_any ?_
    k_steps
    dsimp only [NextG]
    refine wpG_execs_cons (wpG_If ?_)
    k_steps
    · have hl1 : left' - 1 = 0 := by assumption
      refine ex1and3 (turn_norm q1 (by omega) q2) fun f' hf p1 p2 => ?_
      refine ex1and4 (q7.out hl1 q3 (by omega)) fun c r1 r2 r3 r4 => ?_
      refine wpG_execs_cons (wpG_Expr (wpG_Method ?_))
      k_steps
      k_dflt (refine' wpG_callWith_K0 ?x1 ?x2 ?_; (case x1 => k_in); (case x2 => k_is))
      (rename News _ _ _ _ => lN)
      k_dflt (refine CtG.use hks (tight3 htight) (by k_asm) (by k_asm) (by k_asm) lN (by k_asm) (by exact rfl) (octet_out w off hne (by omega) r1 rfl r2 r3) (rm2 hd (by decide)) (rm2 hu (by decide)) ?_)
      intro b8 code8 tc8 g1 g2 g3 h8 tk8 F8 N8
      refine ⟨(fun _ e => by cases e), ?_⟩
      dsimp only [NextG]
      refine wpG_execs_any ?_
      k_steps
      dsimp only [NextG]
      refine wpG_execs_nil ?_
      dsimp only [NextG]
      refine wpG_execs_nil ?_
      have hE := r4 b8 g1 g2
      exact wnext f' _ _ _ (by assumption) (by assumption) hf fun K k => k _ _ _ _ _ _ _ _ _ _ p1 p2 (by omega) (by omega) (by omega) (by omega) (by rw [g3]; exact hE)
    · refine ex1and3 (turn_norm q1 (by omega) q2) fun f' hf p1 p2 => ?_
      refine wpG_execs_nil ?_
      dsimp only [NextG]
      refine wpG_execs_nil ?_
      exact wnext f' _ _ _ (by assumption) (by assumption) hf fun K k => k _ _ _ _ _ _ _ _ _ _ p1 p2 (by omega) (by omega) (by omega) (by omega) (q7.double (by assumption))
  · dsimp only [NextG]
    refine wpG_execs_nil ?_
    k_steps
    dsimp only [RetG]
    exact hret _ _ _ _ _ _ _ C' z' n' (by rw [q1, norm_done (by omega)]) q6 q7 _ _ (by assumption) (by assumption)
end Mine
end
section
open PySem PySem.Calls PySem.W PyProof.Rows
set_option Elab.async false
set_option maxRecDepth 100000
set_option maxHeartbeats 8000000
namespace Mine
local macro_rules | `(tactic| walk_at $s:str) => `(tactic| k_extra $s)
local macro_rules | `(tactic| k_ne) => `(tactic| walk_at "ne")

theorem putE (w : World) {y dy fb bx bd sl nl : Addr} {e0 e1 e2 e3 : Int} {k0 k1 k2 k3 : Tok} {f0 f1 : Int} {j0 j1 : Tok} {b : List UInt8} {ts tc tl : Tok} {size code left : Int} {rest : List (Addr × Obj)} {us vs : List Value} {ss ns : List Int} {n1 n2 : Nat}
    (off : OwnOff rest [y, dy, fb, bx, bd, sl, nl]) (hne : Apt [y, dy, fb, bx, bd, sl, nl])
    {C z n : Nat} {i bit : Int} {ti tbit : Tok} (hu1 : IntsAre us ss) (hv1 : IntsAre vs ns) (ls : ss.length = 3) (ln : ns.length = 3) (i0 : 0 ≤ i) (i1 : i < 3)
    (s0 : 0 ≤ ss.getD i.toNat 0) (s1 : ss.getD i.toNat 0 < 114)
    (hn : n ≤ 19000) (hz : size = (z : Int)) (h1 : 32768 ≤ z) (h2 : z ≤ 65536) (hr : EncRep b C n z code left) :
    CtG w 242 [.ref y, .ref bx, .int i ti, .int bit tbit] ((y, instObj 273 dy) :: (dy, encD e0 e1 e2 e3 k0 k1 k2 k3 size ts code tc left tl fb) :: (fb, baOf b) :: (bx, instObj 154 bd) :: (bd, binD f0 f1 j0 j1 sl nl) :: (sl, listOf us.toArray n1) :: (nl, listOf vs.toArray n2) :: rest) 12 96
      (fun K => ∀ b' size' ts' code' tc' left' tl' us' vs',
        IntsAre us' (putP (tabv w.params) ⟨ss, ns, C, z, n⟩ i.toNat bit).ss → IntsAre vs' (putP (tabv w.params) ⟨ss, ns, C, z, n⟩ i.toNat bit).ns → size' = ((putP (tabv w.params) ⟨ss, ns, C, z, n⟩ i.toNat bit).z : Int) →
        EncRep b' (putP (tabv w.params) ⟨ss, ns, C, z, n⟩ i.toNat bit).C (putP (tabv w.params) ⟨ss, ns, C, z, n⟩ i.toNat bit).n (putP (tabv w.params) ⟨ss, ns, C, z, n⟩ i.toNat bit).z code' left' →
        K .none ((y, instObj 273 dy) :: (dy, encD e0 e1 e2 e3 k0 k1 k2 k3 size' ts' code' tc' left' tl' fb) :: (fb, baOf b') :: (bx, instObj 154 bd) :: (bd, binD f0 f1 j0 j1 sl nl) :: (sl, listOf us'.toArray n1) :: (nl, listOf vs'.toArray n2) :: rest)) := by
  k_with_none
  k_with "ne" => (first | exact Dif.ne (by assumption) | exact Dif.ne' (by assumption) | exact Nat.ne_of_lt (by assumption) | exact Nat.ne_of_gt (by assumption) | exact Nat.ne_of_gt (cj1 (by assumption)) | exact Nat.ne_of_lt (cj1 (by assumption)) | exact Nat.ne_of_gt (cj2 (by assumption)) | exact Nat.ne_of_lt (cj2 (by assumption)) | exact Nat.ne_of_gt (cj3 (by assumption)) | exact Nat.ne_of_lt (cj3 (by assumption)) | exact Nat.ne_of_gt (cj4 (by assumption)) | exact Nat.ne_of_lt (cj4 (by assumption)) | exact Nat.ne_of_gt (cj5 (by assumption)) | exact Nat.ne_of_lt (cj5 (by assumption)) | exact Nat.ne_of_gt (cj6 (by assumption)) | exact Nat.ne_of_lt (cj6 (by assumption)) | exact Nat.ne_of_gt (cj7 (by assumption)) | exact Nat.ne_of_lt (cj7 (by assumption)) | exact Nat.ne_of_gt (cj8 (by assumption)) | exact Nat.ne_of_lt (cj8 (by assumption)) | exact Nat.ne_of_gt (cj9 (by assumption)) | exact Nat.ne_of_lt (cj9 (by assumption)) | exact Nat.ne_of_gt (cl2 (by assumption)) | exact Nat.ne_of_lt (cl2 (by assumption)) | exact Nat.ne_of_gt (cl3 (by assumption)) | exact Nat.ne_of_lt (cl3 (by assumption)) | exact Nat.ne_of_gt (cl4 (by assumption)) | exact Nat.ne_of_lt (cl4 (by assumption)) | exact Nat.ne_of_gt (cl5 (by assumption)) | exact Nat.ne_of_lt (cl5 (by assumption)) | exact Nat.ne_of_gt (cl6 (by assumption)) | exact Nat.ne_of_lt (cl6 (by assumption)) | exact Nat.ne_of_gt (cl7 (by assumption)) | exact Nat.ne_of_lt (cl7 (by assumption)) | exact Nat.ne_of_gt (cl8 (by assumption)) | exact Nat.ne_of_lt (cl8 (by assumption)) | exact Nat.ne_of_gt (cl9 (by assumption)) | exact Nat.ne_of_lt (cl9 (by assumption)) | (refine neN ?_; (try dsimp only); omega))
  k_with "apt" => (repeat' (first | exact trivial | assumption | exact Dif.symm (by assumption) | exact Dif.mk (by walk_at "ne") | apply And.intro))
  k_with "sub" => (first | (intro p9 h9; k_ownIn) | exact List.forall_mem_nil _ | (refine List.forall_mem_cons.mpr ⟨by k_memK, ?_⟩; walk_at "sub"))
  k_with "subscriptTail" => ((k_here; (with_reducible show wpAny _ _ (subscriptTail _ _ (Value.ref 136) (Value.int _ _)) _ _ _); k_dflt (refine' tab_item ?k1 ?k2 ?k3 ?k4 ?_ ?k6; (case k1 => k_asm); (case k2 => k_asm); (case k3 => omega); (case k4 => omega); (case k6 => with_unfolding_all rfl))))
  k_with "subscriptTail" => ((k_here; (with_reducible show wpAny _ _ (subscriptTail _ _ (Value.ref (rowA _)) (Value.int _ _)) _ _ _); k_dflt (first | (refine' row_item (j := 0) ?k1 ?k2 ?k3 ?k4 ?k7 ?k8 ?_ ?k6; (case k7 => exact rfl)) | (refine' row_item (j := 1) ?k1 ?k2 ?k3 ?k4 ?k7 ?k8 ?_ ?k6; (case k7 => exact rfl)) | (refine' row_item (j := 2) ?k1 ?k2 ?k3 ?k4 ?k7 ?k8 ?_ ?k6; (case k7 => exact rfl)) | (refine' row_item (j := 3) ?k1 ?k2 ?k3 ?k4 ?k7 ?k8 ?_ ?k6; (case k7 => exact rfl))); (case k1 => k_asm); (case k2 => k_asm); (case k3 => omega); (case k4 => omega); (case k8 => decide); (case k6 => with_unfolding_all rfl); intro _))
  k_with "enterG" => ((refine wpG_call ?_; k_dflt (refine' codeG_def ?k1 ?k2 ?k3 ?k4 ?k5 ?kA ?kF ?kK ?k6 ?k7 ?k8 ?k9 ?kB ?_ ?c2 ?c3 ?c4 ?c5; (case kA => exact rfl); (case kF => exact rfl); (case kK => assumption); (case k1 => k_asm); (case k2 => k_asm); (case k3 => k_asm); (case k4 => k_asm); (case k5 => k_asm); (case k6 => k_is); (case k7 => k_is); (case k8 => ktr_room); (case k9 => exact BindsTo.of_eq rfl); (case c5 => decide); (case kB => exact locs rfl); (case c2 => exact rfl); (case c3 => exact rfl); (case c4 => exact rfl); intro g' L' h' FG' F' N' B' X' T'; (try dsimp only))))
  k_with "call ref" => ((k_here; (first | (with_reducible show wpAny _ _ (call (Value.ref 165) _) _ _ _) | (with_reducible show wpAny _ _ (call (Value.ref 172) _) _ _ _)); have hK9 : ScopeKind.function = ScopeKind.function := rfl; refine wpAny_call ?_; k_dflt ktr_enter; clear hK9))
  have hval := val_ok (P := w.params) s0 s1
  refine apt7 hne fun d01 d02 d03 d04 d05 d06 d12 d13 d14 d15 d16 d23 d24 d25 d26 d34 d35 d36 d45 d46 d56 => ?_
  refine (tab_ex hval).elim fun l hl => ?_
  refine and2 (tab_nat hval hl) fun hl1 hl2 => ?_
  have hlw : lw (tabv w.params) ⟨ss, ns, C, z, n⟩ i.toNat = l := lw_of hl
  have hlh : True → tabv w.params (ss.getD i.toNat 0) 0 = (l : Int) := fun _ => hl
  have hszh : True → size - tabv w.params (ss.getD i.toNat 0) 0 = ((z - l : Nat) : Int) := fun _ => sub_nat hz hl h1 hl2
  have hco := hr.code_range
  have hnw : Apt [y, dy, fb] := by walk_at "apt"
  have offw : ∀ {vl1 vl2 : Array Value}, OwnOff ((bx, instObj 154 bd) :: (bd, binD f0 f1 j0 j1 sl nl) :: (sl, listOf vl1 n1) :: (nl, listOf vl2 n2) :: rest) [y, dy, fb] := by
    intro vl1 vl2
    refine off_cons ?_ (off_cons ?_ (off_cons ?_ (off_cons ?_ (off_sub off fun b hb => List.mem_append_left [bx, bd, sl, nl] hb)))) <;> walk_at "apt"
  unfold CtG
  k_fill
  intro ks dp un gd cn cs a ccd cl outer A₀ base h₀ L m s Q mean mg mb hks htight B F X N T hk hd hu hret
  walk_at "enterG"
  refine wpG_execs_any ?_
  k_steps
  dsimp only [NextG]
  refine wpG_execs_any ?_
  k_steps
  dsimp only [NextG]
  refine wpG_execs_any ?_
  k_steps
  · have hl := hlh trivial
    dsimp only [NextG]
    k_steps
    dsimp only [RetG]
    have e := putP_stay (σ := ⟨ss, ns, C, z, n⟩) (T := tabv w.params) (i := i.toNat) (bit := bit) (by assumption) (by rw [hlw]; (first | exact n_ge (hszh trivial) (by assumption) | exact n_nge (hszh trivial) (by assumption) | exact n_le (hszh trivial) (hlh trivial) (by assumption) | exact n_nle (hszh trivial) (hlh trivial) (by assumption) | exact n_lt (hszh trivial) (hlh trivial) (by assumption) | exact n_nlt (hszh trivial) (hlh trivial) (by assumption)))
    rw [hlw] at e
    refine hret _ _ _ _ _ _ _ _ _ ?_ ?_ ?_ ?_ _ _ (by assumption) (by assumption)
    all_goals rw [e]
    · exact hu1
    · exact hv1
    · exact hszh trivial
    · exact hr.lower (Nat.sub_le _ _)
  · have hl := hlh trivial
    dsimp only [NextG]
    refine wpG_execs_cons (wpG_Expr (wpG_Method ?_))
    k_steps
    k_dflt (refine' wpG_callWith_K0 ?x1 ?x2 ?_; (case x1 => k_in); (case x2 => k_is))
    (rename News _ _ _ _ => lN)
    k_dflt (refine CtG.use hks (tight3 htight) (by k_asm) (by k_asm) (by k_asm) lN (by k_asm) (by exact rfl) (widenE w (C := C + (z - l)) (z := l) (n := n) offw hnw (Nat.le_trans hn (by decide)) (hlh trivial) hl1 (Nat.le_trans hl2 (by decide)) (by rw [hszh trivial]; have q := hr.upper (y := z - l) (Nat.sub_le _ _); rw [Nat.sub_sub_self (le_of_row h1 hl2)] at q; exact q)) (rm2 hd (by decide)) (rm2 hu (by decide)) ?_)
    intro b8 size8 ts8 code8 tc8 left8 tl8 C9 z9 n9 hnorm g2 g3 h8 tk8 F8 N8
    refine ⟨(fun _ e => by cases e), ?_⟩
    dsimp only [NextG]
    refine wpG_execs_nil ?_
    k_steps
    dsimp only [RetG]
    have e := putP_more_up (σ := ⟨ss, ns, C, z, n⟩) (T := tabv w.params) (i := i.toNat) (t := (C9, z9, n9)) (by assumption) (by rw [hlw]; (first | exact n_ge (hszh trivial) (by assumption) | exact n_nge (hszh trivial) (by assumption) | exact n_le (hszh trivial) (hlh trivial) (by assumption) | exact n_nle (hszh trivial) (hlh trivial) (by assumption) | exact n_lt (hszh trivial) (hlh trivial) (by assumption) | exact n_nlt (hszh trivial) (hlh trivial) (by assumption))) (by rw [hlw]; (first | exact n_ge (hszh trivial) (by assumption) | exact n_nge (hszh trivial) (by assumption) | exact n_le (hszh trivial) (hlh trivial) (by assumption) | exact n_nle (hszh trivial) (hlh trivial) (by assumption) | exact n_lt (hszh trivial) (hlh trivial) (by assumption) | exact n_nlt (hszh trivial) (hlh trivial) (by assumption))) (by rw [hlw]; exact hnorm)
    refine hret _ _ _ _ _ _ _ _ _ ?_ ?_ ?_ ?_ _ _ (by assumption) (by assumption)
    all_goals rw [e]
    · assumption
    · assumption
    · exact g2
    · exact g3
  · have hl := hlh trivial
    dsimp only [NextG]
    refine wpG_execs_cons (wpG_Expr (wpG_Method ?_))
    k_steps
    k_dflt (refine' wpG_callWith_K0 ?x1 ?x2 ?_; (case x1 => k_in); (case x2 => k_is))
    (rename News _ _ _ _ => lN)
    k_dflt (refine CtG.use hks (tight3 htight) (by k_asm) (by k_asm) (by k_asm) lN (by k_asm) (by exact rfl) (widenE w (C := C) (z := z - l) (n := n) offw hnw (Nat.le_trans hn (by decide)) (hszh trivial) (one_sub h1 hl2) (Nat.le_trans (Nat.sub_le _ _) h2) (hr.lower (Nat.sub_le _ _))) (rm2 hd (by decide)) (rm2 hu (by decide)) ?_)
    intro b8 size8 ts8 code8 tc8 left8 tl8 C9 z9 n9 hnorm g2 g3 h8 tk8 F8 N8
    refine ⟨(fun _ e => by cases e), ?_⟩
    dsimp only [NextG]
    refine wpG_execs_nil ?_
    k_steps
    dsimp only [RetG]
    have e := putP_more_low (σ := ⟨ss, ns, C, z, n⟩) (T := tabv w.params) (i := i.toNat) (t := (C9, z9, n9)) (by assumption) (by rw [hlw]; (first | exact n_ge (hszh trivial) (by assumption) | exact n_nge (hszh trivial) (by assumption) | exact n_le (hszh trivial) (hlh trivial) (by assumption) | exact n_nle (hszh trivial) (hlh trivial) (by assumption) | exact n_lt (hszh trivial) (hlh trivial) (by assumption) | exact n_nlt (hszh trivial) (hlh trivial) (by assumption))) (by rw [hlw]; (first | exact n_ge (hszh trivial) (by assumption) | exact n_nge (hszh trivial) (by assumption) | exact n_le (hszh trivial) (hlh trivial) (by assumption) | exact n_nle (hszh trivial) (hlh trivial) (by assumption) | exact n_lt (hszh trivial) (hlh trivial) (by assumption) | exact n_nlt (hszh trivial) (hlh trivial) (by assumption))) (by rw [hlw]; exact hnorm)
    refine hret _ _ _ _ _ _ _ _ _ ?_ ?_ ?_ ?_ _ _ (by assumption) (by assumption)
    all_goals rw [e]
    · assumption
    · assumption
    · exact g2
    · exact g3
  · have hl := hlh trivial
    dsimp only [NextG]
    refine wpG_execs_cons (wpG_Expr (wpG_Method ?_))
    k_steps
    k_dflt (refine' wpG_callWith_K0 ?x1 ?x2 ?_; (case x1 => k_in); (case x2 => k_is))
    (rename News _ _ _ _ => lN)
    k_dflt (refine CtG.use hks (tight3 htight) (by k_asm) (by k_asm) (by k_asm) lN (by k_asm) (by exact rfl) (widenE w (C := C + (z - l)) (z := l) (n := n) offw hnw (Nat.le_trans hn (by decide)) (hlh trivial) hl1 (Nat.le_trans hl2 (by decide)) (by rw [hszh trivial]; have q := hr.upper (y := z - l) (Nat.sub_le _ _); rw [Nat.sub_sub_self (le_of_row h1 hl2)] at q; exact q)) (rm2 hd (by decide)) (rm2 hu (by decide)) ?_)
    intro b8 size8 ts8 code8 tc8 left8 tl8 C9 z9 n9 hnorm g2 g3 h8 tk8 F8 N8
    refine ⟨(fun _ e => by cases e), ?_⟩
    dsimp only [NextG]
    refine wpG_execs_nil ?_
    k_steps
    dsimp only [RetG]
    have e := putP_less_up (σ := ⟨ss, ns, C, z, n⟩) (T := tabv w.params) (i := i.toNat) (t := (C9, z9, n9)) (by assumption) (by rw [hlw]; (first | exact n_ge (hszh trivial) (by assumption) | exact n_nge (hszh trivial) (by assumption) | exact n_le (hszh trivial) (hlh trivial) (by assumption) | exact n_nle (hszh trivial) (hlh trivial) (by assumption) | exact n_lt (hszh trivial) (hlh trivial) (by assumption) | exact n_nlt (hszh trivial) (hlh trivial) (by assumption))) (by rw [hlw]; exact hnorm) (lessN_yes (by assumption))
    refine hret _ _ _ _ _ _ _ _ _ ?_ ?_ ?_ ?_ _ _ (by assumption) (by assumption)
    all_goals rw [e]
    · assumption
    · assumption
    · exact g2
    · exact g3
  · have hl := hlh trivial
    dsimp only [NextG]
    refine wpG_execs_cons (wpG_Expr (wpG_Method ?_))
    k_steps
    k_dflt (refine' wpG_callWith_K0 ?x1 ?x2 ?_; (case x1 => k_in); (case x2 => k_is))
    (rename News _ _ _ _ => lN)
    k_dflt (refine CtG.use hks (tight3 htight) (by k_asm) (by k_asm) (by k_asm) lN (by k_asm) (by exact rfl) (widenE w (C := C + (z - l)) (z := l) (n := n) offw hnw (Nat.le_trans hn (by decide)) (hlh trivial) hl1 (Nat.le_trans hl2 (by decide)) (by rw [hszh trivial]; have q := hr.upper (y := z - l) (Nat.sub_le _ _); rw [Nat.sub_sub_self (le_of_row h1 hl2)] at q; exact q)) (rm2 hd (by decide)) (rm2 hu (by decide)) ?_)
    intro b8 size8 ts8 code8 tc8 left8 tl8 C9 z9 n9 hnorm g2 g3 h8 tk8 F8 N8
    refine ⟨(fun _ e => by cases e), ?_⟩
    dsimp only [NextG]
    refine wpG_execs_nil ?_
    k_steps
    dsimp only [RetG]
    have e := putP_less_up (σ := ⟨ss, ns, C, z, n⟩) (T := tabv w.params) (i := i.toNat) (t := (C9, z9, n9)) (by assumption) (by rw [hlw]; (first | exact n_ge (hszh trivial) (by assumption) | exact n_nge (hszh trivial) (by assumption) | exact n_le (hszh trivial) (hlh trivial) (by assumption) | exact n_nle (hszh trivial) (hlh trivial) (by assumption) | exact n_lt (hszh trivial) (hlh trivial) (by assumption) | exact n_nlt (hszh trivial) (hlh trivial) (by assumption))) (by rw [hlw]; exact hnorm) (lessN_no (by assumption))
    refine hret _ _ _ _ _ _ _ _ _ ?_ ?_ ?_ ?_ _ _ (by assumption) (by assumption)
    all_goals rw [e]
    · assumption
    · assumption
    · exact g2
    · exact g3
  · have hl := hlh trivial
    dsimp only [NextG]
    refine wpG_execs_cons (wpG_Expr (wpG_Method ?_))
    k_steps
    k_dflt (refine' wpG_callWith_K0 ?x1 ?x2 ?_; (case x1 => k_in); (case x2 => k_is))
    (rename News _ _ _ _ => lN)
    k_dflt (refine CtG.use hks (tight3 htight) (by k_asm) (by k_asm) (by k_asm) lN (by k_asm) (by exact rfl) (widenE w (C := C) (z := z - l) (n := n) offw hnw (Nat.le_trans hn (by decide)) (hszh trivial) (one_sub h1 hl2) (Nat.le_trans (Nat.sub_le _ _) h2) (hr.lower (Nat.sub_le _ _))) (rm2 hd (by decide)) (rm2 hu (by decide)) ?_)
    intro b8 size8 ts8 code8 tc8 left8 tl8 C9 z9 n9 hnorm g2 g3 h8 tk8 F8 N8
    refine ⟨(fun _ e => by cases e), ?_⟩
    dsimp only [NextG]
    refine wpG_execs_nil ?_
    k_steps
    dsimp only [RetG]
    have e := putP_less_low (σ := ⟨ss, ns, C, z, n⟩) (T := tabv w.params) (i := i.toNat) (t := (C9, z9, n9)) (by assumption) (by rw [hlw]; (first | exact n_ge (hszh trivial) (by assumption) | exact n_nge (hszh trivial) (by assumption) | exact n_le (hszh trivial) (hlh trivial) (by assumption) | exact n_nle (hszh trivial) (hlh trivial) (by assumption) | exact n_lt (hszh trivial) (hlh trivial) (by assumption) | exact n_nlt (hszh trivial) (hlh trivial) (by assumption))) (by rw [hlw]; exact hnorm) (lessN_yes (by assumption))
    refine hret _ _ _ _ _ _ _ _ _ ?_ ?_ ?_ ?_ _ _ (by assumption) (by assumption)
    all_goals rw [e]
    · assumption
    · assumption
    · exact g2
    · exact g3
  · have hl := hlh trivial
    dsimp only [NextG]
    refine wpG_execs_cons (wpG_Expr (wpG_Method ?_))
    k_steps
    k_dflt (refine' wpG_callWith_K0 ?x1 ?x2 ?_; (case x1 => k_in); (case x2 => k_is))
    (rename News _ _ _ _ => lN)
    k_dflt (refine CtG.use hks (tight3 htight) (by k_asm) (by k_asm) (by k_asm) lN (by k_asm) (by exact rfl) (widenE w (C := C) (z := z - l) (n := n) offw hnw (Nat.le_trans hn (by decide)) (hszh trivial) (one_sub h1 hl2) (Nat.le_trans (Nat.sub_le _ _) h2) (hr.lower (Nat.sub_le _ _))) (rm2 hd (by decide)) (rm2 hu (by decide)) ?_)
    intro b8 size8 ts8 code8 tc8 left8 tl8 C9 z9 n9 hnorm g2 g3 h8 tk8 F8 N8
    refine ⟨(fun _ e => by cases e), ?_⟩
    dsimp only [NextG]
    refine wpG_execs_nil ?_
    k_steps
    dsimp only [RetG]
    have e := putP_less_low (σ := ⟨ss, ns, C, z, n⟩) (T := tabv w.params) (i := i.toNat) (t := (C9, z9, n9)) (by assumption) (by rw [hlw]; (first | exact n_ge (hszh trivial) (by assumption) | exact n_nge (hszh trivial) (by assumption) | exact n_le (hszh trivial) (hlh trivial) (by assumption) | exact n_nle (hszh trivial) (hlh trivial) (by assumption) | exact n_lt (hszh trivial) (hlh trivial) (by assumption) | exact n_nlt (hszh trivial) (hlh trivial) (by assumption))) (by rw [hlw]; exact hnorm) (lessN_no (by assumption))
    refine hret _ _ _ _ _ _ _ _ _ ?_ ?_ ?_ ?_ _ _ (by assumption) (by assumption)
    all_goals rw [e]
    · assumption
    · assumption
    · exact g2
    · exact g3
end Mine
end
section
open PySem PySem.Calls PySem.W PyProof.Rows
set_option Elab.async false
set_option maxRecDepth 100000
set_option maxHeartbeats 8000000
namespace Mine
local macro_rules | `(tactic| walk_at $s:str) => `(tactic| k_extra $s)
local macro_rules | `(tactic| k_ne) => `(tactic| walk_at "ne")
theorem top_div {c z : Nat} (h : 1 ≤ z) : Int.fdiv ((c : Int) + (z : Int) - 1) (2 * 32768) = (((c + z - 1) / 65536 : Nat) : Int) := by
  rw [Int.fdiv_eq_ediv_of_nonneg _ (by decide)]
  have : (c : Int) + (z : Int) - 1 = ((c + z - 1 : Nat) : Int) := by omega
  rw [this]
  show ((c + z - 1 : Nat) : Int) / 65536 = _
  omega
theorem clear_end (w : World) {y dy fb : Addr} {e0 e1 e2 e3 : Int} {k0 k1 k2 k3 : Tok} {ts tc tl : Tok} {size code left : Int} {rest : List (Addr × Obj)} (off : OwnOff rest [y, dy]) (hne : Apt [y, dy])
    {c z : Nat} (hc : code = (c : Int)) (hz : size = (z : Int)) (hz1 : 1 ≤ z) (hz2 : z ≤ 65536) (hcs : c ≤ 100000000) :
    Ct w 263 [.ref y] ((y, instObj 273 dy) :: (dy, encD e0 e1 e2 e3 k0 k1 k2 k3 size ts code tc left tl fb) :: rest) 3 16
      (fun K => ∀ tc', K .none ((y, instObj 273 dy) :: (dy, encD e0 e1 e2 e3 k0 k1 k2 k3 size ts ((topOf c z : Nat) : Int) tc' left tl fb) :: rest)) := by
  k_with_none
  k_with "ne" => (first | exact Dif.ne (by assumption) | exact Dif.ne' (by assumption) | exact Nat.ne_of_lt (by assumption) | exact Nat.ne_of_gt (by assumption) | exact Nat.ne_of_gt (cj1 (by assumption)) | exact Nat.ne_of_lt (cj1 (by assumption)) | exact Nat.ne_of_gt (cj2 (by assumption)) | exact Nat.ne_of_lt (cj2 (by assumption)) | exact Nat.ne_of_gt (cj3 (by assumption)) | exact Nat.ne_of_lt (cj3 (by assumption)) | exact Nat.ne_of_gt (cj4 (by assumption)) | exact Nat.ne_of_lt (cj4 (by assumption)) | exact Nat.ne_of_gt (cj5 (by assumption)) | exact Nat.ne_of_lt (cj5 (by assumption)) | exact Nat.ne_of_gt (cj6 (by assumption)) | exact Nat.ne_of_lt (cj6 (by assumption)) | exact Nat.ne_of_gt (cj7 (by assumption)) | exact Nat.ne_of_lt (cj7 (by assumption)) | exact Nat.ne_of_gt (cj8 (by assumption)) | exact Nat.ne_of_lt (cj8 (by assumption)) | exact Nat.ne_of_gt (cj9 (by assumption)) | exact Nat.ne_of_lt (cj9 (by assumption)) | exact Nat.ne_of_gt (cl2 (by assumption)) | exact Nat.ne_of_lt (cl2 (by assumption)) | exact Nat.ne_of_gt (cl3 (by assumption)) | exact Nat.ne_of_lt (cl3 (by assumption)) | exact Nat.ne_of_gt (cl4 (by assumption)) | exact Nat.ne_of_lt (cl4 (by assumption)) | exact Nat.ne_of_gt (cl5 (by assumption)) | exact Nat.ne_of_lt (cl5 (by assumption)) | exact Nat.ne_of_gt (cl6 (by assumption)) | exact Nat.ne_of_lt (cl6 (by assumption)) | exact Nat.ne_of_gt (cl7 (by assumption)) | exact Nat.ne_of_lt (cl7 (by assumption)) | exact Nat.ne_of_gt (cl8 (by assumption)) | exact Nat.ne_of_lt (cl8 (by assumption)) | exact Nat.ne_of_gt (cl9 (by assumption)) | exact Nat.ne_of_lt (cl9 (by assumption)) | (refine neN ?_; (try dsimp only); omega))
  k_with "apt" => (repeat' (first | exact trivial | assumption | exact Dif.symm (by assumption) | exact Dif.mk (by walk_at "ne") | apply And.intro))
  k_with "sub" => (first | (intro p9 h9; k_ownIn) | exact List.forall_mem_nil _ | (refine List.forall_mem_cons.mpr ⟨by k_memK, ?_⟩; walk_at "sub"))
  k_with "call builtin:len" => ((k_here; (with_reducible show wpAny _ _ (call (Value.builtin "len") [Value.ref _]) _ _ _); k_dflt (refine' ba_lenN ?k1 ?k2 ?k3 ?_; (case k1 => k_asm); (case k2 => k_mem); (case k3 => (first | exact sz1 (by assumption) | omega | (simp only [fl_length] at *; omega)))); intro _ _))
  k_with "getMethod ref" => ((k_here; k_dflt (first | (refine' ba_methN ?k1 ?k2 ba_slot_append ba_type_append ?_; (case k1 => k_asm); (case k2 => k_mem)) | (refine' ba_methN ?k1 ?k2 ba_slot_pop ba_type_pop ?_; (case k1 => k_asm); (case k2 => k_mem)))))
  k_with "subscriptTail" => ((k_here; (with_reducible show wpAny _ _ (subscriptTail _ _ (Value.ref _) (Value.int _ _)) _ _ _); k_dflt (refine' ba_subN ?k1 ?k2 ?k3 ?k4 ?k5 ?_ ?k6 ?k7; (case k1 => k_asm); (case k2 => k_mem); (case k3 => omega); (case k4 => (first | exact sz1 (by assumption) | omega | (simp only [fl_length] at *; omega))); (case k5 => (first | exact sz1 (by assumption) | omega | (simp only [fl_length] at *; omega))); (case k6 => with_unfolding_all rfl); (case k7 => intro _; with_unfolding_all rfl)); intro _ _ _))
  k_with "getItem ref int" => ((k_here; (with_reducible show wpAny _ _ (getItem (Value.ref _) (Value.int _ _)) _ _ _); k_dflt (refine' ba_getN ?k1 ?k2 ?k3 ?k4 ?k5 ?_; (case k1 => k_asm); (case k2 => k_mem); (case k3 => omega); (case k4 => (first | exact sz1 (by assumption) | omega | (simp only [fl_length] at *; omega))); (case k5 => (first | exact sz1 (by assumption) | omega | (simp only [fl_length] at *; omega)))); intro _ _ _))
  k_with "setItem ref int" => ((k_here; (with_reducible show wpAny _ _ (setItem (Value.ref _) (Value.int _ _) (Value.int _ _)) _ _ _); k_dflt (refine' ba_setN ?k1 ?k2 ?k3 ?k4 ?k5 ?k6 ?k7 ?k8 ?_; (case k1 => k_asm); (case k2 => k_asm); (case k3 => k_upd); (case k4 => omega); (case k5 => (first | exact sz1 (by assumption) | omega | (simp only [fl_length] at *; omega))); (case k6 => (first | exact sz1 (by assumption) | omega | (simp only [fl_length] at *; omega))); (case k7 => omega); (case k8 => omega)); intro h' F' N'))
  k_with "enterG" => ((refine wpG_call ?_; k_dflt (refine' codeG_def ?k1 ?k2 ?k3 ?k4 ?k5 ?kA ?kF ?kK ?k6 ?k7 ?k8 ?k9 ?kB ?_ ?c2 ?c3 ?c4 ?c5; (case kA => exact rfl); (case kF => exact rfl); (case kK => assumption); (case k1 => k_asm); (case k2 => k_asm); (case k3 => k_asm); (case k4 => k_asm); (case k5 => k_asm); (case k6 => k_is); (case k7 => k_is); (case k8 => ktr_room); (case k9 => exact BindsTo.of_eq rfl); (case c5 => decide); (case kB => exact locs rfl); (case c2 => exact rfl); (case c3 => exact rfl); (case c4 => exact rfl); intro g' L' h' FG' F' N' B' X' T'; (try dsimp only))))
  refine apt2 hne fun d01 => ?_
  subst hc
  subst hz
  unfold Ct
  k_fill
  intro dp un gd cn cs a ccd cl outer A₀ base h₀ L m s Q E mean mg mb B F X N T hk hd hu hret
  refine wpAny_call ?_
  k_dflt ktr_enter
  k_with "binaryOp FloorDiv int int" => ((k_dflt (refine floordiv_by (by decide) (top_div hz1) (by decide) ?_)); intro _ _)
  k_steps
  · exact hret _ _ _ (by assumption) (by rw [← top_yes (by assumption)]; assumption)
  · exact hret _ _ _ (by assumption) (by rw [← top_no (by assumption)]; assumption)
end Mine
end
section
open PySem PySem.Calls PySem.W PyProof.Rows
set_option Elab.async false
set_option maxRecDepth 100000
set_option maxHeartbeats 8000000
namespace Mine
local macro_rules | `(tactic| walk_at $s:str) => `(tactic| k_extra $s)
section
variable {prog : Program} {w : World} {A : Around} {E : Value → Shared → Prop} {s : Shared} {fb : Addr} {b : List UInt8} {x : UInt8} {h₀ : Heap} {L : Addr} {news : List (Addr × Obj)}
theorem ba_lastN {value slice : PySem.Expr} {k : Int} {t : Tok} {Q : Value → Shared → Prop} (N : News h₀ L s.heap news) (hm : (fb, baOf (b ++ [x])) ∈ news) (hk : k = -1) (hz : b.length < 100000)
    (h : ∀ t j, Q (.int x.toNat t) { s with toks := j })
    (hs : subscripted slice false (.ref fb) (.int k t) = operate [.ref fb, .int k t] (getItem (.ref fb) (.int k t)) := by with_unfolding_all rfl) (ht : ∀ r, letTemporaryGo value (.ref fb) r = pure () := by intro _; with_unfolding_all rfl) :
    wpAny (model prog w) A (subscriptTail value slice (.ref fb) (.int k t)) Q E s := by
  subst hk
  refine subscriptTail_builtin (ba_typeIs (ba_mem N hm)) ba_slot_getitem.lookup (ba_getItem (i := b.length) (ba_mem N hm) (by omega) (by omega) ?_ (by simp) fun t j => ?_) hs ht
  · rw [List.length_append, List.length_singleton]
    unfold seqIndex?
    simp
    omega
  · have e : (b ++ [x]).getD b.length 0 = x := by simp [List.getD]
    rw [e]
    exact h t j
theorem ba_neN {t : Tok} {b2 : Array UInt8} {Q : Value → Shared → Prop} (N : News h₀ L s.heap news) (hm : (fb, baOf b) ∈ news) (h2 : b2 = #[]) (hu : A.units < cLine) (h : Q (.bool (decide (b ≠ []))) s) : wpAny (model prog w) A (compareOp .NotEq (.ref fb) (.bytes b2 t)) Q E s := by
  subst h2
  exact cmp_ofNotEq (ba_ne (ba_mem N hm) hu h)
theorem ba_bytesN {Q : Value → Shared → Prop} (N : News h₀ L s.heap news) (hm : (fb, baOf b) ∈ news) (hz : b.length < 1000000) (h : ∀ t k, Q (.bytes b.toArray t) { s with toks := k }) : wpAny (model prog w) A (call (.type "bytes") [.ref fb]) Q E s := ba_to_bytes (ba_mem N hm) hz h
end
local macro_rules | `(tactic| k_ne) => `(tactic| walk_at "ne")
theorem finishE (w : World) {y dy fb : Addr} {e0 e1 e2 e3 : Int} {k0 k1 k2 k3 : Tok} {b : List UInt8} {ts tc tl : Tok} {size code left : Int} {rest : List (Addr × Obj)} (off : OwnOff rest [y, dy, fb]) (hne : Apt [y, dy, fb])
    {C z n : Nat} (hn : n ≤ 20000) (hz : size = (z : Int)) (h1 : 32768 ≤ z) (h2 : z ≤ 65536) (hr : EncRep b C n z code left) :
    CtG w 270 [.ref y] ((y, instObj 273 dy) :: (dy, encD e0 e1 e2 e3 k0 k1 k2 k3 size ts code tc left tl fb) :: (fb, baOf b) :: rest) 8 64
      (fun K => ∀ b' t' size' ts' code' tc' left' tl' (V T lf : Nat),
        (∀ a x, b' = a ++ [x] → x ≠ 0) → C ≤ V → V < C + z → (C = 0 → V = 0) → b'.length ≤ T → R b' T * 2 ^ 19 = V * 2 ^ (lf + 8) → 8 * T = n + lf + 5 → lf ≤ 11 →
        K (.bytes b'.toArray t') ((y, instObj 273 dy) :: (dy, encD e0 e1 e2 e3 k0 k1 k2 k3 size' ts' code' tc' left' tl' fb) :: (fb, baOf b') :: rest)) := by
  k_with_none
  k_with "ne" => (first | exact Dif.ne (by assumption) | exact Dif.ne' (by assumption) | exact Nat.ne_of_lt (by assumption) | exact Nat.ne_of_gt (by assumption) | exact Nat.ne_of_gt (cj1 (by assumption)) | exact Nat.ne_of_lt (cj1 (by assumption)) | exact Nat.ne_of_gt (cj2 (by assumption)) | exact Nat.ne_of_lt (cj2 (by assumption)) | exact Nat.ne_of_gt (cj3 (by assumption)) | exact Nat.ne_of_lt (cj3 (by assumption)) | exact Nat.ne_of_gt (cj4 (by assumption)) | exact Nat.ne_of_lt (cj4 (by assumption)) | exact Nat.ne_of_gt (cj5 (by assumption)) | exact Nat.ne_of_lt (cj5 (by assumption)) | exact Nat.ne_of_gt (cj6 (by assumption)) | exact Nat.ne_of_lt (cj6 (by assumption)) | exact Nat.ne_of_gt (cj7 (by assumption)) | exact Nat.ne_of_lt (cj7 (by assumption)) | exact Nat.ne_of_gt (cj8 (by assumption)) | exact Nat.ne_of_lt (cj8 (by assumption)) | exact Nat.ne_of_gt (cj9 (by assumption)) | exact Nat.ne_of_lt (cj9 (by assumption)) | exact Nat.ne_of_gt (cl2 (by assumption)) | exact Nat.ne_of_lt (cl2 (by assumption)) | exact Nat.ne_of_gt (cl3 (by assumption)) | exact Nat.ne_of_lt (cl3 (by assumption)) | exact Nat.ne_of_gt (cl4 (by assumption)) | exact Nat.ne_of_lt (cl4 (by assumption)) | exact Nat.ne_of_gt (cl5 (by assumption)) | exact Nat.ne_of_lt (cl5 (by assumption)) | exact Nat.ne_of_gt (cl6 (by assumption)) | exact Nat.ne_of_lt (cl6 (by assumption)) | exact Nat.ne_of_gt (cl7 (by assumption)) | exact Nat.ne_of_lt (cl7 (by assumption)) | exact Nat.ne_of_gt (cl8 (by assumption)) | exact Nat.ne_of_lt (cl8 (by assumption)) | exact Nat.ne_of_gt (cl9 (by assumption)) | exact Nat.ne_of_lt (cl9 (by assumption)) | (refine neN ?_; (try dsimp only); omega))
  k_with "apt" => (repeat' (first | exact trivial | assumption | exact Dif.symm (by assumption) | exact Dif.mk (by walk_at "ne") | apply And.intro))
  k_with "sub" => (first | (intro p9 h9; k_ownIn) | exact List.forall_mem_nil _ | (refine List.forall_mem_cons.mpr ⟨by k_memK, ?_⟩; walk_at "sub"))
  k_with "call builtin:len" => ((k_here; (with_reducible show wpAny _ _ (call (Value.builtin "len") [Value.ref _]) _ _ _); k_dflt (refine' ba_lenN ?k1 ?k2 ?k3 ?_; (case k1 => k_asm); (case k2 => k_mem); (case k3 => (first | exact sz1 (by assumption) | omega | (simp only [fl_length] at *; omega)))); intro _ _))
  k_with "getMethod ref" => ((k_here; k_dflt (first | (refine' ba_methN ?k1 ?k2 ba_slot_append ba_type_append ?_; (case k1 => k_asm); (case k2 => k_mem)) | (refine' ba_methN ?k1 ?k2 ba_slot_pop ba_type_pop ?_; (case k1 => k_asm); (case k2 => k_mem)))))
  k_with "subscriptTail" => ((k_here; (with_reducible show wpAny _ _ (subscriptTail _ _ (Value.ref _) (Value.int _ _)) _ _ _); k_dflt (refine' ba_subN ?k1 ?k2 ?k3 ?k4 ?k5 ?_ ?k6 ?k7; (case k1 => k_asm); (case k2 => k_mem); (case k3 => omega); (case k4 => (first | exact sz1 (by assumption) | omega | (simp only [fl_length] at *; omega))); (case k5 => (first | exact sz1 (by assumption) | omega | (simp only [fl_length] at *; omega))); (case k6 => with_unfolding_all rfl); (case k7 => intro _; with_unfolding_all rfl)); intro _ _ _))
  k_with "getItem ref int" => ((k_here; (with_reducible show wpAny _ _ (getItem (Value.ref _) (Value.int _ _)) _ _ _); k_dflt (refine' ba_getN ?k1 ?k2 ?k3 ?k4 ?k5 ?_; (case k1 => k_asm); (case k2 => k_mem); (case k3 => omega); (case k4 => (first | exact sz1 (by assumption) | omega | (simp only [fl_length] at *; omega))); (case k5 => (first | exact sz1 (by assumption) | omega | (simp only [fl_length] at *; omega)))); intro _ _ _))
  k_with "setItem ref int" => ((k_here; (with_reducible show wpAny _ _ (setItem (Value.ref _) (Value.int _ _) (Value.int _ _)) _ _ _); k_dflt (refine' ba_setN ?k1 ?k2 ?k3 ?k4 ?k5 ?k6 ?k7 ?k8 ?_; (case k1 => k_asm); (case k2 => k_asm); (case k3 => k_upd); (case k4 => omega); (case k5 => (first | exact sz1 (by assumption) | omega | (simp only [fl_length] at *; omega))); (case k6 => (first | exact sz1 (by assumption) | omega | (simp only [fl_length] at *; omega))); (case k7 => omega); (case k8 => omega)); intro h' F' N'))
  k_with "enterG" => ((refine wpG_call ?_; k_dflt (refine' codeG_def ?k1 ?k2 ?k3 ?k4 ?k5 ?kA ?kF ?kK ?k6 ?k7 ?k8 ?k9 ?kB ?_ ?c2 ?c3 ?c4 ?c5; (case kA => exact rfl); (case kF => exact rfl); (case kK => assumption); (case k1 => k_asm); (case k2 => k_asm); (case k3 => k_asm); (case k4 => k_asm); (case k5 => k_asm); (case k6 => k_is); (case k7 => k_is); (case k8 => ktr_room); (case k9 => exact BindsTo.of_eq rfl); (case c5 => decide); (case kB => exact locs rfl); (case c2 => exact rfl); (case c3 => exact rfl); (case c4 => exact rfl); intro g' L' h' FG' F' N' B' X' T'; (try dsimp only))))
  k_with "subscriptTail" => ((k_here; (with_reducible show wpAny _ _ (subscriptTail _ _ (Value.ref _) (Value.int _ _)) _ _ _); k_dflt (refine' ba_lastN ?k1 ?k2 ?k3 ?k4 ?_ ?k6 ?k7; (case k1 => k_asm); (case k2 => k_mem); (case k3 => decide); (case k4 => first | exact sz5 (by assumption) | omega); (case k6 => with_unfolding_all rfl); (case k7 => intro _; with_unfolding_all rfl)); intro _ _))
  k_with "compareOp NotEq ref bytes" => ((k_here; k_dflt (refine' ba_neN ?k1 ?k2 ?k3 ?k4 ?_; (case k1 => k_asm); (case k2 => k_mem); (case k3 => exact rfl); (case k4 => ktr_units))))
  k_with "call type:bytes" => ((k_here; k_dflt (refine' ba_bytesN ?k1 ?k2 ?k3 ?_; (case k1 => k_asm); (case k2 => k_mem); (case k3 => first | exact sz1 (by assumption) | omega | (simp only [List.length_append, List.length_singleton]; omega))); intro _ _))
  refine apt3 hne fun d01 d02 d12 => ?_
  refine (hr.finish h1 h2).elim fun c y0 => y0.elim fun l y0 => ?_
  refine and9 y0 fun hc hlf l1 l2 t1 t2 t3 t4 t5 => ?_
  clear y0
  have hlen := hr.length_le
  have hcb := hr.code_range
  unfold CtG
  k_fill
  intro ks dp un gd cn cs a ccd cl outer A₀ base h₀ L m s Q mean mg mb hks htight B F X N T hk hd hu hret
  walk_at "enterG"
  k_with_none
  k_with "ne" => (first | exact Dif.ne (by assumption) | exact Dif.ne' (by assumption) | exact Nat.ne_of_lt (by assumption) | exact Nat.ne_of_gt (by assumption) | exact Nat.ne_of_gt (cj1 (by assumption)) | exact Nat.ne_of_lt (cj1 (by assumption)) | exact Nat.ne_of_gt (cj2 (by assumption)) | exact Nat.ne_of_lt (cj2 (by assumption)) | exact Nat.ne_of_gt (cj3 (by assumption)) | exact Nat.ne_of_lt (cj3 (by assumption)) | exact Nat.ne_of_gt (cj4 (by assumption)) | exact Nat.ne_of_lt (cj4 (by assumption)) | exact Nat.ne_of_gt (cj5 (by assumption)) | exact Nat.ne_of_lt (cj5 (by assumption)) | exact Nat.ne_of_gt (cj6 (by assumption)) | exact Nat.ne_of_lt (cj6 (by assumption)) | exact Nat.ne_of_gt (cj7 (by assumption)) | exact Nat.ne_of_lt (cj7 (by assumption)) | exact Nat.ne_of_gt (cj8 (by assumption)) | exact Nat.ne_of_lt (cj8 (by assumption)) | exact Nat.ne_of_gt (cj9 (by assumption)) | exact Nat.ne_of_lt (cj9 (by assumption)) | exact Nat.ne_of_gt (cl2 (by assumption)) | exact Nat.ne_of_lt (cl2 (by assumption)) | exact Nat.ne_of_gt (cl3 (by assumption)) | exact Nat.ne_of_lt (cl3 (by assumption)) | exact Nat.ne_of_gt (cl4 (by assumption)) | exact Nat.ne_of_lt (cl4 (by assumption)) | exact Nat.ne_of_gt (cl5 (by assumption)) | exact Nat.ne_of_lt (cl5 (by assumption)) | exact Nat.ne_of_gt (cl6 (by assumption)) | exact Nat.ne_of_lt (cl6 (by assumption)) | exact Nat.ne_of_gt (cl7 (by assumption)) | exact Nat.ne_of_lt (cl7 (by assumption)) | exact Nat.ne_of_gt (cl8 (by assumption)) | exact Nat.ne_of_lt (cl8 (by assumption)) | exact Nat.ne_of_gt (cl9 (by assumption)) | exact Nat.ne_of_lt (cl9 (by assumption)) | (refine neN ?_; (try dsimp only); omega))
  k_with "apt" => (repeat' (first | exact trivial | assumption | exact Dif.symm (by assumption) | exact Dif.mk (by walk_at "ne") | apply And.intro))
  k_with "sub" => (first | (intro p9 h9; k_ownIn) | exact List.forall_mem_nil _ | (refine List.forall_mem_cons.mpr ⟨by k_memK, ?_⟩; walk_at "sub"))
  k_with "call builtin:len" => ((k_here; (with_reducible show wpAny _ _ (call (Value.builtin "len") [Value.ref _]) _ _ _); k_dflt (refine' ba_lenN ?k1 ?k2 ?k3 ?_; (case k1 => k_asm); (case k2 => k_mem); (case k3 => (first | exact sz1 (by assumption) | omega | (simp only [fl_length] at *; omega)))); intro _ _))
  k_with "getMethod ref" => ((k_here; k_dflt (first | (refine' ba_methN ?k1 ?k2 ba_slot_append ba_type_append ?_; (case k1 => k_asm); (case k2 => k_mem)) | (refine' ba_methN ?k1 ?k2 ba_slot_pop ba_type_pop ?_; (case k1 => k_asm); (case k2 => k_mem)))))
  k_with "subscriptTail" => ((k_here; (with_reducible show wpAny _ _ (subscriptTail _ _ (Value.ref _) (Value.int _ _)) _ _ _); k_dflt (refine' ba_subN ?k1 ?k2 ?k3 ?k4 ?k5 ?_ ?k6 ?k7; (case k1 => k_asm); (case k2 => k_mem); (case k3 => omega); (case k4 => (first | exact sz1 (by assumption) | omega | (simp only [fl_length] at *; omega))); (case k5 => (first | exact sz1 (by assumption) | omega | (simp only [fl_length] at *; omega))); (case k6 => with_unfolding_all rfl); (case k7 => intro _; with_unfolding_all rfl)); intro _ _ _))
  k_with "getItem ref int" => ((k_here; (with_reducible show wpAny _ _ (getItem (Value.ref _) (Value.int _ _)) _ _ _); k_dflt (refine' ba_getN ?k1 ?k2 ?k3 ?k4 ?k5 ?_; (case k1 => k_asm); (case k2 => k_mem); (case k3 => omega); (case k4 => (first | exact sz1 (by assumption) | omega | (simp only [fl_length] at *; omega))); (case k5 => (first | exact sz1 (by assumption) | omega | (simp only [fl_length] at *; omega)))); intro _ _ _))
  k_with "setItem ref int" => ((k_here; (with_reducible show wpAny _ _ (setItem (Value.ref _) (Value.int _ _) (Value.int _ _)) _ _ _); k_dflt (refine' ba_setN ?k1 ?k2 ?k3 ?k4 ?k5 ?k6 ?k7 ?k8 ?_; (case k1 => k_asm); (case k2 => k_asm); (case k3 => k_upd); (case k4 => omega); (case k5 => (first | exact sz1 (by assumption) | omega | (simp only [fl_length] at *; omega))); (case k6 => (first | exact sz1 (by assumption) | omega | (simp only [fl_length] at *; omega))); (case k7 => omega); (case k8 => omega)); intro h' F' N'))
  k_with "enterG" => ((refine wpG_call ?_; k_dflt (refine' codeG_def ?k1 ?k2 ?k3 ?k4 ?k5 ?kA ?kF ?kK ?k6 ?k7 ?k8 ?k9 ?kB ?_ ?c2 ?c3 ?c4 ?c5; (case kA => exact rfl); (case kF => exact rfl); (case kK => assumption); (case k1 => k_asm); (case k2 => k_asm); (case k3 => k_asm); (case k4 => k_asm); (case k5 => k_asm); (case k6 => k_is); (case k7 => k_is); (case k8 => ktr_room); (case k9 => exact BindsTo.of_eq rfl); (case c5 => decide); (case kB => exact locs rfl); (case c2 => exact rfl); (case c3 => exact rfl); (case c4 => exact rfl); intro g' L' h' FG' F' N' B' X' T'; (try dsimp only))))
  k_with "subscriptTail" => ((k_here; (with_reducible show wpAny _ _ (subscriptTail _ _ (Value.ref _) (Value.int _ _)) _ _ _); k_dflt (refine' ba_lastN ?k1 ?k2 ?k3 ?k4 ?_ ?k6 ?k7; (case k1 => k_asm); (case k2 => k_mem); (case k3 => decide); (case k4 => first | exact sz5 (by assumption) | omega); (case k6 => with_unfolding_all rfl); (case k7 => intro _; with_unfolding_all rfl)); intro _ _))
  k_with "compareOp NotEq ref bytes" => ((k_here; k_dflt (refine' ba_neN ?k1 ?k2 ?k3 ?k4 ?_; (case k1 => k_asm); (case k2 => k_mem); (case k3 => exact rfl); (case k4 => ktr_units))))
  k_with "call type:bytes" => ((k_here; k_dflt (refine' ba_bytesN ?k1 ?k2 ?k3 ?_; (case k1 => k_asm); (case k2 => k_mem); (case k3 => first | exact sz1 (by assumption) | omega | (simp only [List.length_append, List.length_singleton]; omega))); intro _ _))
  k_with "call ref" => (
    (dsimp only [List.cons_append, List.nil_append])
    (rename News _ _ _ _ => lN)
    k_dflt (refine Ct.use (by k_asm) (by k_asm) (by k_asm) lN (by k_asm) (by exact rfl) (clear_end w (c := c) (z := z) (off_cons (by walk_at "apt") (off_sub off fun b hb => List.mem_append_left [fb] hb)) (by walk_at "apt") hc hz (by omega) h2 (by omega)) (rm2 hd (by decide)) (rm2 hu (by decide)) ?_)
    intro tc9 h9 tk9 F9 N9)
  refine wpG_execs_any ?_
  k_steps
  dsimp only [NextG]
  k_with "inplaceOp LShift int int" => ((k_dflt (refine ilshift_by (q := ((topOf c z * 2 ^ l : Nat) : Int)) (nn_of hlf) (le1000 hlf l2) (abs_lt t1 (by decide)) (by rw [hlf, Int.toNat_natCast, Int.natCast_mul, Int.natCast_pow]; rfl) ?_)); intro _ _)
  refine wpG_execs_any ?_
  k_steps
  dsimp only [NextG]
  refine wpG_execs_cons (wpG_Expr (wpG_Method ?_))
  k_steps
  k_dflt (refine' wpG_callWith_K0 ?x1 ?x2 ?_; (case x1 => k_in); (case x2 => k_is))
  (rename News _ _ _ _ => lN)
  k_dflt (refine CtG.use hks (tight3 htight) (by k_asm) (by k_asm) (by k_asm) lN (by k_asm) (by exact rfl) (octet_out w off hne (len8 hlen hn) rfl rfl t3 t4) (rm2 hd (by decide)) (rm2 hu (by decide)) ?_)
  intro fs1 code8 tc8 g1 g2 g3 h8 tk8 F8 N8
  refine ⟨(fun _ e => by cases e), ?_⟩
  dsimp only [NextG]
  k_with_none
  k_with "ne" => (first | exact Dif.ne (by assumption) | exact Dif.ne' (by assumption) | exact Nat.ne_of_lt (by assumption) | exact Nat.ne_of_gt (by assumption) | exact Nat.ne_of_gt (cj1 (by assumption)) | exact Nat.ne_of_lt (cj1 (by assumption)) | exact Nat.ne_of_gt (cj2 (by assumption)) | exact Nat.ne_of_lt (cj2 (by assumption)) | exact Nat.ne_of_gt (cj3 (by assumption)) | exact Nat.ne_of_lt (cj3 (by assumption)) | exact Nat.ne_of_gt (cj4 (by assumption)) | exact Nat.ne_of_lt (cj4 (by assumption)) | exact Nat.ne_of_gt (cj5 (by assumption)) | exact Nat.ne_of_lt (cj5 (by assumption)) | exact Nat.ne_of_gt (cj6 (by assumption)) | exact Nat.ne_of_lt (cj6 (by assumption)) | exact Nat.ne_of_gt (cj7 (by assumption)) | exact Nat.ne_of_lt (cj7 (by assumption)) | exact Nat.ne_of_gt (cj8 (by assumption)) | exact Nat.ne_of_lt (cj8 (by assumption)) | exact Nat.ne_of_gt (cj9 (by assumption)) | exact Nat.ne_of_lt (cj9 (by assumption)) | exact Nat.ne_of_gt (cl2 (by assumption)) | exact Nat.ne_of_lt (cl2 (by assumption)) | exact Nat.ne_of_gt (cl3 (by assumption)) | exact Nat.ne_of_lt (cl3 (by assumption)) | exact Nat.ne_of_gt (cl4 (by assumption)) | exact Nat.ne_of_lt (cl4 (by assumption)) | exact Nat.ne_of_gt (cl5 (by assumption)) | exact Nat.ne_of_lt (cl5 (by assumption)) | exact Nat.ne_of_gt (cl6 (by assumption)) | exact Nat.ne_of_lt (cl6 (by assumption)) | exact Nat.ne_of_gt (cl7 (by assumption)) | exact Nat.ne_of_lt (cl7 (by assumption)) | exact Nat.ne_of_gt (cl8 (by assumption)) | exact Nat.ne_of_lt (cl8 (by assumption)) | exact Nat.ne_of_gt (cl9 (by assumption)) | exact Nat.ne_of_lt (cl9 (by assumption)) | (refine neN ?_; (try dsimp only); omega))
  k_with "apt" => (repeat' (first | exact trivial | assumption | exact Dif.symm (by assumption) | exact Dif.mk (by walk_at "ne") | apply And.intro))
  k_with "sub" => (first | (intro p9 h9; k_ownIn) | exact List.forall_mem_nil _ | (refine List.forall_mem_cons.mpr ⟨by k_memK, ?_⟩; walk_at "sub"))
  k_with "call builtin:len" => ((k_here; (with_reducible show wpAny _ _ (call (Value.builtin "len") [Value.ref _]) _ _ _); k_dflt (refine' ba_lenN ?k1 ?k2 ?k3 ?_; (case k1 => k_asm); (case k2 => k_mem); (case k3 => (first | exact sz1 (by assumption) | omega | (simp only [fl_length] at *; omega)))); intro _ _))
  k_with "getMethod ref" => ((k_here; k_dflt (first | (refine' ba_methN ?k1 ?k2 ba_slot_append ba_type_append ?_; (case k1 => k_asm); (case k2 => k_mem)) | (refine' ba_methN ?k1 ?k2 ba_slot_pop ba_type_pop ?_; (case k1 => k_asm); (case k2 => k_mem)))))
  k_with "subscriptTail" => ((k_here; (with_reducible show wpAny _ _ (subscriptTail _ _ (Value.ref _) (Value.int _ _)) _ _ _); k_dflt (refine' ba_subN ?k1 ?k2 ?k3 ?k4 ?k5 ?_ ?k6 ?k7; (case k1 => k_asm); (case k2 => k_mem); (case k3 => omega); (case k4 => (first | exact sz1 (by assumption) | omega | (simp only [fl_length] at *; omega))); (case k5 => (first | exact sz1 (by assumption) | omega | (simp only [fl_length] at *; omega))); (case k6 => with_unfolding_all rfl); (case k7 => intro _; with_unfolding_all rfl)); intro _ _ _))
  k_with "getItem ref int" => ((k_here; (with_reducible show wpAny _ _ (getItem (Value.ref _) (Value.int _ _)) _ _ _); k_dflt (refine' ba_getN ?k1 ?k2 ?k3 ?k4 ?k5 ?_; (case k1 => k_asm); (case k2 => k_mem); (case k3 => omega); (case k4 => (first | exact sz1 (by assumption) | omega | (simp only [fl_length] at *; omega))); (case k5 => (first | exact sz1 (by assumption) | omega | (simp only [fl_length] at *; omega)))); intro _ _ _))
  k_with "setItem ref int" => ((k_here; (with_reducible show wpAny _ _ (setItem (Value.ref _) (Value.int _ _) (Value.int _ _)) _ _ _); k_dflt (refine' ba_setN ?k1 ?k2 ?k3 ?k4 ?k5 ?k6 ?k7 ?k8 ?_; (case k1 => k_asm); (case k2 => k_asm); (case k3 => k_upd); (case k4 => omega); (case k5 => (first | exact sz1 (by assumption) | omega | (simp only [fl_length] at *; omega))); (case k6 => (first | exact sz1 (by assumption) | omega | (simp only [fl_length] at *; omega))); (case k7 => omega); (case k8 => omega)); intro h' F' N'))
  k_with "enterG" => ((refine wpG_call ?_; k_dflt (refine' codeG_def ?k1 ?k2 ?k3 ?k4 ?k5 ?kA ?kF ?kK ?k6 ?k7 ?k8 ?k9 ?kB ?_ ?c2 ?c3 ?c4 ?c5; (case kA => exact rfl); (case kF => exact rfl); (case kK => assumption); (case k1 => k_asm); (case k2 => k_asm); (case k3 => k_asm); (case k4 => k_asm); (case k5 => k_asm); (case k6 => k_is); (case k7 => k_is); (case k8 => ktr_room); (case k9 => exact BindsTo.of_eq rfl); (case c5 => decide); (case kB => exact locs rfl); (case c2 => exact rfl); (case c3 => exact rfl); (case c4 => exact rfl); intro g' L' h' FG' F' N' B' X' T'; (try dsimp only))))
  k_with "subscriptTail" => ((k_here; (with_reducible show wpAny _ _ (subscriptTail _ _ (Value.ref _) (Value.int _ _)) _ _ _); k_dflt (refine' ba_lastN ?k1 ?k2 ?k3 ?k4 ?_ ?k6 ?k7; (case k1 => k_asm); (case k2 => k_mem); (case k3 => decide); (case k4 => first | exact sz5 (by assumption) | omega); (case k6 => with_unfolding_all rfl); (case k7 => intro _; with_unfolding_all rfl)); intro _ _))
  k_with "compareOp NotEq ref bytes" => ((k_here; k_dflt (refine' ba_neN ?k1 ?k2 ?k3 ?k4 ?_; (case k1 => k_asm); (case k2 => k_mem); (case k3 => exact rfl); (case k4 => ktr_units))))
  k_with "call type:bytes" => ((k_here; k_dflt (refine' ba_bytesN ?k1 ?k2 ?k3 ?_; (case k1 => k_asm); (case k2 => k_mem); (case k3 => first | exact sz1 (by assumption) | omega | (simp only [List.length_append, List.length_singleton]; omega))); intro _ _))
  k_with "inplaceOp LShift int int" => ((k_dflt (refine ilshift_by (q := ((topOf c z * 2 ^ l % 524288 * 256 : Nat) : Int)) (by decide) (by decide) (md_abs g3) (by rw [g3]; rfl) ?_)); intro _ _)
  refine wpG_execs_any ?_
  k_steps
  dsimp only [NextG]
  refine wpG_execs_cons (wpG_Expr (wpG_Method ?_))
  k_steps
  k_dflt (refine' wpG_callWith_K0 ?x1 ?x2 ?_; (case x1 => k_in); (case x2 => k_is))
  (rename News _ _ _ _ => lN)
  k_dflt (refine CtG.use hks (tight3 htight) (by k_asm) (by k_asm) (by k_asm) lN (by k_asm) (by exact rfl) (octet_out w off hne (len81 hlen hn g1) rfl rfl (Nat.lt_trans md_lt (by decide)) (fun h => absurd md_lt (Nat.not_lt.mpr h))) (rm2 hd (by decide)) (rm2 hu (by decide)) ?_)
  intro fs2 code8 tc8 m1 m2 m3 h8 tk8 F8 N8
  refine ⟨(fun _ e => by cases e), ?_⟩
  dsimp only [NextG]
  refine ex1and5 (t5 fs1 fs2 g1 g2 m1 m2) fun V v1 v2 v3 v4 v5 => ?_
  refine wpG_execs_cons ?_
  (rename Fr _ _ _ _ => lF)
  (rename News _ _ _ _ => lN)
  k_dflt (refine whileG_cps (fun f K => ∀ bb k tcx, f = bb.length → fs2 = bb ++ List.replicate k 0 → K ((y, instObj 273 dy) :: (dy, encD e0 e1 e2 e3 k0 k1 k2 k3 size ts code8 tcx left tl fb) :: (fb, baOf bb) :: rest)) fs2.length lF lN (fun K k => k fs2 0 _ rfl (by simp)) ?_)
  clear lF lN
  intro f h7 tk7 W F7 wret wnext bb k tcx hfb hbb N7
  subst hfb
  have hbl : bb.length ≤ fs2.length := by rw [hbb, List.length_append]; exact Nat.le_add_right _ _
  have hb2 : bb.length ≤ 4096 := Nat.le_trans hbl (fin_len hn v5 l2)
  rcases List.eq_nil_or_concat bb with rfl | ⟨a1, x1, rfl⟩
  · k_steps
    dsimp only [NextG]
    refine wpG_execs_any ?_
    k_steps
    dsimp only [NextG]
    k_steps
    dsimp only [RetG]
    exact hret _ _ _ _ _ _ _ _ V fs2.length l (by intro a x e; simp at e) v1 v2 v3 (by first | exact hbl | (simp; omega)) (by rw [strip_N hbb]; exact v4) v5 l2 _ _ (by assumption) (by assumption)
  · rw [List.concat_eq_append] at *
    have ha2 : a1.length ≤ 4096 := Nat.le_trans (by rw [List.length_append]; exact Nat.le_add_right _ _) hb2
    k_steps
    · refine wpG_execs_cons (wpG_Expr (wpG_Method ?_))
      k_steps
      refine wpG_callWith_b0 ?_
      k_dflt (refine pop_N (by k_asm) (by k_asm) (by k_upd) hks rfl (tight3 htight) (sz1 ha2) ?_)
      intro h5 v5' t5' k5' F5 N5
      refine ⟨(fun _ e => by cases e), ?_⟩
      dsimp only [NextG]
      refine wpG_execs_nil ?_
      refine wnext a1.length _ _ _ (by assumption) (by assumption) (by simp) fun K k9 => k9 a1 (k + 1) _ rfl ?_
      have hx0 : x1 = 0 := UInt8.toNat_inj.mp (x0_of (by assumption))
      rw [hbb, hx0, List.append_assoc, List.replicate_succ]
      rfl
    · have hx0 : x1 ≠ 0 := by
        intro e
        rename ((x1.toNat : Int) ≠ 0) => hxx
        exact hxx (by rw [e]; rfl)
      dsimp only [NextG]
      refine wpG_execs_any ?_
      k_steps
      dsimp only [NextG]
      k_steps
      dsimp only [RetG]
      exact hret _ _ _ _ _ _ _ _ V fs2.length l (by intro a x e; rw [List.append_inj' e rfl |>.2 |> List.singleton_inj.mp |> Eq.symm]; exact hx0) v1 v2 v3 (by first | exact hbl | (simp; omega)) (by rw [strip_N hbb]; exact v4) v5 l2 _ _ (by assumption) (by assumption)
    · rename (¬ a1 ++ [x1] ≠ []) => hxx
      exact absurd (by simp) hxx
end Mine
end
section
open PySem PySem.Calls PySem.W PyProof.Rows
set_option Elab.async false
set_option maxRecDepth 100000
set_option maxHeartbeats 8000000
namespace Mine
local macro_rules | `(tactic| walk_at $s:str) => `(tactic| k_extra $s)
/-- a contract of a def as a code, run with the caller below -/
def CtGC (w : World) (f : Addr) (vs : List Value) (news : List (Addr × Obj)) (dn un0 : Nat) (R : (Value → List (Addr × Obj) → Prop) → Prop) : Prop :=
  ∀ (ks : List Code) (dp un : Nat) (gd : Option (List Code)) (cn : Str) (cs : Scope) (a : Addr) (ccd : Value) (cl : List (Str × Addr)) (outer : List Env) (A₀ : Around) (base h₀ : Heap) (L : Addr) (m : Str → Option Value) (s : Shared) (RR : Result → Shared → Prop) (mean : ExcName → Option Value) (mg mb : Str → Option Value),
    Calm ks → un ≤ 3 * (outer.length + 1) + extras ks →
    Below A₀ base outer h₀ → Fr h₀ L s.heap m → (Mine.Lit.lt.heap_1 w.params).In h₀ → News h₀ L s.heap news → Top Mine.Lit.lt.view_1 (looseW Mine.Lit.lt.view_1 []) mean mg mb h₀ → cs.kind = .function → dp + dn < recursionLimit → un + un0 < cLine →
    (R fun v news' => ∀ h' tk, Fr h₀ L h' m → News h₀ L h' news' → RR (.ok (.ret v)) { s with heap := h', toks := tk }) →
    codeG ks (model PySem.Challenge.rw_nt0555_01.row.prog w) (ktrTop dp un gd cn cs L a ccd cl outer) (.call (.ref f) ⟨vs, []⟩) RR s
local macro_rules | `(tactic| k_ne) => `(tactic| walk_at "ne")
local macro_rules | `(tactic| k_room) => `(tactic| ktr_room)
theorem initE (w : World) {x dx : Addr} {rest : List (Addr × Obj)} (off : OwnOff rest [x, dx]) (hne : Apt [x, dx]) :
    CtGC w 235 [.ref x] ((x, instObj 273 dx) :: (dx, emptyDict) :: rest) 5 32
      (fun K => ∀ e0 e1 e2 e3 k0 k1 k2 k3 ts tc tl fb, @LT.lt Nat _ x fb → @LT.lt Nat _ dx fb → AllLt fb rest → K .none ((x, instObj 273 dx) :: (dx, encD e0 e1 e2 e3 k0 k1 k2 k3 65536 ts 0 tc 11 tl fb) :: (fb, baOf []) :: rest)) := by
  k_with_none
  k_with "ne" => (first | exact Dif.ne (by assumption) | exact Dif.ne' (by assumption) | exact Nat.ne_of_lt (by assumption) | exact Nat.ne_of_gt (by assumption) | exact Nat.ne_of_gt (cj1 (by assumption)) | exact Nat.ne_of_lt (cj1 (by assumption)) | exact Nat.ne_of_gt (cj2 (by assumption)) | exact Nat.ne_of_lt (cj2 (by assumption)) | exact Nat.ne_of_gt (cj3 (by assumption)) | exact Nat.ne_of_lt (cj3 (by assumption)) | exact Nat.ne_of_gt (cj4 (by assumption)) | exact Nat.ne_of_lt (cj4 (by assumption)) | exact Nat.ne_of_gt (cj5 (by assumption)) | exact Nat.ne_of_lt (cj5 (by assumption)) | exact Nat.ne_of_gt (cj6 (by assumption)) | exact Nat.ne_of_lt (cj6 (by assumption)) | exact Nat.ne_of_gt (cj7 (by assumption)) | exact Nat.ne_of_lt (cj7 (by assumption)) | exact Nat.ne_of_gt (cj8 (by assumption)) | exact Nat.ne_of_lt (cj8 (by assumption)) | exact Nat.ne_of_gt (cj9 (by assumption)) | exact Nat.ne_of_lt (cj9 (by assumption)) | exact Nat.ne_of_gt (cl2 (by assumption)) | exact Nat.ne_of_lt (cl2 (by assumption)) | exact Nat.ne_of_gt (cl3 (by assumption)) | exact Nat.ne_of_lt (cl3 (by assumption)) | exact Nat.ne_of_gt (cl4 (by assumption)) | exact Nat.ne_of_lt (cl4 (by assumption)) | exact Nat.ne_of_gt (cl5 (by assumption)) | exact Nat.ne_of_lt (cl5 (by assumption)) | exact Nat.ne_of_gt (cl6 (by assumption)) | exact Nat.ne_of_lt (cl6 (by assumption)) | exact Nat.ne_of_gt (cl7 (by assumption)) | exact Nat.ne_of_lt (cl7 (by assumption)) | exact Nat.ne_of_gt (cl8 (by assumption)) | exact Nat.ne_of_lt (cl8 (by assumption)) | exact Nat.ne_of_gt (cl9 (by assumption)) | exact Nat.ne_of_lt (cl9 (by assumption)) | (refine neN ?_; (try dsimp only); omega))
  k_with "sub" => (first | (intro p9 h9; k_ownIn) | exact List.forall_mem_nil _ | (refine List.forall_mem_cons.mpr ⟨by k_memK, ?_⟩; walk_at "sub"))
  k_with "conj" => (repeat (rename _ ∧ _ => hc9; obtain ⟨_, _⟩ := hc9))
  k_with "enterC" => ((k_dflt (refine' codeG_def ?k1 ?k2 ?k3 ?k4 ?k5 ?kA ?kF ?kK ?k6 ?k7 ?k8 ?k9 ?kB ?_ ?c2 ?c3 ?c4 ?c5; (case kA => exact rfl); (case kF => exact rfl); (case kK => assumption); (case k1 => k_asm); (case k2 => k_asm); (case k3 => k_asm); (case k4 => k_asm); (case k5 => k_asm); (case k6 => k_is); (case k7 => k_is); (case k8 => ktr_room); (case k9 => exact BindsTo.of_eq rfl); (case c5 => decide); (case kB => exact locs rfl); (case c2 => exact rfl); (case c3 => exact rfl); (case c4 => exact rfl); intro g' L' h' FG' F' N' B' X' T'; (try dsimp only))))
  refine apt2 hne fun hd1 => ?_
  unfold CtGC
  k_fill
  intro ks dp un gd cn cs a ccd cl outer A₀ base h₀ L m s RR mean mg mb hks htight B F X N T hk hd hu hret
  walk_at "enterC"
  refine wpG_execs_any ?_
  k_steps
  dsimp only [NextG]
  refine wpG_execs_any ?_
  k_steps
  dsimp only [NextG]
  refine wpG_execs_any ?_
  k_steps
  dsimp only [NextG]
  refine wpG_execs_cons (wpG_Assign_Attr (wpG_CallName ?_))
  k_steps
  refine wpG_callWith (P := fun _ => True) rfl (fun _ _ => ⟨.machine, .inr rfl, Looks.of_pure rfl⟩) (evalArgs_nil3 ⟨trivial, rfl, ?_⟩)
  (rename News _ _ _ _ => lN)
  k_dflt (refine ba_makeN (by k_asm) lN hks rfl (tight3 htight) ?_)
  intro fb h5 F5 N5 l5
  refine lts2 l5 fun l51 l52 l53 => ?_
  clear l5
  dsimp only [List.append_nil]
  have l54 := allLt_ne l53
  k_steps
  dsimp only [NextG]
  refine wpG_execs_nil ?_
  k_steps
  (rename News _ _ _ _ => lN)
  (rename Fr _ _ _ _ => lF)
  k_dflt (have lM := Mine.News.sub (l' := (x, instObj 273 dx) :: (dx, _) :: (fb, baOf []) :: rest) lN (by walk_at "sub"))
  exact hret _ _ _ _ _ _ _ _ _ _ _ fb l51 l52 l53 _ _ lF lM
theorem CtGC.use {w : World} {f : Addr} {vs : List Value} {news : List (Addr × Obj)} {dn un0 : Nat} {R : (Value → List (Addr × Obj) → Prop) → Prop} {ks : List Code}
    {dp un : Nat} {gd : Option (List Code)} {cn : Str} {cs : Scope} {a : Addr} {ccd : Value} {cl : List (Str × Addr)} {outer : List Env} {A₀ : Around} {base h₀ : Heap} {L : Addr} {m : Str → Option Value} {s : Shared} {RR : Result → Shared → Prop} {mean : ExcName → Option Value} {mg mb : Str → Option Value}
    (hks : Calm ks) (htight : un ≤ 3 * (outer.length + 1) + extras ks)
    (B : Below A₀ base outer h₀) (F : Fr h₀ L s.heap m) (X : (Mine.Lit.lt.heap_1 w.params).In h₀) (N : News h₀ L s.heap news) (T : Top Mine.Lit.lt.view_1 (looseW Mine.Lit.lt.view_1 []) mean mg mb h₀) (hk : cs.kind = .function)
    (C : CtGC w f vs news dn un0 R) (hd : dp + dn < recursionLimit) (hu : un + un0 < cLine)
    (ret : R fun v news' => ∀ h' tk, Fr h₀ L h' m → News h₀ L h' news' → RR (.ok (.ret v)) { s with heap := h', toks := tk }) :
    codeG ks (model PySem.Challenge.rw_nt0555_01.row.prog w) (ktrTop dp un gd cn cs L a ccd cl outer) (.call (.ref f) ⟨vs, []⟩) RR s :=
  C ks dp un gd cn cs a ccd cl outer A₀ base h₀ L m s RR mean mg mb hks htight B F X N T hk hd hu ret
end Mine
end
section
open PySem PySem.Calls PySem.W PyProof.Rows
set_option Elab.async false
set_option maxRecDepth 100000
set_option maxHeartbeats 8000000
namespace Mine
local macro_rules | `(tactic| walk_at $s:str) => `(tactic| k_extra $s)
local macro_rules | `(tactic| k_ne) => `(tactic| walk_at "ne")

local macro_rules | `(tactic| k_room) => `(tactic| ktr_room)
theorem sameB (w : World) {bx bd sl nl : Addr} {f0 f1 : Int} {j0 j1 : Tok} {rest : List (Addr × Obj)} {us vs : List Value} {ss ns : List Int} {n1 n2 : Nat}
    (hne : Apt [bx, bd, sl, nl]) (hu1 : IntsAre us ss) (hv1 : IntsAre vs ns) (ls : ss.length = 3) (ln : ns.length = 3) :
    Ct w 305 [.ref bx] ((bx, instObj 154 bd) :: (bd, binD f0 f1 j0 j1 sl nl) :: (sl, listOf us.toArray n1) :: (nl, listOf vs.toArray n2) :: rest) 8 64
      (fun K => ∀ tx td tsl tnl g0 g1 i0 i1 q1 q2, @LT.lt Nat _ bx td → @LT.lt Nat _ bd td → @LT.lt Nat _ sl td → @LT.lt Nat _ nl td → AllLt td rest → @LT.lt Nat _ td tx → @LT.lt Nat _ tx tsl → @LT.lt Nat _ tsl tnl →
        K (.ref tx) ((tx, instObj 154 td) :: (td, binD g0 g1 i0 i1 tsl tnl) :: (tsl, listOf us.toArray q1) :: (tnl, listOf vs.toArray q2) :: (bx, instObj 154 bd) :: (bd, binD f0 f1 j0 j1 sl nl) :: (sl, listOf us.toArray n1) :: (nl, listOf vs.toArray n2) :: rest)) := by
  k_with_none
  k_with "ne" => (first | exact Dif.ne (by assumption) | exact Dif.ne' (by assumption) | exact Nat.ne_of_lt (by assumption) | exact Nat.ne_of_gt (by assumption) | exact Nat.ne_of_gt (cj1 (by assumption)) | exact Nat.ne_of_lt (cj1 (by assumption)) | exact Nat.ne_of_gt (cj2 (by assumption)) | exact Nat.ne_of_lt (cj2 (by assumption)) | exact Nat.ne_of_gt (cj3 (by assumption)) | exact Nat.ne_of_lt (cj3 (by assumption)) | exact Nat.ne_of_gt (cj4 (by assumption)) | exact Nat.ne_of_lt (cj4 (by assumption)) | exact Nat.ne_of_gt (cj5 (by assumption)) | exact Nat.ne_of_lt (cj5 (by assumption)) | exact Nat.ne_of_gt (cj6 (by assumption)) | exact Nat.ne_of_lt (cj6 (by assumption)) | exact Nat.ne_of_gt (cj7 (by assumption)) | exact Nat.ne_of_lt (cj7 (by assumption)) | exact Nat.ne_of_gt (cj8 (by assumption)) | exact Nat.ne_of_lt (cj8 (by assumption)) | exact Nat.ne_of_gt (cj9 (by assumption)) | exact Nat.ne_of_lt (cj9 (by assumption)) | exact Nat.ne_of_gt (cl2 (by assumption)) | exact Nat.ne_of_lt (cl2 (by assumption)) | exact Nat.ne_of_gt (cl3 (by assumption)) | exact Nat.ne_of_lt (cl3 (by assumption)) | exact Nat.ne_of_gt (cl4 (by assumption)) | exact Nat.ne_of_lt (cl4 (by assumption)) | exact Nat.ne_of_gt (cl5 (by assumption)) | exact Nat.ne_of_lt (cl5 (by assumption)) | exact Nat.ne_of_gt (cl6 (by assumption)) | exact Nat.ne_of_lt (cl6 (by assumption)) | exact Nat.ne_of_gt (cl7 (by assumption)) | exact Nat.ne_of_lt (cl7 (by assumption)) | exact Nat.ne_of_gt (cl8 (by assumption)) | exact Nat.ne_of_lt (cl8 (by assumption)) | exact Nat.ne_of_gt (cl9 (by assumption)) | exact Nat.ne_of_lt (cl9 (by assumption)) | (refine neN ?_; (try dsimp only); omega))
  k_with "apt" => (repeat' (first | exact trivial | assumption | exact Dif.symm (by assumption) | exact Dif.mk (by walk_at "ne") | apply And.intro))
  k_with "sub" => (first | (intro p9 h9; k_ownIn) | exact List.forall_mem_nil _ | (refine List.forall_mem_cons.mpr ⟨by k_memK, ?_⟩; walk_at "sub"))
  k_with "conj" => (repeat (rename _ ∧ _ => hc9; obtain ⟨_, _⟩ := hc9))
  refine apt4 hne fun d01 d02 d03 d12 d13 d23 => ?_
  obtain ⟨a1, a2, a3, rfl⟩ : ∃ a b c, ss = [a, b, c] := by
    match ss, ls with
    | [a, b, c], _ => exact ⟨a, b, c, rfl⟩
  unfold Ct
  k_fill
  intro dp un gd cn cs a ccd cl outer A₀ base h₀ L m s Q E mean mg mb B F X N T hk hd hu hret
  refine wpAny_call ?_
  k_dflt ktr_enter
  k_steps
  (rename News _ _ _ _ => lN)
  k_dflt (have lM := Mine.News.sub (l' := (_, instObj 154 _) :: (_, binD _ _ _ _ _ _) :: (_, listOf us.toArray _) :: (_, listOf vs.toArray _) :: (bx, instObj 154 bd) :: (bd, binD f0 f1 j0 j1 sl nl) :: (sl, listOf us.toArray n1) :: (nl, listOf vs.toArray n2) :: rest) lN (by walk_at "sub"))
  refine hret _ _ _ _ _ _ _ _ _ _ ?_ ?_ ?_ ?_ ?_ ?_ ?_ ?_ _ _ (by assumption) lM
  all_goals (clear hret; walk_at "conj"; first | assumption | omega)
end Mine
end
section
open PySem PySem.Calls PySem.W PyProof.Rows
set_option Elab.async false
set_option maxRecDepth 100000
set_option maxHeartbeats 8000000
namespace Mine
local macro_rules | `(tactic| walk_at $s:str) => `(tactic| k_extra $s)
local macro_rules | `(tactic| k_ne) => `(tactic| walk_at "ne")
local macro_rules | `(tactic| k_room) => `(tactic| ktr_room)
local macro_rules | `(tactic| k_all) => `(tactic| walk_at "all")
theorem bins_ret {P : Prop} {h₀ h : Heap} {L : Addr} {news tl : List (Addr × Obj)} {bx bd sl nl : Addr} {f0 f1 : Int} {j0 j1 : Tok} {us vs : List Value} {q1 q2 : Nat} (N : News h₀ L h news) (h1 : (bx, instObj 154 bd) ∈ news) (h2 : (bd, binD f0 f1 j0 j1 sl nl) ∈ news)
    (h3 : (sl, listOf us.toArray q1) ∈ news) (h4 : (nl, listOf vs.toArray q2) ∈ news) (h5 : ∀ p ∈ tl, p ∈ news)
    (k : News h₀ L h ((bx, instObj 154 bd) :: (bd, binD f0 f1 j0 j1 sl nl) :: (sl, listOf us.toArray q1) :: (nl, listOf vs.toArray q2) :: tl) → P) : P :=
  k (Mine.News.sub N (List.forall_mem_cons.mpr ⟨h1, List.forall_mem_cons.mpr ⟨h2, List.forall_mem_cons.mpr ⟨h3, List.forall_mem_cons.mpr ⟨h4, h5⟩⟩⟩⟩))
theorem menu_bd {r : Int} (h0 : 0 ≤ r) (h1 : r < 5) : 0 ≤ ([0, 0, 13, 45, 112] : List Int).getD r.toNat 0 ∧ ([0, 0, 13, 45, 112] : List Int).getD r.toNat 0 < 114 := by
  have : r = 0 ∨ r = 1 ∨ r = 2 ∨ r = 3 ∨ r = 4 := by omega
  rcases this with rfl | rfl | rfl | rfl | rfl <;> decide
theorem binsL (w : World) {src : Addr} {d m : Int} {td tm : Tok} {n : Nat} {rest : List (Addr × Obj)} (off : OwnOff rest [src]) (m0 : 0 ≤ m) (m1 : m < 2147483647) :
    Ct w 298 [.ref src] ((src, srcO d td m tm n) :: rest) 8 64
      (fun K => ∀ bx bd sl nl f0 f1 j0 j1 us vs ss ns q1 q2 d' td' m' tm',
        IntsAre us ss → IntsAre vs ns → ss.length = 3 → ns.length = 3 → (∀ x ∈ ss, 0 ≤ x ∧ x < 114) → (∀ x ∈ ns, 0 ≤ x ∧ x < 2) → 0 ≤ m' → m' < 2147483647 →
        @LT.lt Nat _ src bd → AllLt bd rest → @LT.lt Nat _ bd bx → @LT.lt Nat _ bx sl → @LT.lt Nat _ sl nl → K (.ref bx) ((bx, instObj 154 bd) :: (bd, binD f0 f1 j0 j1 sl nl) :: (sl, listOf us.toArray q1) :: (nl, listOf vs.toArray q2) :: (src, srcO d' td' m' tm' n) :: rest)) := by
  k_with_none
  k_with "all" => (first | exact allLt_ne (by assumption) | exact allLt_ne (cl2 (by assumption)) | exact allLt_ne (cl3 (by assumption)) | exact allLt_ne (cl4 (by assumption)) | exact allLt_ne (cl5 (by assumption)) | exact allLt_ne (cl6 (by assumption)) | exact allLt_ne (cl7 (by assumption)) | exact allLt_ne (cl8 (by assumption)) | exact allLt_ne (cl9 (by assumption)))
  k_with "ne" => (first | exact Dif.ne (by assumption) | exact Dif.ne' (by assumption) | exact Nat.ne_of_lt (by assumption) | exact Nat.ne_of_gt (by assumption) | exact Nat.ne_of_gt (cj1 (by assumption)) | exact Nat.ne_of_lt (cj1 (by assumption)) | exact Nat.ne_of_gt (cj2 (by assumption)) | exact Nat.ne_of_lt (cj2 (by assumption)) | exact Nat.ne_of_gt (cj3 (by assumption)) | exact Nat.ne_of_lt (cj3 (by assumption)) | exact Nat.ne_of_gt (cj4 (by assumption)) | exact Nat.ne_of_lt (cj4 (by assumption)) | exact Nat.ne_of_gt (cj5 (by assumption)) | exact Nat.ne_of_lt (cj5 (by assumption)) | exact Nat.ne_of_gt (cj6 (by assumption)) | exact Nat.ne_of_lt (cj6 (by assumption)) | exact Nat.ne_of_gt (cj7 (by assumption)) | exact Nat.ne_of_lt (cj7 (by assumption)) | exact Nat.ne_of_gt (cj8 (by assumption)) | exact Nat.ne_of_lt (cj8 (by assumption)) | exact Nat.ne_of_gt (cj9 (by assumption)) | exact Nat.ne_of_lt (cj9 (by assumption)) | exact Nat.ne_of_gt (cl2 (by assumption)) | exact Nat.ne_of_lt (cl2 (by assumption)) | exact Nat.ne_of_gt (cl3 (by assumption)) | exact Nat.ne_of_lt (cl3 (by assumption)) | exact Nat.ne_of_gt (cl4 (by assumption)) | exact Nat.ne_of_lt (cl4 (by assumption)) | exact Nat.ne_of_gt (cl5 (by assumption)) | exact Nat.ne_of_lt (cl5 (by assumption)) | exact Nat.ne_of_gt (cl6 (by assumption)) | exact Nat.ne_of_lt (cl6 (by assumption)) | exact Nat.ne_of_gt (cl7 (by assumption)) | exact Nat.ne_of_lt (cl7 (by assumption)) | exact Nat.ne_of_gt (cl8 (by assumption)) | exact Nat.ne_of_lt (cl8 (by assumption)) | exact Nat.ne_of_gt (cl9 (by assumption)) | exact Nat.ne_of_lt (cl9 (by assumption)) | (refine neN ?_; (try dsimp only); omega))
  k_with "apt" => (repeat' (first | exact trivial | assumption | exact Dif.symm (by assumption) | exact Dif.mk (by walk_at "ne") | apply And.intro))
  k_with "sub" => (first | (intro p9 h9; k_ownIn) | exact List.forall_mem_nil _ | (refine List.forall_mem_cons.mpr ⟨by k_memK, ?_⟩; walk_at "sub"))
  k_with "conj" => (repeat (rename _ ∧ _ => hc9; obtain ⟨_, _⟩ := hc9))
  k_with "del" => (first | (refine' Del.head ?da; (case da => k_all)) | (refine' Del.tail ?da ?db; (case da => k_ne); (case db => walk_at "del")))
  k_with "UnrEnd" => (((rename Fr _ _ _ _ => lF); (rename News _ _ _ _ => lN); k_dflt (refine' UnrEnd.del lF lN ?kD ?_; (case kD => walk_at "del"))))
  unfold Ct
  k_fill
  intro dp un gd cn cs a ccd cl outer A₀ base h₀ L m s Q E mean mg mb B F X N T hk hd hu hret
  refine wpAny_call ?_
  k_dflt ktr_enter
  k_with "call ref" => ((with_reducible show wpAny _ _ (call (Value.ref 291) _) _ _ _); k_dflt (refine' take_use ?B ?F ?X ?N ?T ?K ?U ?h1 ?h2 ?m0 ?m1 ?hd ?hu ?_; (case B => k_asm); (case F => k_asm); (case X => k_asm); (case N => k_asm); (case T => k_asm); (case K => exact rfl); (case U => k_updF); (case h1 => decide); (case h2 => decide); (case m0 => omega); (case m1 => omega); (case hd => exact rm2 hd (by decide)); (case hu => exact rm2 hu (by decide))); intro r9 tr9 d9 td9 m9 tm9 h9 tk9 r90 r91 m90 m91 F9 N9)
  k_steps
  (rename News _ _ _ _ => lN)
  (rename Fr _ _ _ _ => lF)
  refine' bins_ret (tl := (src, srcO _ _ _ _ n) :: rest) lN ?h1 ?h2 ?h3 ?h4 ?h5 ?k
  case h1 => k_memK
  case h2 => k_memK
  case h3 => k_memK
  case h4 => k_memK
  case h5 => walk_at "sub"
  intro lM
  refine hret _ _ _ _ _ _ _ _ _ _ _ _ _ _ _ _ _ _ (by assumption) (by assumption) rfl rfl ?_ ?_ (by assumption) (by assumption) ?_ ?_ ?_ ?_ ?_ _ _ lF lM
  · intro x hx
    simp at hx
    rcases hx with rfl | rfl | rfl
    · exact menu_bd (by assumption) (by assumption)
    · exact menu_bd (by assumption) (by assumption)
    · decide
  · intro x hx
    simp at hx
    rcases hx with rfl | rfl | rfl
    · constructor <;> assumption
    · constructor <;> assumption
    · decide
  all_goals (clear hret; walk_at "conj"; first | assumption | omega)
end Mine
end
section
open PySem PySem.Calls PySem.W PyProof.Rows
set_option Elab.async false
set_option maxRecDepth 100000
set_option maxHeartbeats 8000000
namespace Mine
local macro_rules | `(tactic| walk_at $s:str) => `(tactic| k_extra $s)
local macro_rules | `(tactic| k_ne) => `(tactic| walk_at "ne")
local macro_rules | `(tactic| k_room) => `(tactic| ktr_room)
local macro_rules | `(tactic| k_all) => `(tactic| walk_at "all")
theorem decL (w : World) {src : Addr} {d m : Int} {td tm : Tok} {n : Nat} {rest : List (Addr × Obj)} (off : OwnOff rest [src]) (m0 : 0 ≤ m) (m1 : m < 2147483647) :
    Ct w 312 [.ref src] ((src, srcO d td m tm n) :: rest) 8 64
      (fun K => ∀ rl refs tups decs q dd td mm tm, RowIs tups refs decs → decs.length ≤ 30 → DecOk decs → 0 ≤ mm → mm < 2147483647 →
        AllGt rl tups → @LT.lt Nat _ src rl → AllLt rl rest → K (.ref rl) ((src, srcO dd td mm tm n) :: (rl, listOf refs.toArray q) :: (tups ++ rest))) := by
  k_with_none
  k_with "all" => (first | exact allLt_ne (by assumption) | exact allLt_ne (cl2 (by assumption)) | exact allLt_ne (cl3 (by assumption)) | exact allLt_ne (cl4 (by assumption)) | exact allLt_ne (cl5 (by assumption)) | exact allLt_ne (cl6 (by assumption)) | exact allLt_ne (cl7 (by assumption)) | exact allLt_ne (cl8 (by assumption)) | exact allLt_ne (cl9 (by assumption)))
  k_with "ne" => (first | exact Dif.ne (by assumption) | exact Dif.ne' (by assumption) | exact Nat.ne_of_lt (by assumption) | exact Nat.ne_of_gt (by assumption) | exact Nat.ne_of_gt (cj1 (by assumption)) | exact Nat.ne_of_lt (cj1 (by assumption)) | exact Nat.ne_of_gt (cj2 (by assumption)) | exact Nat.ne_of_lt (cj2 (by assumption)) | exact Nat.ne_of_gt (cj3 (by assumption)) | exact Nat.ne_of_lt (cj3 (by assumption)) | exact Nat.ne_of_gt (cj4 (by assumption)) | exact Nat.ne_of_lt (cj4 (by assumption)) | exact Nat.ne_of_gt (cj5 (by assumption)) | exact Nat.ne_of_lt (cj5 (by assumption)) | exact Nat.ne_of_gt (cj6 (by assumption)) | exact Nat.ne_of_lt (cj6 (by assumption)) | exact Nat.ne_of_gt (cj7 (by assumption)) | exact Nat.ne_of_lt (cj7 (by assumption)) | exact Nat.ne_of_gt (cj8 (by assumption)) | exact Nat.ne_of_lt (cj8 (by assumption)) | exact Nat.ne_of_gt (cj9 (by assumption)) | exact Nat.ne_of_lt (cj9 (by assumption)) | exact Nat.ne_of_gt (cl2 (by assumption)) | exact Nat.ne_of_lt (cl2 (by assumption)) | exact Nat.ne_of_gt (cl3 (by assumption)) | exact Nat.ne_of_lt (cl3 (by assumption)) | exact Nat.ne_of_gt (cl4 (by assumption)) | exact Nat.ne_of_lt (cl4 (by assumption)) | exact Nat.ne_of_gt (cl5 (by assumption)) | exact Nat.ne_of_lt (cl5 (by assumption)) | exact Nat.ne_of_gt (cl6 (by assumption)) | exact Nat.ne_of_lt (cl6 (by assumption)) | exact Nat.ne_of_gt (cl7 (by assumption)) | exact Nat.ne_of_lt (cl7 (by assumption)) | exact Nat.ne_of_gt (cl8 (by assumption)) | exact Nat.ne_of_lt (cl8 (by assumption)) | exact Nat.ne_of_gt (cl9 (by assumption)) | exact Nat.ne_of_lt (cl9 (by assumption)) | (refine neN ?_; (try dsimp only); omega))
  k_with "apt" => (repeat' (first | exact trivial | assumption | exact Dif.symm (by assumption) | exact Dif.mk (by walk_at "ne") | apply And.intro))
  k_with "sub" => (first | (intro p9 h9; k_ownIn) | exact List.forall_mem_nil _ | (refine List.forall_mem_cons.mpr ⟨by k_memK, ?_⟩; walk_at "sub"))
  k_with "conj" => (repeat (rename _ ∧ _ => hc9; obtain ⟨_, _⟩ := hc9))
  k_with "call builtin:list.append" => ((k_here; (with_reducible show wpAny _ _ (call (Value.builtin _) [Value.ref _, _]) _ _ _); k_dflt (refine' append_L ?k1 ?k2 ?k3 ?_ ?z; (case k1 => k_asm); (case k2 => k_asm); (case k3 => k_upd); (case z => omega); k_whole); intro h' F' N'))
  unfold Ct
  k_fill
  intro dp un gd cn cs a ccd cl outer A₀ base h₀ L m s Q E mean mg mb B F X N T hk hd hu hret
  refine wpAny_call ?_
  k_dflt ktr_enter
  k_with "call ref" => ((with_reducible show wpAny _ _ (call (Value.ref 291) _) _ _ _); k_dflt (refine' take_use ?B ?F ?X ?N ?T ?K ?U ?h1 ?h2 ?m0 ?m1 ?hd ?hu ?_; (case B => k_asm); (case F => k_asm); (case X => k_asm); (case N => k_asm); (case T => k_asm); (case K => exact rfl); (case U => k_updF); (case h1 => decide); (case h2 => decide); (case m0 => omega); (case m1 => omega); (case hd => exact rm2 hd (by decide)); (case hu => exact rm2 hu (by decide))); intro r9 tr9 d9 td9 m9 tm9 h9 tk9 r90 r91 m90 m91 F9 N9)
  k_with "pyIter ref" => (
    (rename Fr _ _ _ _ => lF)
    (rename News _ _ _ _ => lN)
    (rename IsRange _ _ _ _ _ _ _ _ => lR)
    (rename _ ∧ _ ∧ AllLt _ rest => l9)
    k_dflt (refine row_loop (rest := rest) (k := Int.toNat _) rfl lR (Int.toNat_of_nonneg (by assumption)).symm (by omega) lF lN (by k_memK) (by k_memK) (by walk_at "sub") l9.2.1 l9.2.2 off (by assumption) (by assumption) ?_ ?_)
    rotate_left
    rintro ut ub refs tups decs q dd td' mm tm' h8 tk8 j1 j2 j3 j4 j5 j6 F8 N8
    rotate_left
    rintro i t ut ub refs tups decs q dd td' mm tm' h8 tk8 I it hi j1 j2 j3 j4 j5 j6 j7 j8 j9 F8 N8
    have j10 := j1.1)
  k_steps
  rotate_right
  · (rename Fr _ _ _ _ => lF)
    (rename News _ _ _ _ => lN)
    have j11 : decs.length ≤ 30 := by rw [j2]; omega
    exact hret _ refs tups decs q dd td' mm tm' j1 j11 j3 j4 j5 j6 l9.2.1 l9.2.2 _ _ lF lN
  all_goals (
    (rename Fr _ _ _ _ => lF)
    (rename News _ _ _ _ => lN)
    refine' row_turn (tups := tups) lF lN ?hM ?n0 ?n1 ?n2 ?n3 ?n4 ?hD ?hDI j8 j9 j7 j1 j2 j3 ?m0 ?m1 j6 ?ha ?hb
    case hM => (intro z h1 h2; repeat (first | refine (if_neg h1).trans ?_ | refine (if_neg h2).trans ?_ | exact rfl))
    case n0 => k_memK
    case n1 => k_memK
    case n2 => k_memK
    case n3 => k_memK
    case n4 => walk_at "sub"
    case hD => omega
    case hDI => (refine neN ?_; omega)
    case m0 => assumption
    case m1 => assumption
    case ha => (constructor <;> assumption)
    case hb => (constructor <;> assumption))
end Mine
end
section
open PySem PySem.Calls PySem.W PyProof.Rows
set_option Elab.async false
set_option maxRecDepth 100000
set_option maxHeartbeats 8000000
namespace Mine
local macro_rules | `(tactic| walk_at $s:str) => `(tactic| k_extra $s)
local macro_rules | `(tactic| k_ne) => `(tactic| walk_at "ne")
local macro_rules | `(tactic| k_room) => `(tactic| ktr_room)
theorem poolL (w : World) {sa : Addr} {vs : List Value} {ns : List Int} {rest : List (Addr × Obj)} (hi : IntsAre vs ns) (hlay : ∀ x ∈ ns, Builtin.Int.intBits x ≤ 1048576) (hlen : ns.length ≤ 63)
    (dp un : Nat) (gd : Option (List Code)) (cn : Str) (cs : Scope) (a : Addr) (ccd : Value) (cl : List (Str × Addr)) (outer : List Env) (A₀ : Around) (base h₀ : Heap) (L : Addr) (m : Str → Option Value) (s : Shared) (Q E : Value → Shared → Prop) (mean : ExcName → Option Value) (mg mb : Str → Option Value)
    (hl : h₀.IsList sa vs.toArray) (B : Below A₀ base outer h₀) (F : Fr h₀ L s.heap m) (X : (Mine.Lit.lt.heap_1 w.params).In h₀) (N : News h₀ L s.heap rest) (T : Top Mine.Lit.lt.view_1 (looseW Mine.Lit.lt.view_1 []) mean mg mb h₀) (hk : cs.kind = .function) (hd : dp + 8 < recursionLimit) (hu : un + 64 < cLine)
    (hret : ∀ sl d td m₁ tm q h' tk, 0 ≤ m₁ → m₁ < 2147483647 → AllLt sl rest → Fr h₀ L h' m → News h₀ L h' ((sl, srcO d td m₁ tm q) :: rest) → Q (.ref sl) { s with heap := h', toks := tk }) :
    wpAny (model PySem.Challenge.rw_nt0555_01.row.prog w) (ktrTop dp un gd cn cs L a ccd cl outer) (call (.ref 284) [.ref sa]) Q E s := by
  k_with_none
  k_with "ne" => (first | exact Dif.ne (by assumption) | exact Dif.ne' (by assumption) | exact Nat.ne_of_lt (by assumption) | exact Nat.ne_of_gt (by assumption) | exact Nat.ne_of_gt (cj1 (by assumption)) | exact Nat.ne_of_lt (cj1 (by assumption)) | exact Nat.ne_of_gt (cj2 (by assumption)) | exact Nat.ne_of_lt (cj2 (by assumption)) | exact Nat.ne_of_gt (cj3 (by assumption)) | exact Nat.ne_of_lt (cj3 (by assumption)) | exact Nat.ne_of_gt (cj4 (by assumption)) | exact Nat.ne_of_lt (cj4 (by assumption)) | exact Nat.ne_of_gt (cj5 (by assumption)) | exact Nat.ne_of_lt (cj5 (by assumption)) | exact Nat.ne_of_gt (cj6 (by assumption)) | exact Nat.ne_of_lt (cj6 (by assumption)) | exact Nat.ne_of_gt (cj7 (by assumption)) | exact Nat.ne_of_lt (cj7 (by assumption)) | exact Nat.ne_of_gt (cj8 (by assumption)) | exact Nat.ne_of_lt (cj8 (by assumption)) | exact Nat.ne_of_gt (cj9 (by assumption)) | exact Nat.ne_of_lt (cj9 (by assumption)) | exact Nat.ne_of_gt (cl2 (by assumption)) | exact Nat.ne_of_lt (cl2 (by assumption)) | exact Nat.ne_of_gt (cl3 (by assumption)) | exact Nat.ne_of_lt (cl3 (by assumption)) | exact Nat.ne_of_gt (cl4 (by assumption)) | exact Nat.ne_of_lt (cl4 (by assumption)) | exact Nat.ne_of_gt (cl5 (by assumption)) | exact Nat.ne_of_lt (cl5 (by assumption)) | exact Nat.ne_of_gt (cl6 (by assumption)) | exact Nat.ne_of_lt (cl6 (by assumption)) | exact Nat.ne_of_gt (cl7 (by assumption)) | exact Nat.ne_of_lt (cl7 (by assumption)) | exact Nat.ne_of_gt (cl8 (by assumption)) | exact Nat.ne_of_lt (cl8 (by assumption)) | exact Nat.ne_of_gt (cl9 (by assumption)) | exact Nat.ne_of_lt (cl9 (by assumption)) | (refine neN ?_; (try dsimp only); omega))
  k_with "sub" => (first | (intro p9 h9; k_ownIn) | exact List.forall_mem_nil _ | (refine List.forall_mem_cons.mpr ⟨by k_memK, ?_⟩; walk_at "sub"))
  k_with "conj" => (repeat (rename _ ∧ _ => hc9; obtain ⟨_, _⟩ := hc9))
  revert X
  k_fill
  intro X
  refine wpAny_call ?_
  k_dflt ktr_enter
  (rename Fr h₀ L _ m => lG)
  k_dflt (have hl' := hl.at fun o e => lG.keep sa o e)
  k_with "pyIter ref" => (
    (rename Fr _ _ _ _ => lF)
    (rename News _ _ _ _ => lN)
    k_dflt (refine pool_loop_cps rfl hl' hi lF lN rfl rfl ?_ ?_)
    rotate_left
    rintro dg t1 mx t2 us un h8 tk8 j1 j2 F8 N8
    rotate_left
    intro i n t dg t1 mx t2 us un h8 tk8 own W hn hin j1 j2 j3 wnext F8 N8
    have j4 := hlay n hn
    have j5 := bits_neg j4)
  k_with "binaryOp Mult int int" => (k_dflt (first | (refine mul_by (by decide) ?_; intro _ _) | (refine mul_int ?_ (mul_ok (by assumption) (by first | assumption | exact Nat.le_succ_of_le (by assumption)) (by omega)))))
  k_steps
  rotate_right
  · (rename Fr _ _ _ _ => lF)
    (rename News _ _ _ _ => lN)
    (rename _ ∧ AllLt _ rest => l9)
    k_dflt (have lM := Mine.News.sub (l' := (_, srcO dg t1 mx t2 _) :: rest) lN (by walk_at "sub"))
    exact hret _ _ _ _ _ _ _ _ j1 j2 l9.2 lF lM
  all_goals (
    (rename Fr _ _ _ _ => lF)
    (rename News _ _ _ _ => lN)
    refine' wnext _ _ _ _ _ _ _ _ lF lN (fun p hp => hp) rfl rfl ?hM ?hb ?hm
    case hM => (intro z h1 h2 h3 h4; simp only [if_neg h1, if_neg h2, if_neg h3, if_neg h4])
    case hb => (first | exact bits_step j1 j5 | exact bits_step j1 (Nat.le_succ_of_le j4) | exact bits_keep j1)
    case hm => exact fmod_bd _ (by decide))
end Mine
end
section
open PySem PySem.Spec PySem.Calls PySem.W PyProof.Rows
open Sem (wp)
set_option Elab.async false
set_option maxRecDepth 100000
namespace Mine
abbrev pairO (p1 p2 : Addr) : Obj := { cls := .type "tuple", data := .seq #[.ref p1, .ref p2] }
/-- the states behind the decisions so far -/
def StIs (T : Int → Nat → Int) (σ₀ : St) (decs : List (Int × Int)) (extra : List (Addr × Obj)) (strefs : List Value) (i : Nat) : Prop :=
  strefs.length = i ∧ ∀ k, k < i → ∃ a p1 p2 us vs c1 c2, strefs[k]? = some (Value.ref a) ∧ (a, pairO p1 p2) ∈ extra ∧ (p1, listOf (List.toArray us) c1) ∈ extra ∧ (p2, listOf (List.toArray vs) c2) ∈ extra ∧
    IntsAre us (encs T σ₀ decs (k + 1)).ss ∧ IntsAre vs (encs T σ₀ decs (k + 1)).ns
section
variable {T : Int → Nat → Int} {σ₀ : St} {decs : List (Int × Int)}
theorem StIs.nil {extra : List (Addr × Obj)} : StIs T σ₀ decs extra [] 0 := ⟨rfl, fun k h => absurd h (Nat.not_lt_zero k)⟩
theorem StIs.snoc {extra : List (Addr × Obj)} {strefs : List Value} {i : Nat} (h : StIs T σ₀ decs extra strefs i) (a p1 p2 : Addr) {us vs : List Value} {c1 c2 : Nat} (h1 : IntsAre us (encs T σ₀ decs (i + 1)).ss) (h2 : IntsAre vs (encs T σ₀ decs (i + 1)).ns) :
    StIs T σ₀ decs ((a, pairO p1 p2) :: (p1, listOf us.toArray c1) :: (p2, listOf vs.toArray c2) :: extra) (strefs ++ [Value.ref a]) (i + 1) := by
  refine ⟨by simp [h.1], fun k hk => ?_⟩
  by_cases hk' : k < i
  · obtain ⟨a', q1, q2, us', vs', d1, d2, e1, e2, e3, e4, e5, e6⟩ := h.2 k hk'
    exact ⟨a', q1, q2, us', vs', d1, d2, by rw [List.getElem?_append_left (by rw [h.1]; exact hk')]; exact e1, .tail _ (.tail _ (.tail _ e2)), .tail _ (.tail _ (.tail _ e3)), .tail _ (.tail _ (.tail _ e4)), e5, e6⟩
  · have : k = i := by omega
    subst this
    exact ⟨a, p1, p2, us, vs, c1, c2, by rw [← h.1]; simp, .head _, .tail _ (.head _), .tail _ (.tail _ (.head _)), h1, h2⟩
end
/-- the addresses and tokens that stay in the writing loop -/
structure LA where
  (y dy fb tx td tsl tnl stl rl : Nat)
  (e0 e1 e2 e3 : Int)
  (k0 k1 k2 k3 : Tok)
  (g0 g1 : Int)
  (i0 i1 : Tok)
  (q4 q5 q3 : Nat)
abbrev LA.led (a : LA) (size : Int) (ts : Tok) (code : Int) (tc : Tok) (left : Int) (tl : Tok) (b : List UInt8) (us vs strefs : List Value) (q : Nat) (tail : List (Addr × Obj)) : List (Addr × Obj) :=
  (a.y, instObj 273 a.dy) :: (a.dy, encD a.e0 a.e1 a.e2 a.e3 a.k0 a.k1 a.k2 a.k3 size ts code tc left tl a.fb) :: (a.fb, baOf b) :: (a.tx, instObj 154 a.td) :: (a.td, binD a.g0 a.g1 a.i0 a.i1 a.tsl a.tnl) :: (a.tsl, listOf us.toArray a.q4) :: (a.tnl, listOf vs.toArray a.q5) :: (a.stl, listOf strefs.toArray q) :: tail
def LawJ (T : Int → Nat → Int) (σ₀ : St) (decs : List (Int × Int)) (a : LA) (fixed : List (Addr × Obj)) (m₀ : Str → Option Value) (i : Nat) (m : Str → Option Value) (nx : List (Addr × Obj)) : Prop :=
  ∃ ua ub b size ts code tc left tl us vs strefs q extra, m = (fun z => if z = Str.ofString "at" then ua else if z = Str.ofString "bit" then ub else m₀ z) ∧
    nx = a.led size ts code tc left tl b us vs strefs q (extra ++ fixed) ∧
    IntsAre us (encs T σ₀ decs i).ss ∧ IntsAre vs (encs T σ₀ decs i).ns ∧ size = ((encs T σ₀ decs i).z : Int) ∧ EncRep b (encs T σ₀ decs i).C (encs T σ₀ decs i).n (encs T σ₀ decs i).z code left ∧ StIs T σ₀ decs extra strefs i ∧ AllGt a.stl extra
section
variable {T : Int → Nat → Int} {σ₀ : St} {decs : List (Int × Int)} {cs : List Code} {prog : Program} {w : World} {A : Around} {s : Shared} {env : Env}
theorem law_loop {elts : List PySem.Expr} {k} {tpos : Pos} {iter : PySem.Expr} {body : List Stmt} {pos : Pos} {refs : List Value} {h₀ : Heap} {L : Addr} {m₀ : Str → Option Value} {news tups fix1 fixed : List (Addr × Obj)} {Q : Flow → Shared → Prop} {a : LA}
    {ts tc tl : Tok} {us vs : List Value} {q : Nat} {left : Int} {d : List UInt8}
    (hev : wpAny (model prog w) A (eval iter env) (fun x s₁ => x = .ref a.rl ∧ s₁ = s) (fun _ _ => False) s) (hh : A.handled = none)
    (F : Fr h₀ L s.heap m₀) (N : News h₀ L s.heap news) (hfix : fixed = fix1 ++ tups) (hrl : (a.rl, listOf refs.toArray a.q3) ∈ fixed) (hrow : RowIs tups refs decs)
    (hsub : ∀ p ∈ a.led (σ₀.z : Int) ts 0 tc left tl d us vs [] q fixed, p ∈ news)
    (hu : IntsAre us σ₀.ss) (hv : IntsAre vs σ₀.ns) (hr : EncRep d σ₀.C σ₀.n σ₀.z 0 left)
    (turn : ∀ i c t u dd ua ub b size ts code tc left tl us vs strefs q extra h tk I it, decs[i]? = some dd → i < decs.length → (c, tupO dd.1 t dd.2 u) ∈ tups →
      IntsAre us (encs T σ₀ decs i).ss → IntsAre vs (encs T σ₀ decs i).ns → size = ((encs T σ₀ decs i).z : Int) → EncRep b (encs T σ₀ decs i).C (encs T σ₀ decs i).n (encs T σ₀ decs i).z code left → StIs T σ₀ decs extra strefs i → AllGt a.stl extra →
      (∀ p ∈ a.led size ts code tc left tl b us vs strefs q (extra ++ fixed), p.1 ≠ I) →
      Fr h₀ L h (fun z => if z = Str.ofString "at" then ua else if z = Str.ofString "bit" then ub else m₀ z) →
      News h₀ L h ((I, it) :: a.led size ts code tc left tl b us vs strefs q (extra ++ fixed)) →
      wpAny (model prog w) A (assign (.Tuple elts k tpos) env (.ref c)) (fun _ s₂ => wpG cs (model prog w) A (execs body env) (GrowPost h₀ L I it (LawJ T σ₀ decs a fixed m₀ (i + 1)) { s with heap := h, toks := tk } Q) s₂) (fun _ _ => False) { s with heap := h, toks := tk })
    (done : ∀ ua ub b size ts code tc left tl us vs strefs q extra h tk,
      IntsAre us (encs T σ₀ decs decs.length).ss → IntsAre vs (encs T σ₀ decs decs.length).ns → size = ((encs T σ₀ decs decs.length).z : Int) → EncRep b (encs T σ₀ decs decs.length).C (encs T σ₀ decs decs.length).n (encs T σ₀ decs decs.length).z code left → StIs T σ₀ decs extra strefs decs.length → AllGt a.stl extra →
      Fr h₀ L h (fun z => if z = Str.ofString "at" then ua else if z = Str.ofString "bit" then ub else m₀ z) →
      News h₀ L h (a.led size ts code tc left tl b us vs strefs q (extra ++ fixed)) → Q .next { s with heap := h, toks := tk })
    (hs : ∀ x, foldedSetIterable iter env x = pure x := by intro _; rfl) :
    wpG cs (model prog w) A (exec (.For (.Tuple elts k tpos) iter body [] pos) env) Q s := by
  have hlen := hrow.1
  refine forG_list (rl := a.rl) (vs := refs) (q := a.q3) (LawJ T σ₀ decs a fixed m₀) hev hh F (News.sub N hsub) ⟨m₀ (Str.ofString "at"), m₀ (Str.ofString "bit"), d, _, ts, 0, tc, left, tl, us, vs, [], q, [], canon2 fun _ _ _ => rfl, rfl, hu, hv, rfl, hr, .nil, fun p hp => nomatch hp⟩ ?_ ?_ ?_ ?_ hs
  · rintro i m nx ⟨ua, ub, b, size, ts, code, tc, left, tl, us, vs, strefs, q, extra, rfl, rfl, _⟩
    iterate 8 apply List.mem_cons_of_mem
    exact List.mem_append_right _ hrl
  · intro v hv
    obtain ⟨j, hj⟩ := List.mem_iff_getElem?.mp hv
    have hlt : j < decs.length := by rw [← hlen]; exact (List.getElem?_eq_some_iff.mp hj).1
    obtain ⟨c, _, _, e, _⟩ := hrow.2 j decs[j] (List.getElem?_eq_getElem hlt)
    rw [hj] at e
    exact ⟨c, Option.some.inj e⟩
  · rintro i v m nx h tk I it hv ⟨ua, ub, b, size, ts, code, tc, left, tl, us, vs, strefs, q, extra, rfl, rfl, j1, j2, j3, j4, j5, j6⟩ hne F₁ N₁
    have hlt : i < decs.length := by rw [← hlen]; exact (List.getElem?_eq_some_iff.mp hv).1
    obtain ⟨c, t, u, e, hm⟩ := hrow.2 i decs[i] (List.getElem?_eq_getElem hlt)
    rw [hv] at e
    obtain rfl := Option.some.inj e
    exact turn i c t u decs[i] ua ub b size ts code tc left tl us vs strefs q extra h tk I it (List.getElem?_eq_getElem hlt) hlt hm j1 j2 j3 j4 j5 j6 hne F₁ N₁
  · rintro m nx h tk ⟨ua, ub, b, size, ts, code, tc, left, tl, us, vs, strefs, q, extra, rfl, rfl, j1, j2, j3, j4, j5, j6⟩ F₁ N₁
    rw [hlen] at j1 j2 j3 j4 j5
    exact done ua ub b size ts code tc left tl us vs strefs q extra h tk j1 j2 j3 j4 j5 j6 F₁ N₁
theorem law_turn {a : LA} {h₀ : Heap} {L I D1 D2 D3 : Addr} {it : Obj} {m₀ M : Str → Option Value} {all fixed extra : List (Addr × Obj)} {b : List UInt8} {size : Int} {ts : Tok} {code : Int} {tc : Tok} {left : Int} {tl : Tok} {us vs strefs : List Value} {q c1 c2 i : Nat} {dd : Int × Int} {s₁ : Shared} {h' : Heap} {tk : Nat} {Q : Flow → Shared → Prop}
    (F : Fr h₀ L h' M) (N : News h₀ L h' all) (hM : ∀ z, z ≠ Str.ofString "at" → z ≠ Str.ofString "bit" → M z = m₀ z)
    (n0 : (I, it) ∈ all) (n1 : ∀ p ∈ a.led size ts code tc left tl b us vs (strefs ++ [Value.ref D3]) q (extra ++ fixed), p ∈ all) (n3 : (D3, pairO D1 D2) ∈ all) (n4 : (D1, listOf us.toArray c1) ∈ all) (n5 : (D2, listOf vs.toArray c2) ∈ all)
    (l1 : @LT.lt Nat _ a.stl D1) (l2 : @LT.lt Nat _ a.stl D2) (l3 : @LT.lt Nat _ a.stl D3) (i1 : @LT.lt Nat _ I D1) (i2 : @LT.lt Nat _ I D2) (i3 : @LT.lt Nat _ I D3)
    (hne : ∀ {size ts code tc left tl b us vs strefs q}, ∀ p ∈ a.led size ts code tc left tl b us vs strefs q (extra ++ fixed), p.1 ≠ I)
    (hd : decs[i]? = some dd) (hS : StIs T σ₀ decs extra strefs i) (hg : AllGt a.stl extra)
    (hu : IntsAre us (putP T (encs T σ₀ decs i) dd.1.toNat dd.2).ss) (hv : IntsAre vs (putP T (encs T σ₀ decs i) dd.1.toNat dd.2).ns) (hz : size = ((putP T (encs T σ₀ decs i) dd.1.toNat dd.2).z : Int))
    (hr : EncRep b (putP T (encs T σ₀ decs i) dd.1.toNat dd.2).C (putP T (encs T σ₀ decs i) dd.1.toNat dd.2).n (putP T (encs T σ₀ decs i) dd.1.toNat dd.2).z code left) :
    GrowPost h₀ L I it (LawJ T σ₀ decs a fixed m₀ (i + 1)) s₁ Q .next { s₁ with heap := h', toks := tk } := by
  rw [← encs_succ hd] at hu hv hz hr
  have ne : ∀ {x y : Nat}, x < y → y ≠ x := fun h e => Nat.lt_irrefl _ (e ▸ h)
  refine grow_next F (News.sub (l' := (I, it) :: a.led size ts code tc left tl b us vs (strefs ++ [Value.ref D3]) q (((D3, pairO D1 D2) :: (D1, listOf us.toArray c1) :: (D2, listOf vs.toArray c2) :: extra) ++ fixed)) N ?_) ?_
    ⟨_, _, b, size, ts, code, tc, left, tl, us, vs, _, q, _, canon2 hM, rfl, hu, hv, hz, hr, hS.snoc D3 D1 D2 hu hv, ?_⟩
  · intro p hp
    simp only [LA.led, List.mem_cons, List.cons_append] at hp n1
    rcases hp with rfl | rfl | rfl | rfl | rfl | rfl | rfl | rfl | rfl | rfl | rfl | rfl | hp
    · exact n0
    · exact n1 _ (.inl rfl)
    · exact n1 _ (.inr (.inl rfl))
    · exact n1 _ (.inr (.inr (.inl rfl)))
    · exact n1 _ (.inr (.inr (.inr (.inl rfl))))
    · exact n1 _ (.inr (.inr (.inr (.inr (.inl rfl)))))
    · exact n1 _ (.inr (.inr (.inr (.inr (.inr (.inl rfl))))))
    · exact n1 _ (.inr (.inr (.inr (.inr (.inr (.inr (.inl rfl)))))))
    · exact n1 _ (.inr (.inr (.inr (.inr (.inr (.inr (.inr (.inl rfl))))))))
    · exact n3
    · exact n4
    · exact n5
    · exact n1 _ (.inr (.inr (.inr (.inr (.inr (.inr (.inr (.inr hp))))))))
  · intro p hp
    have hn := @hne size ts code tc left tl b us vs (strefs ++ [Value.ref D3]) q
    simp only [LA.led, List.mem_cons, List.cons_append] at hp hn
    rcases hp with rfl | rfl | rfl | rfl | rfl | rfl | rfl | rfl | rfl | rfl | rfl | hp
    · exact hn _ (.inl rfl)
    · exact hn _ (.inr (.inl rfl))
    · exact hn _ (.inr (.inr (.inl rfl)))
    · exact hn _ (.inr (.inr (.inr (.inl rfl))))
    · exact hn _ (.inr (.inr (.inr (.inr (.inl rfl)))))
    · exact hn _ (.inr (.inr (.inr (.inr (.inr (.inl rfl))))))
    · exact hn _ (.inr (.inr (.inr (.inr (.inr (.inr (.inl rfl)))))))
    · exact hn _ (.inr (.inr (.inr (.inr (.inr (.inr (.inr (.inl rfl))))))))
    · exact ne i3
    · exact ne i1
    · exact ne i2
    · exact hn _ (.inr (.inr (.inr (.inr (.inr (.inr (.inr (.inr hp))))))))
  · intro p hp
    simp only [List.mem_cons] at hp
    rcases hp with rfl | rfl | rfl | hp
    · exact l3
    · exact l1
    · exact l2
    · exact hg p hp
theorem law_turn_eq {σ5 : St} {a : LA} {h₀ : Heap} {L I D1 D2 D3 : Addr} {it : Obj} {m₀ M : Str → Option Value} {all fixed extra : List (Addr × Obj)} {b : List UInt8} {size : Int} {ts : Tok} {code : Int} {tc : Tok} {left : Int} {tl : Tok} {us vs strefs : List Value} {q c1 c2 i : Nat} {dd : Int × Int} {s₁ : Shared} {h' : Heap} {tk : Nat} {Q : Flow → Shared → Prop}
    (hσ : putP T (encs T σ₀ decs i) dd.1.toNat dd.2 = σ5) (F : Fr h₀ L h' M) (N : News h₀ L h' all) (hM : ∀ z, z ≠ Str.ofString "at" → z ≠ Str.ofString "bit" → M z = m₀ z)
    (n0 : (I, it) ∈ all) (n1 : ∀ p ∈ a.led size ts code tc left tl b us vs (strefs ++ [Value.ref D3]) q (extra ++ fixed), p ∈ all) (n3 : (D3, pairO D1 D2) ∈ all) (n4 : (D1, listOf us.toArray c1) ∈ all) (n5 : (D2, listOf vs.toArray c2) ∈ all)
    (l1 : @LT.lt Nat _ a.stl D1) (l2 : @LT.lt Nat _ a.stl D2) (l3 : @LT.lt Nat _ a.stl D3) (i1 : @LT.lt Nat _ I D1) (i2 : @LT.lt Nat _ I D2) (i3 : @LT.lt Nat _ I D3)
    (hne : ∀ {size ts code tc left tl b us vs strefs q}, ∀ p ∈ a.led size ts code tc left tl b us vs strefs q (extra ++ fixed), p.1 ≠ I)
    (hd : decs[i]? = some dd) (hS : StIs T σ₀ decs extra strefs i) (hg : AllGt a.stl extra)
    (hu : IntsAre us σ5.ss) (hv : IntsAre vs σ5.ns) (hz : size = (σ5.z : Int))
    (hr : EncRep b σ5.C σ5.n σ5.z code left) :
    GrowPost h₀ L I it (LawJ T σ₀ decs a fixed m₀ (i + 1)) s₁ Q .next { s₁ with heap := h', toks := tk } := by
  subst hσ
  exact law_turn F N hM n0 n1 n3 n4 n5 l1 l2 l3 i1 i2 i3 @hne hd hS hg hu hv hz hr
end
end Mine
end
section
open PySem PySem.Spec PySem.Calls PySem.W PyProof.Rows
open Sem (wp)
set_option Elab.async false
set_option maxRecDepth 100000
namespace Mine
/-! comparing what the law has made -/
def decD2 (d : Int × Int) : PyData := .tuple [.int d.1, .int d.2]
theorem readsAll_row {h : Heap} : ∀ (refs : List Value) (decs : List (Int × Int)), refs.length = decs.length → (∀ (k : Nat) (d : Int × Int), decs[k]? = some d → ∃ a t u, refs[k]? = some (Value.ref a) ∧ h.get? a = some (tupO d.1 t d.2 u)) → ∃ as, ReadsAll h refs (decs.map decD2) as
  | [], [], _, _ => ⟨_, .nil⟩
  | [], _ :: _, hl, _ => by simp at hl
  | _ :: _, [], hl, _ => by simp at hl
  | v :: r, d :: ds, hl, hk => by
    obtain ⟨as, hr⟩ := readsAll_row r ds (by simpa using hl) fun k d' hd => hk (k + 1) d' (by simpa using hd)
    obtain ⟨a, t, u, e, hm⟩ := hk 0 d rfl
    obtain rfl : v = Value.ref a := by simpa using e
    exact ⟨_, .cons (reads_tuple_at hm rfl rfl (.cons (Reads.int _ _) (.cons (Reads.int _ _) .nil))) hr⟩
theorem row_canLay : ∀ decs : List (Int × Int), PyData.canLayAll0 (decs.map decD2) = true ∧ PyData.depthAll (decs.map decD2) ≤ 10
  | [] => ⟨rfl, by decide⟩
  | d :: r => by
    obtain ⟨a, b⟩ := row_canLay r
    refine ⟨?_, ?_⟩
    · simp only [List.map_cons, PyData.canLayAll0, decD2, PyData.canLay0, a, Bool.and_true, Bool.true_and]
    · simp only [List.map_cons, PyData.depthAll, decD2, PyData.depth]
      omega
section
variable {prog : Program} {w : World} {A : Around} {E : Value → Shared → Prop} {s : Shared} {h₀ : Heap} {L : Addr} {m : Str → Option Value} {news : List (Addr × Obj)} {Q : Value → Shared → Prop}
theorem row_eq {rl l0 : Addr} {refs : List Value} {q q0 : Nat} {tups : List (Addr × Obj)} {decs : List (Int × Int)} (N : News h₀ L s.heap news) (h1 : (rl, listOf refs.toArray q) ∈ news) (h2 : (l0, listOf #[] q0) ∈ news) (h3 : ∀ p ∈ tups, p ∈ news) (hrow : RowIs tups refs decs)
    (hu : A.units + 64 < cLine) (h : Q (.bool (decide (decs = []))) s) : wpAny (model prog w) A (compareOp .Eq (.ref rl) (.ref l0)) Q E s := by
  obtain ⟨as, hr⟩ := readsAll_row (h := s.heap) refs decs hrow.1 fun k d hd => by
    obtain ⟨a, t, u, e, hm⟩ := hrow.2 k d hd
    exact ⟨a, t, u, e, (N _ (h3 _ hm)).1⟩
  obtain ⟨c1, c2⟩ := row_canLay decs
  refine eq_dataH (da := .list (decs.map decD2)) (db := .list []) (reads_list_at (N _ h1).1 rfl rfl hr) (reads_list_at (N _ h2).1 rfl rfl .nil) ?_ rfl hu ?_
  · unfold SeqAt.shaped
    rw [Bool.and_eq_true]
    refine ⟨c1, decide_eq_true ?_⟩
    simp only [PyData.depth]
    omega
  · have e : PyData.eqv (.list (decs.map decD2)) (.list []) = decide (decs = []) := by
      cases decs with
      | nil => rfl
      | cons d r => simp [PyData.eqv, PyData.eqvAll]
    rw [e]; exact h
theorem eq_no {b c : Array UInt8} {t u : Tok} (hne : b.toList ≠ c.toList) (h : Q (.bool false) s) : wpAny (model prog w) A (compareOp .Eq (.bytes b t) (.bytes c u)) Q E s :=
  eq_bytes (by rw [beq_eq_false_iff_ne.mpr hne]; exact h)
theorem ne_no {b c : Array UInt8} {t u : Tok} (he : b.toList = c.toList) (h : Q (.bool false) s) : wpAny (model prog w) A (compareOp .NotEq (.bytes b t) (.bytes c u)) Q E s :=
  ne_bytes (by rw [he, bne_self_eq_false]; exact h)
theorem pick_ne {oc : List UInt8} {i : Int} {n : Int} (hlast : ∀ a x, oc = a ++ [x] → x ≠ 0) (hi : i = -1) (hn : n = 1) : (KBy.picked oc.toArray (some i) none).toList ≠ (List.replicate n.toNat 0).toArray.toList := by
  subst hi; subst hn
  rw [KBc.picked_eq]
  rcases List.eq_nil_or_concat oc with rfl | ⟨a, x, rfl⟩
  · simp
  · rw [List.concat_eq_append] at *
    have hx := hlast a x rfl
    intro e
    apply hx
    have hc : clipAt (a ++ [x]).toArray.size (-1) = a.length := by
      simp [clipAt]
      try omega
    simp only [Option.elim] at e
    rw [hc] at e
    simpa using e
theorem pair_ne {D a p1 p2 q1 q2 : Addr} {us vs us' vs' : List Value} {c1 c2 c3 c4 : Nat} {ss ns : List Int} (N : News h₀ L s.heap news) (h1 : (D, pairO p1 p2) ∈ news) (h2 : (p1, listOf us.toArray c1) ∈ news) (h3 : (p2, listOf vs.toArray c2) ∈ news)
    (h4 : (a, pairO q1 q2) ∈ news) (h5 : (q1, listOf us'.toArray c3) ∈ news) (h6 : (q2, listOf vs'.toArray c4) ∈ news) (i1 : IntsAre us ss) (i2 : IntsAre vs ns) (i3 : IntsAre us' ss) (i4 : IntsAre vs' ns)
    (hu : A.units + 64 < cLine) (h : Q (.bool false) s) : wpAny (model prog w) A (compareOp .NotEq (.ref D) (.ref a)) Q E s := by
  have rd : ∀ {D p1 p2 us vs c1 c2}, (D, pairO p1 p2) ∈ news → (p1, listOf (List.toArray us) c1) ∈ news → (p2, listOf (List.toArray vs) c2) ∈ news → IntsAre us ss → IntsAre vs ns →
      ∃ as, Reads s.heap (.ref D) (.tuple [.list (ss.map .int), .list (ns.map .int)]) as := by
    intro D p1 p2 us vs c1 c2 a1 a2 a3 a4 a5
    exact ⟨_, reads_tuple_at (N _ a1).1 rfl rfl (.cons (reads_newData (News.isList N a2) (ke_carried a4)) (.cons (reads_newData (News.isList N a3) (ke_carried a5)) .nil))⟩
  obtain ⟨as, r1⟩ := rd h1 h2 h3 i1 i2
  obtain ⟨bs, r2⟩ := rd h4 h5 h6 i3 i4
  have sh : SeqAt.shaped (.tuple [.list (ss.map .int), .list (ns.map .int)]) = true := by
    simp [SeqAt.shaped, PyData.canLay0, PyData.canLayAll0, PyData.depth, PyData.depthAll, ke_canLayAll0, ke_depthAll]
  refine ne_dataH r1 r2 sh sh hu ?_
  have e : PyData.eqv (.tuple [.list (ss.map .int), .list (ns.map .int)]) (.tuple [.list (ss.map .int), .list (ns.map .int)]) = true := by
    simp [PyData.eqv, PyData.eqvAll, ked_eqvAll]
  rw [e]
  exact h
/-- an item of a list of objects -/
theorem item_ref {rl : Addr} {refs : List Value} {q : Nat} {k : Int} {u : Tok} {v : Value} {value slice : PySem.Expr} (N : News h₀ L s.heap news) (h1 : (rl, listOf refs.toArray q) ∈ news) (h0 : 0 ≤ k) (hv : refs[k.toNat]? = some v) (hz : refs.length ≤ 1000000) (h : Q v s)
    (hs : subscripted slice false (.ref rl) (.int k u) = operate [.ref rl, .int k u] (getItem (.ref rl) (.int k u)) := by with_unfolding_all rfl) (ht : ∀ r, letTemporaryGo value (.ref rl) r = pure () := by intro _; with_unfolding_all rfl) :
    wpAny (model prog w) A (subscriptTail value slice (.ref rl) (.int k u)) Q E s := by
  have hl : s.heap.IsList rl refs.toArray := News.isList N h1
  have hlt := (List.getElem?_eq_some_iff.mp hv).1
  refine tail_any hl.typeIs slot_list_getitem.lookup (wpAny_getItem_list hl h0 (by omega) (by simpa using hv) h) hs
end
/-- the addresses and tokens that stay in the reading loop -/
structure LD where
  (x dx kx kd ksl knl : Nat)
  (e0 e1 e2 e3 e4 : Int)
  (k0 k1 k2 k3 k4 : Tok)
  (g0 g1 : Int)
  (i0 i1 : Tok)
  (tb : Tok)
  (q4 q5 : Nat)
abbrev LD.led (a : LD) (ob : List UInt8) (at_ : Int) (ta : Tok) (size : Int) (ts : Tok) (code : Int) (tc : Tok) (left : Int) (tl : Tok) (us vs : List Value) (fixed : List (Addr × Obj)) : List (Addr × Obj) :=
  (a.x, instObj 217 a.dx) :: (a.dx, decD a.e0 a.e1 a.e2 a.e3 a.e4 a.k0 a.k1 a.k2 a.k3 a.k4 ob.toArray a.tb at_ ta size ts code tc left tl) :: (a.kx, instObj 154 a.kd) :: (a.kd, binD a.g0 a.g1 a.i0 a.i1 a.ksl a.knl) :: (a.ksl, listOf us.toArray a.q4) :: (a.knl, listOf vs.toArray a.q5) :: fixed
theorem canon3 {a b c : Str} {M m₀ : Str → Option Value} (h : ∀ z, z ≠ a → z ≠ b → z ≠ c → M z = m₀ z) : M = fun y => if y = a then M a else if y = b then M b else if y = c then M c else m₀ y := by
  funext y
  by_cases h1 : y = a
  · subst h1; rw [if_pos rfl]
  · rw [if_neg h1]
    by_cases h2 : y = b
    · subst h2; rw [if_pos rfl]
    · rw [if_neg h2]
      by_cases h3 : y = c
      · subst h3; rw [if_pos rfl]
      · rw [if_neg h3]; exact h y h1 h2 h3
def DecJ (T : Int → Nat → Int) (σ₀ : St) (decs : List (Int × Int)) (ob : List UInt8) (a : LD) (fixed : List (Addr × Obj)) (m₀ : Str → Option Value) (i : Nat) (m : Str → Option Value) (nx : List (Addr × Obj)) : Prop :=
  ∃ uk ua ub at_ ta size ts code tc left tl us vs, m = (fun z => if z = Str.ofString "k" then uk else if z = Str.ofString "at" then ua else if z = Str.ofString "bit" then ub else m₀ z) ∧
    nx = a.led ob at_ ta size ts code tc left tl us vs fixed ∧
    IntsAre us (encs T σ₀ decs i).ss ∧ IntsAre vs (encs T σ₀ decs i).ns ∧ size = ((encs T σ₀ decs i).z : Int) ∧ DecRep ob (encs T σ₀ decs i).C (encs T σ₀ decs i).n at_ left code ∧ 0 ≤ code ∧ code < size * 65536
section
variable {T : Int → Nat → Int} {σ₀ : St} {decs : List (Int × Int)} {prog : Program} {w : World} {A : Around} {E : Value → Shared → Prop} {s : Shared} {env : Env}
theorem dec_loop {r : Addr} {b₀ : Int} {t₀ u₀ v₀ : Tok} {body : List Stmt} {h₀ : Heap} {m₀ : Str → Option Value} {news fixed : List (Addr × Obj)} {Q : Flow → Shared → Prop} {a : LD} {ob : List UInt8} {at_ : Int} {ta ts tc tl : Tok} {size code left : Int} {us vs : List Value}
    (hh : A.handled = none) (hr : IsRange s.heap r 0 b₀ 1 t₀ u₀ v₀) (hb : b₀ = (decs.length : Int)) (hb1 : decs.length ≤ 30)
    (F : Fr h₀ env.locals s.heap m₀) (N : News h₀ env.locals s.heap news) (hsub : ∀ p ∈ a.led ob at_ ta size ts code tc left tl us vs fixed, p ∈ news)
    (hu : IntsAre us σ₀.ss) (hv : IntsAre vs σ₀.ns) (hz : size = (σ₀.z : Int)) (hrep : DecRep ob σ₀.C σ₀.n at_ left code) (hc : 0 ≤ code ∧ code < size * 65536)
    (turn : ∀ (i : Nat) t uk ua ub at_ ta size ts code tc left tl us vs h tk I it, i < decs.length →
      IntsAre us (encs T σ₀ decs i).ss → IntsAre vs (encs T σ₀ decs i).ns → size = ((encs T σ₀ decs i).z : Int) → DecRep ob (encs T σ₀ decs i).C (encs T σ₀ decs i).n at_ left code → 0 ≤ code ∧ code < size * 65536 →
      (∀ p ∈ a.led ob at_ ta size ts code tc left tl us vs fixed, p.1 ≠ I) →
      Fr h₀ env.locals h (fun z => if z = Str.ofString "k" then some (.int (i : Int) t) else if z = Str.ofString "k" then uk else if z = Str.ofString "at" then ua else if z = Str.ofString "bit" then ub else m₀ z) →
      News h₀ env.locals h ((I, it) :: a.led ob at_ ta size ts code tc left tl us vs fixed) →
      wpAny (model prog w) A (execs body env) (GrowPost h₀ env.locals I it (DecJ T σ₀ decs ob a fixed m₀ (i + 1)) { s with heap := h, toks := tk } Q) E { s with heap := h, toks := tk })
    (done : ∀ (M : Str → Option Value) nx h tk, Fr h₀ env.locals h M → News h₀ env.locals h nx → Q .next { s with heap := h, toks := tk }) :
    wpAny (model prog w) A (pyIter (.ref r)) (fun it s₂ => LoopAtV prog w A h₀ env (Str.ofString "k") body Q E it s₂) E s := by
  refine range_grow (DecJ T σ₀ decs ob a fixed m₀) hh hr hb (by omega) F (News.sub N hsub) ⟨m₀ (Str.ofString "k"), m₀ (Str.ofString "at"), m₀ (Str.ofString "bit"), at_, ta, size, ts, code, tc, left, tl, us, vs, canon3 fun _ _ _ _ => rfl, rfl, hu, hv, hz, hrep, hc⟩ ?_ ?_
  · rintro i t m nx h tk I it hi ⟨uk, ua, ub, at_, ta, size, ts, code, tc, left, tl, us, vs, rfl, rfl, j1, j2, j3, j4, j5, j6⟩ hne F₁ N₁
    exact turn i t uk ua ub at_ ta size ts code tc left tl us vs h tk I it hi j1 j2 j3 j4 ⟨j5, j6⟩ hne F₁ N₁
  · rintro m nx h tk _ F₁ N₁
    exact done m nx h tk F₁ N₁
theorem dec_turn {a : LD} {ob : List UInt8} {h₀ : Heap} {L I : Addr} {it : Obj} {m₀ M : Str → Option Value} {all fixed : List (Addr × Obj)} {at_ : Int} {ta ts tc tl : Tok} {size code left : Int} {us vs : List Value} {i : Nat} {dd : Int × Int} {s₁ : Shared} {h' : Heap} {tk : Nat} {Q : Flow → Shared → Prop}
    (F : Fr h₀ L h' M) (N : News h₀ L h' all) (hM : ∀ z, z ≠ Str.ofString "k" → z ≠ Str.ofString "at" → z ≠ Str.ofString "bit" → M z = m₀ z)
    (n0 : (I, it) ∈ all) (n1 : ∀ p ∈ a.led ob at_ ta size ts code tc left tl us vs fixed, p ∈ all) (hne : ∀ p ∈ a.led ob at_ ta size ts code tc left tl us vs fixed, p.1 ≠ I)
    (hd : decs[i]? = some dd) (hu : IntsAre us (putP T (encs T σ₀ decs i) dd.1.toNat dd.2).ss) (hv : IntsAre vs (putP T (encs T σ₀ decs i) dd.1.toNat dd.2).ns) (hz : size = ((putP T (encs T σ₀ decs i) dd.1.toNat dd.2).z : Int))
    (hr : DecRep ob (putP T (encs T σ₀ decs i) dd.1.toNat dd.2).C (putP T (encs T σ₀ decs i) dd.1.toNat dd.2).n at_ left code) (hc : 0 ≤ code ∧ code < size * 65536) :
    GrowPost h₀ L I it (DecJ T σ₀ decs ob a fixed m₀ (i + 1)) s₁ Q .next { s₁ with heap := h', toks := tk } := by
  rw [← encs_succ hd] at hu hv hz hr
  exact grow_next F (News.sub (l' := (I, it) :: a.led ob at_ ta size ts code tc left tl us vs fixed) N (List.forall_mem_cons.mpr ⟨n0, n1⟩)) hne ⟨_, _, _, at_, ta, size, ts, code, tc, left, tl, us, vs, canon3 hM, rfl, hu, hv, hz, hr, hc.1, hc.2⟩
theorem dec_turn_eq {σ5 : St} {a : LD} {ob : List UInt8} {h₀ : Heap} {L I : Addr} {it : Obj} {m₀ M : Str → Option Value} {all fixed : List (Addr × Obj)} {at_ : Int} {ta ts tc tl : Tok} {size code left : Int} {us vs : List Value} {i : Nat} {dd : Int × Int} {s₁ : Shared} {h' : Heap} {tk : Nat} {Q : Flow → Shared → Prop}
    (hσ : σ5 = putP T (encs T σ₀ decs i) dd.1.toNat dd.2) (F : Fr h₀ L h' M) (N : News h₀ L h' all) (hM : ∀ z, z ≠ Str.ofString "k" → z ≠ Str.ofString "at" → z ≠ Str.ofString "bit" → M z = m₀ z)
    (n0 : (I, it) ∈ all) (n1 : ∀ p ∈ a.led ob at_ ta size ts code tc left tl us vs fixed, p ∈ all) (hne : ∀ p ∈ a.led ob at_ ta size ts code tc left tl us vs fixed, p.1 ≠ I)
    (hd : decs[i]? = some dd) (hu : IntsAre us σ5.ss) (hv : IntsAre vs σ5.ns) (hz : size = (σ5.z : Int))
    (hr : DecRep ob σ5.C σ5.n at_ left code) (hc : 0 ≤ code ∧ code < size * 65536) :
    GrowPost h₀ L I it (DecJ T σ₀ decs ob a fixed m₀ (i + 1)) s₁ Q .next { s₁ with heap := h', toks := tk } := by
  subst hσ
  exact dec_turn F N hM n0 n1 hne hd hu hv hz hr hc
/-- the reader's answer is the writer's decision -/
theorem answer {V nf TT lf : Nat} {ob : List UInt8} {i : Nat} {dd : Int × Int} {at_ left code size bit : Int} {σ' : St} (ok : TabOk T) (h0 : WF σ₀) (hd : ∀ d ∈ decs, 0 ≤ d.1 ∧ d.1 < 3 ∧ 0 ≤ d.2 ∧ d.2 < 2) (hi : decs[i]? = some dd)
    (hin : In V nf (encs T σ₀ decs decs.length)) (hz : ∀ k, TT ≤ k → ob.getD k 0 = 0) (hV : R ob TT * 2 ^ 19 = V * 2 ^ (lf + 8)) (hT : 8 * TT = nf + lf + 5) (hrep : DecRep ob (encs T σ₀ decs i).C (encs T σ₀ decs i).n at_ left code)
    (hsz : size = ((encs T σ₀ decs i).z : Int)) (hg : getP T (encs T σ₀ decs i) dd.1.toNat (decide (code < (size - T ((encs T σ₀ decs i).ss.getD dd.1.toNat 0) 0) * 65536)) = (bit, σ')) : bit = dd.2 ∧ σ' = putP T (encs T σ₀ decs i) dd.1.toNat dd.2 := by
  have hlt : i < decs.length := (List.getElem?_eq_some_iff.mp hi).1
  have q := encs_in ok h0 hd hin (decs.length - (i + 1)) (i + 1) (by omega)
  rw [encs_succ hi] at q
  have d := hd dd (List.mem_of_getElem? hi)
  have wf := (encs_wf ok h0 hd i).1
  obtain ⟨q1, q2⟩ := get_put ok wf (show dd.1.toNat < 3 by omega) ⟨d.2.2.1, d.2.2.2⟩ q
  obtain ⟨a1, a2⟩ := wf.at (show dd.1.toNat < 3 by omega)
  have t := ok _ a1 a2
  have z1 := wf.z1
  have e : size - T ((encs T σ₀ decs i).ss.getD dd.1.toNat 0) 0 = (((encs T σ₀ decs i).z - lw T (encs T σ₀ decs i) dd.1.toNat : Nat) : Int) := by
    unfold lw; omega
  rw [e] at hg
  have lt := hrep.lt_iff (y := (encs T σ₀ decs i).z - lw T (encs T σ₀ decs i) dd.1.toNat) hz hV hT q1.1
  rw [decide_eq_decide.mpr lt, q2] at hg
  exact ⟨(Prod.mk.inj hg).1.symm, (Prod.mk.inj hg).2.symm⟩
end
end Mine
end
section
open PySem PySem.Spec PySem.Calls PySem.W PyProof.Rows
set_option Elab.async false
set_option maxRecDepth 100000
set_option maxHeartbeats 8000000
namespace Mine
local macro_rules | `(tactic| walk_at $s:str) => `(tactic| k_extra $s)
local macro_rules | `(tactic| k_ne) => `(tactic| walk_at "ne")
local macro_rules | `(tactic| k_room) => `(tactic| ktr_room)
local macro_rules | `(tactic| k_all) => `(tactic| walk_at "all")
theorem off_mid {lo hi : Nat} {l1 l2 : List (Addr × Obj)} {as : List Addr} (h1 : AllGt hi l1) (h2 : AllLt lo l2) (has : ∀ b ∈ as, @LE.le Nat _ lo b ∧ @LE.le Nat _ b hi) : OwnOff (l1 ++ l2) as := fun p hp b hb e => by
  have h3 := has b hb
  rcases List.mem_append.mp hp with hp | hp
  · have h4 := h1 p hp
    rw [e] at h4
    exact Nat.lt_irrefl _ (Nat.lt_of_lt_of_le h4 h3.2)
  · have h4 := allLt_mem h2 p hp
    rw [e] at h4
    exact Nat.lt_irrefl _ (Nat.lt_of_lt_of_le h4 h3.1)
theorem if_join {cs : List Code} {prog : Program} {w : World} {A : Around} {env : Env} {st : Stmt} {rest : List Stmt} {s : Shared} {h₀ : Heap} {L : Addr} {M : Str → Option Value} {news : List (Addr × Obj)} {Q : Flow → Shared → Prop} (F : Fr h₀ L s.heap M) (N : News h₀ L s.heap news)
    (h : Fr h₀ L s.heap M → News h₀ L s.heap news → wpAny (model prog w) A (exec st env) (fun f s' => f = .next ∧ ∃ h' tk, s' = { s with heap := h', toks := tk } ∧ Fr h₀ L h' M ∧ News h₀ L h' news) (fun _ _ => False) s)
    (k : ∀ h' tk, Fr h₀ L h' M → News h₀ L h' news → wpG cs (model prog w) A (execs rest env) Q { s with heap := h', toks := tk }) : wpG cs (model prog w) A (execs (st :: rest) env) Q s := by
  refine wpG_execs_any (wpAny_mono (h F N) (fun f s' p => ?_) fun _ _ x => x)
  obtain ⟨rfl, h', tk, rfl, F', N'⟩ := p
  exact k h' tk F' N'
theorem row_eq2 {prog : Program} {w : World} {A : Around} {E : Value → Shared → Prop} {s : Shared} {h₀ : Heap} {L : Addr} {news : List (Addr × Obj)} {Q : Value → Shared → Prop} {rl l0 : Addr} {refs : List Value} {q q0 : Nat} {tups : List (Addr × Obj)} {decs : List (Int × Int)} {b : Bool} (N : News h₀ L s.heap news) (h1 : (rl, listOf refs.toArray q) ∈ news) (h2 : (l0, listOf #[] q0) ∈ news) (h3 : ∀ p ∈ tups, p ∈ news) (hrow : RowIs tups refs decs)
    (hu : A.units + 64 < cLine) (hb : decide (decs = []) = b) (h : Q (.bool b) s) : wpAny (model prog w) A (compareOp .Eq (.ref rl) (.ref l0)) Q E s := row_eq N h1 h2 h3 hrow hu (by rw [hb]; exact h)
theorem off_gt {hi : Nat} {l : List (Addr × Obj)} {as : List Addr} (h1 : AllGt hi l) (has : ∀ b ∈ as, @LE.le Nat _ b hi) : OwnOff l as := fun p hp b hb e => by
  have h4 := h1 p hp
  rw [e] at h4
  exact Nat.lt_irrefl _ (Nat.lt_of_lt_of_le h4 (has b hb))
theorem allGt_app {a b : Nat} {l1 l2 : List (Addr × Obj)} (h1 : AllGt a l1) (h2 : AllGt b l2) (h : a ≤ b) : AllGt a (l1 ++ l2) := fun p hp =>
  (List.mem_append.mp hp).elim (h1 p) fun hp => Nat.lt_of_le_of_lt h (h2 p hp)
theorem room_make2 (v : Value) : (7 + (Code.builtin "type.__call__" ⟨[.ref 217, v], []⟩).cUnits) + 32 < cLine := Nat.le_of_ble_eq_true rfl
theorem depth_make2 (v : Value) : (callerA.depth + 1 + (Code.builtin "type.__call__" ⟨[.ref 217, v], []⟩).weight) + 5 < recursionLimit := Nat.le_of_ble_eq_true rfl
theorem len_ref {prog : Program} {w : World} {A : Around} {E : Value → Shared → Prop} {s : Shared} {h₀ : Heap} {L : Addr} {news : List (Addr × Obj)} {Q : Value → Shared → Prop} {rl : Addr} {refs : List Value} {q : Nat} {n : Int} (N : News h₀ L s.heap news) (h1 : (rl, listOf refs.toArray q) ∈ news) (hz : refs.length ≤ 1000000) (hn : (refs.length : Int) = n)
    (h : ∀ t k, Q (.int n t) { s with toks := k }) : wpAny (model prog w) A (call (.builtin "len") [.ref rl]) Q E s := by
  subst hn
  refine Calls.call_len_list (News.isList N h1) ?_ ?_
  · rw [List.size_toArray]; omega
  · rw [List.size_toArray]; exact h _ _
theorem rotL {α : Type} {A B C : List α} (p : α) (h : p ∈ C ++ (A ++ B)) : p ∈ A ++ (B ++ C) := by
  simp only [List.mem_append] at *
  rcases h with h | h | h
  · exact .inr (.inr h)
  · exact .inl h
  · exact .inr (.inl h)
theorem lt_c71 : 7 + 64 < cLine := by decide +kernel
theorem post_true {args : List WData} : PySem.Challenge.rw_nt0555_01.row.toRowW.claim.post args (ofPy (.bool true)) args = true := by
  first | wrow_post | (refine postW_of (X := true) (by rfl) ?_ rfl; wtm_val)
theorem law_walk {as_ : List Addr} {e_ : ∀ P, as_ = (Mine.Lit.lt.heap_1 P).map (·.1)} {d_ : DefRec} {kwd_ : List (Str × Expr)} (hq : defOf Mine.Lit.lt.view_1 PySem.Challenge.rw_nt0555_01.row.name = some (d_, kwd_)) :
    WalkG Mine.Lit.lt.view_1 [] (XL Mine.Lit.lt.view_1 []) (kHook Mine.Lit.lt.heap_1 as_ e_).says PySem.Challenge.rw_nt0555_01.row.toRowW d_ kwd_ := by
  k_with_none
  k_with "all" => (first | exact allLt_ne (by assumption) | exact allLt_ne (cl2 (by assumption)) | exact allLt_ne (cl3 (by assumption)) | exact allLt_ne (cl4 (by assumption)) | exact allLt_ne (cl5 (by assumption)) | exact allLt_ne (cl6 (by assumption)) | exact allLt_ne (cl7 (by assumption)) | exact allLt_ne (cl8 (by assumption)) | exact allLt_ne (cl9 (by assumption)))
  k_with "ne" => (first | exact Dif.ne (by assumption) | exact Dif.ne' (by assumption) | exact Nat.ne_of_lt (by assumption) | exact Nat.ne_of_gt (by assumption) | exact Nat.ne_of_gt (cj1 (by assumption)) | exact Nat.ne_of_lt (cj1 (by assumption)) | exact Nat.ne_of_gt (cj2 (by assumption)) | exact Nat.ne_of_lt (cj2 (by assumption)) | exact Nat.ne_of_gt (cj3 (by assumption)) | exact Nat.ne_of_lt (cj3 (by assumption)) | exact Nat.ne_of_gt (cj4 (by assumption)) | exact Nat.ne_of_lt (cj4 (by assumption)) | exact Nat.ne_of_gt (cj5 (by assumption)) | exact Nat.ne_of_lt (cj5 (by assumption)) | exact Nat.ne_of_gt (cj6 (by assumption)) | exact Nat.ne_of_lt (cj6 (by assumption)) | exact Nat.ne_of_gt (cj7 (by assumption)) | exact Nat.ne_of_lt (cj7 (by assumption)) | exact Nat.ne_of_gt (cj8 (by assumption)) | exact Nat.ne_of_lt (cj8 (by assumption)) | exact Nat.ne_of_gt (cj9 (by assumption)) | exact Nat.ne_of_lt (cj9 (by assumption)) | exact Nat.ne_of_gt (cl2 (by assumption)) | exact Nat.ne_of_lt (cl2 (by assumption)) | exact Nat.ne_of_gt (cl3 (by assumption)) | exact Nat.ne_of_lt (cl3 (by assumption)) | exact Nat.ne_of_gt (cl4 (by assumption)) | exact Nat.ne_of_lt (cl4 (by assumption)) | exact Nat.ne_of_gt (cl5 (by assumption)) | exact Nat.ne_of_lt (cl5 (by assumption)) | exact Nat.ne_of_gt (cl6 (by assumption)) | exact Nat.ne_of_lt (cl6 (by assumption)) | exact Nat.ne_of_gt (cl7 (by assumption)) | exact Nat.ne_of_lt (cl7 (by assumption)) | exact Nat.ne_of_gt (cl8 (by assumption)) | exact Nat.ne_of_lt (cl8 (by assumption)) | exact Nat.ne_of_gt (cl9 (by assumption)) | exact Nat.ne_of_lt (cl9 (by assumption)) | (refine neN ?_; (try dsimp only); omega))
  k_with "apt" => (repeat' (first | exact trivial | assumption | exact Dif.symm (by assumption) | exact Dif.mk (by walk_at "ne") | apply And.intro))
  k_with "sub" => (first | (intro p9 h9; k_ownIn) | (intro p9 h9; simp only [List.mem_cons, List.mem_append, h9, true_or, or_true]; done) | exact List.forall_mem_nil _ | (refine List.forall_mem_cons.mpr ⟨by k_memK, ?_⟩; walk_at "sub"))
  k_with "conj" => (repeat (rename _ ∧ _ => hc9; obtain ⟨_, _⟩ := hc9))
  k_with "call builtin:list.append" => ((k_here; (with_reducible show wpAny _ _ (call (Value.builtin _) [Value.ref _, _]) _ _ _); k_dflt (refine' append_L ?k1 ?k2 ?k3 ?_ ?z; (case k1 => k_asm); (case k2 => k_asm); (case k3 => k_upd); (case z => omega); k_whole); intro h' F' N'))
  k_with "call type:bytes" => ((k_here; (with_reducible show wpAny _ _ (call (Value.type "bytes") [Value.int _ _]) _ _ _); k_dflt (refine bytes_of_int (by omega) (by omega) ?_); intro _ _ hb9))
  k_with "call type:range" => (((rename Fr _ _ _ _ => F9'); (rename News _ _ _ _ => N9'); (with_unfolding_all refine range1_rows F9' N9' ?_); intro _ _ _ _ _ _ _ _ _))
  cases hq.symm.trans (rfl : _ = some (_, _))
  clear hq
  k_fill
  intro w s₀ s₁ mg mb G Y fa o pm cd doc dV kV ho hd hcd hD hmg hg args vals as hpre hlay hrd hwl hlo
  have KX := kIn_of Y
  have X := (Ground.X G).1
  have V := (Ground.X G).2
  refine Ground.open G ?_
  intro T B D TE TW
  try (refine guard_noD D (by decide +kernel) ?_; clear D)
  obtain ⟨_, _, M⟩ := bmod_of_top T
  have TA := at_of_top T
  try (obtain ⟨_, _, he, B0⟩ := based_of_top T rfl hmg ho hd; have he' : cd = _ := he; subst he'; clear he)
  clear hmg
  wrow_args hpre hlay hrd hwl hlo
  (rename List Int => ns)
  (rename List Value => vs)
  (rename s₁.heap.IsList _ vs.toArray => hL)
  (rename IntsAre vs ns => hI)
  (rename PyData.layable0 _ = true => hly)
  (rename ¬ _ < _ => hlen63)
  have K0 := below_caller (Top.heap T)
  have he := Dflts.none hD rfl
  subst he
  refine callG_full (by decide) ho hd (Top.nolimit T) hcd (BindsTo.of_eq rfl) (locs rfl) fun h₁ F0 => ?_
  w_binds F0
  have N0 := (News.nil : News _ _ _ []).at F0
  clear hd TA
  k_drop
  have hbits : ∀ x ∈ ns, Builtin.Int.intBits x ≤ 1048576 := fun x hx => intBits_le_of_item hx hly
  have hlen : ns.length ≤ 63 := by omega
  refine wpG_execs_any ?_
  k_with "call ref" => (
    (rename Fr _ _ _ _ => lF)
    (rename News _ _ _ _ => lN)
    k_dflt (refine poolL w hI hbits hlen _ _ _ _ _ _ _ _ _ _ _ _ _ _ _ _ _ _ _ _ hL K0 lF KX lN T rfl (by ktr_room) (by ktr_units) ?_)
    intro src d1 td1 m1 tm1 n1 h9 tk9 m10 m11 o1 F9 N9)
  k_steps
  dsimp only [NextG]
  -- bins, row
  refine wpG_execs_any ?_
  k_with_none
  k_with "all" => (first | exact allLt_ne (by assumption) | exact allLt_ne (cl2 (by assumption)) | exact allLt_ne (cl3 (by assumption)) | exact allLt_ne (cl4 (by assumption)) | exact allLt_ne (cl5 (by assumption)) | exact allLt_ne (cl6 (by assumption)) | exact allLt_ne (cl7 (by assumption)) | exact allLt_ne (cl8 (by assumption)) | exact allLt_ne (cl9 (by assumption)))
  k_with "ne" => (first | exact Dif.ne (by assumption) | exact Dif.ne' (by assumption) | exact Nat.ne_of_lt (by assumption) | exact Nat.ne_of_gt (by assumption) | exact Nat.ne_of_gt (cj1 (by assumption)) | exact Nat.ne_of_lt (cj1 (by assumption)) | exact Nat.ne_of_gt (cj2 (by assumption)) | exact Nat.ne_of_lt (cj2 (by assumption)) | exact Nat.ne_of_gt (cj3 (by assumption)) | exact Nat.ne_of_lt (cj3 (by assumption)) | exact Nat.ne_of_gt (cj4 (by assumption)) | exact Nat.ne_of_lt (cj4 (by assumption)) | exact Nat.ne_of_gt (cj5 (by assumption)) | exact Nat.ne_of_lt (cj5 (by assumption)) | exact Nat.ne_of_gt (cj6 (by assumption)) | exact Nat.ne_of_lt (cj6 (by assumption)) | exact Nat.ne_of_gt (cj7 (by assumption)) | exact Nat.ne_of_lt (cj7 (by assumption)) | exact Nat.ne_of_gt (cj8 (by assumption)) | exact Nat.ne_of_lt (cj8 (by assumption)) | exact Nat.ne_of_gt (cj9 (by assumption)) | exact Nat.ne_of_lt (cj9 (by assumption)) | exact Nat.ne_of_gt (cl2 (by assumption)) | exact Nat.ne_of_lt (cl2 (by assumption)) | exact Nat.ne_of_gt (cl3 (by assumption)) | exact Nat.ne_of_lt (cl3 (by assumption)) | exact Nat.ne_of_gt (cl4 (by assumption)) | exact Nat.ne_of_lt (cl4 (by assumption)) | exact Nat.ne_of_gt (cl5 (by assumption)) | exact Nat.ne_of_lt (cl5 (by assumption)) | exact Nat.ne_of_gt (cl6 (by assumption)) | exact Nat.ne_of_lt (cl6 (by assumption)) | exact Nat.ne_of_gt (cl7 (by assumption)) | exact Nat.ne_of_lt (cl7 (by assumption)) | exact Nat.ne_of_gt (cl8 (by assumption)) | exact Nat.ne_of_lt (cl8 (by assumption)) | exact Nat.ne_of_gt (cl9 (by assumption)) | exact Nat.ne_of_lt (cl9 (by assumption)) | (refine neN ?_; (try dsimp only); omega))
  k_with "apt" => (repeat' (first | exact trivial | assumption | exact Dif.symm (by assumption) | exact Dif.mk (by walk_at "ne") | apply And.intro))
  k_with "sub" => (first | (intro p9 h9; k_ownIn) | (intro p9 h9; simp only [List.mem_cons, List.mem_append, h9, true_or, or_true]; done) | exact List.forall_mem_nil _ | (refine List.forall_mem_cons.mpr ⟨by k_memK, ?_⟩; walk_at "sub"))
  k_with "conj" => (repeat (rename _ ∧ _ => hc9; obtain ⟨_, _⟩ := hc9))
  k_with "call builtin:list.append" => ((k_here; (with_reducible show wpAny _ _ (call (Value.builtin _) [Value.ref _, _]) _ _ _); k_dflt (refine' append_L ?k1 ?k2 ?k3 ?_ ?z; (case k1 => k_asm); (case k2 => k_asm); (case k3 => k_upd); (case z => omega); k_whole); intro h' F' N'))
  k_with "call type:bytes" => ((k_here; (with_reducible show wpAny _ _ (call (Value.type "bytes") [Value.int _ _]) _ _ _); k_dflt (refine bytes_of_int (by omega) (by omega) ?_); intro _ _ hb9))
  k_with "call type:range" => (((rename Fr _ _ _ _ => F9'); (rename News _ _ _ _ => N9'); (with_unfolding_all refine range1_rows F9' N9' ?_); intro _ _ _ _ _ _ _ _ _))
  k_with "call ref" => (
    (rename Fr _ _ _ _ => lF)
    (rename News _ _ _ _ => lN)
    first
    | ((with_reducible show wpAny _ _ (call (Value.ref 298) _) _ _ _)
       k_dflt (refine Ct.use K0 lF KX lN T rfl (binsL w off_nil m10 m11) (by ktr_room) (by ktr_units) ?_)
       intro bx bd bsl bnl f0 f1 j0 j1 us vs0 ss nss q1 q2 d2 td2 m2 tm2 hus hvs lss lns hss hns m20 m21 p1 p2 p3 p4 p5 h8 tk8 F8 N8)
    | ((with_reducible show wpAny _ _ (call (Value.ref 312) _) _ _ _)
       k_dflt (have lM := Mine.News.sub (l' := (src, srcO _ _ _ _ n1) :: (bx, instObj 154 bd) :: (bd, binD f0 f1 j0 j1 bsl bnl) :: (bsl, listOf us.toArray q1) :: (bnl, listOf vs0.toArray q2) :: []) lN (by walk_at "sub"))
       k_dflt (refine Ct.use K0 lF KX lM T rfl (decL w (off_cons (by walk_at "apt") (off_cons (by walk_at "apt") (off_cons (by walk_at "apt") (off_cons (by walk_at "apt") off_nil)))) m20 m21) (by ktr_room) (by ktr_units) ?_)
       intro rl refs tups decs q3 d3 td3 m3 tm3 hrow hdl hdok m30 m31 g1 g2 g3 h7 tk7 F7 N7
       refine lte4 g3 fun g4 g5 g6 g7 => ?_
       clear g3
       k_dflt (have lM := Mine.News.sub (l' := (bx, instObj 154 bd) :: (bd, binD f0 f1 j0 j1 bsl bnl) :: (bsl, listOf us.toArray q1) :: (bnl, listOf vs0.toArray q2) :: (src, srcO d3 td3 m3 tm3 n1) :: (rl, listOf refs.toArray q3) :: tups) N7 (rotL (A := [(src, srcO d3 td3 m3 tm3 n1), (rl, listOf refs.toArray q3)]) (B := tups) (C := [(bx, instObj 154 bd), (bd, binD f0 f1 j0 j1 bsl bnl), (bsl, listOf us.toArray q1), (bnl, listOf vs0.toArray q2)])))
       clear N7))
  k_steps
  dsimp only [NextG]
  -- encoder, there, states
  k_with_none
  k_with "all" => (first | exact allLt_ne (by assumption) | exact allLt_ne (cl2 (by assumption)) | exact allLt_ne (cl3 (by assumption)) | exact allLt_ne (cl4 (by assumption)) | exact allLt_ne (cl5 (by assumption)) | exact allLt_ne (cl6 (by assumption)) | exact allLt_ne (cl7 (by assumption)) | exact allLt_ne (cl8 (by assumption)) | exact allLt_ne (cl9 (by assumption)))
  k_with "ne" => (first | exact Dif.ne (by assumption) | exact Dif.ne' (by assumption) | exact Nat.ne_of_lt (by assumption) | exact Nat.ne_of_gt (by assumption) | exact Nat.ne_of_gt (cj1 (by assumption)) | exact Nat.ne_of_lt (cj1 (by assumption)) | exact Nat.ne_of_gt (cj2 (by assumption)) | exact Nat.ne_of_lt (cj2 (by assumption)) | exact Nat.ne_of_gt (cj3 (by assumption)) | exact Nat.ne_of_lt (cj3 (by assumption)) | exact Nat.ne_of_gt (cj4 (by assumption)) | exact Nat.ne_of_lt (cj4 (by assumption)) | exact Nat.ne_of_gt (cj5 (by assumption)) | exact Nat.ne_of_lt (cj5 (by assumption)) | exact Nat.ne_of_gt (cj6 (by assumption)) | exact Nat.ne_of_lt (cj6 (by assumption)) | exact Nat.ne_of_gt (cj7 (by assumption)) | exact Nat.ne_of_lt (cj7 (by assumption)) | exact Nat.ne_of_gt (cj8 (by assumption)) | exact Nat.ne_of_lt (cj8 (by assumption)) | exact Nat.ne_of_gt (cj9 (by assumption)) | exact Nat.ne_of_lt (cj9 (by assumption)) | exact Nat.ne_of_gt (cl2 (by assumption)) | exact Nat.ne_of_lt (cl2 (by assumption)) | exact Nat.ne_of_gt (cl3 (by assumption)) | exact Nat.ne_of_lt (cl3 (by assumption)) | exact Nat.ne_of_gt (cl4 (by assumption)) | exact Nat.ne_of_lt (cl4 (by assumption)) | exact Nat.ne_of_gt (cl5 (by assumption)) | exact Nat.ne_of_lt (cl5 (by assumption)) | exact Nat.ne_of_gt (cl6 (by assumption)) | exact Nat.ne_of_lt (cl6 (by assumption)) | exact Nat.ne_of_gt (cl7 (by assumption)) | exact Nat.ne_of_lt (cl7 (by assumption)) | exact Nat.ne_of_gt (cl8 (by assumption)) | exact Nat.ne_of_lt (cl8 (by assumption)) | exact Nat.ne_of_gt (cl9 (by assumption)) | exact Nat.ne_of_lt (cl9 (by assumption)) | (refine neN ?_; (try dsimp only); omega))
  k_with "apt" => (repeat' (first | exact trivial | assumption | exact Dif.symm (by assumption) | exact Dif.mk (by walk_at "ne") | apply And.intro))
  k_with "sub" => (first | (intro p9 h9; k_ownIn) | (intro p9 h9; simp only [List.mem_cons, List.mem_append, h9, true_or, or_true]; done) | exact List.forall_mem_nil _ | (refine List.forall_mem_cons.mpr ⟨by k_memK, ?_⟩; walk_at "sub"))
  k_with "conj" => (repeat (rename _ ∧ _ => hc9; obtain ⟨_, _⟩ := hc9))
  k_with "call builtin:list.append" => ((k_here; (with_reducible show wpAny _ _ (call (Value.builtin _) [Value.ref _, _]) _ _ _); k_dflt (refine' append_L ?k1 ?k2 ?k3 ?_ ?z; (case k1 => k_asm); (case k2 => k_asm); (case k3 => k_upd); (case z => omega); k_whole); intro h' F' N'))
  k_with "call type:bytes" => ((k_here; (with_reducible show wpAny _ _ (call (Value.type "bytes") [Value.int _ _]) _ _ _); k_dflt (refine bytes_of_int (by omega) (by omega) ?_); intro _ _ hb9))
  k_with "call type:range" => (((rename Fr _ _ _ _ => F9'); (rename News _ _ _ _ => N9'); (with_unfolding_all refine range1_rows F9' N9' ?_); intro _ _ _ _ _ _ _ _ _))
  (rename Fr _ _ _ _ => lF)
  (rename News _ _ _ _ => lN)
  k_dflt (have lM := Mine.News.sub (l' := (bx, instObj 154 bd) :: (bd, binD f0 f1 j0 j1 bsl bnl) :: (bsl, listOf us.toArray q1) :: (bnl, listOf vs0.toArray q2) :: (src, srcO d3 td3 m3 tm3 n1) :: (rl, listOf refs.toArray q3) :: tups) lN (by walk_at "sub"))
  clear lN
  refine wpG_execs_cons (wpG_Assign_swapped (wpG_Tuple1 (wpG_CallName ?_)))
  k_steps
  k_dflt (refine' wpG_callWith_K0 ?x1 ?x2 ?_; (case x1 => k_in); (case x2 => k_is))
  k_dflt (refine' makeG ?kF ?kN ?kX ?hm ?hi ?hf ?_; (case kF => k_asm); (case kN => k_asm); (case kX => k_in); (case hm => k_is); (case hi => k_is); (case hf => k_is))
  intro y dy h6 F6 N6 e1 e2
  k_dflt (refine CtGC.use (calm_one.cons _) tight_make K0 F6 KX N6 T rfl (initE w (allLt_offs e1 (by simp; omega)) ⟨⟨Dif.mk (by omega), trivial⟩, trivial, trivial⟩) (by ktr_room) room_make ?_)
  intro ee0 ee1 ee2 ee3 kk0 kk1 kk2 kk3 ts5 tc5 tl5 fb e3 e4 e5 h5 tk5 F5 N5
  refine ⟨rfl, ?_⟩
  dsimp only [RetG]
  refine lts6 e1 fun a1 a2 a3 a4 a5 a6 a7 => ?_
  clear e1
  simp only [AllLt] at e5
  k_with "call ref" => (
    ((with_reducible show wpAny _ _ (call (Value.ref 305) _) _ _ _))
    (rename Fr _ _ _ _ => lF)
    (rename News _ _ _ _ => lN)
    k_dflt (have lM := Mine.News.sub (l' := (bx, instObj 154 bd) :: (bd, binD f0 f1 j0 j1 bsl bnl) :: (bsl, listOf us.toArray q1) :: (bnl, listOf vs0.toArray q2) :: (y, instObj 273 dy) :: (dy, encD ee0 ee1 ee2 ee3 kk0 kk1 kk2 kk3 65536 ts5 0 tc5 11 tl5 fb) :: (fb, baOf []) :: (src, srcO d3 td3 m3 tm3 n1) :: (rl, listOf refs.toArray q3) :: tups) lN (by walk_at "sub"))
    k_dflt (refine Ct.use K0 lF KX lM T rfl (sameB w (by walk_at "apt") hus hvs lss lns) (by ktr_room) (by ktr_units) ?_)
    intro tx td tsl tnl gg0 gg1 ii0 ii1 q4 q5 b1 b2 b3 b4 b5 b6 b7 b8 h4 tk4 F4 N4)
  k_with "newList" => (k_dflt (refine' newList_K ?k1 ?k2 ?_; (case k1 => k_asm); (case k2 => k_asm); k_whole); intro stl h3 F3 N3 c1; k_lt c1)
  k_steps
  dsimp only [NextG]
  k_with_none
  k_with "all" => (first | exact allLt_ne (by assumption) | exact allLt_ne (cl2 (by assumption)) | exact allLt_ne (cl3 (by assumption)) | exact allLt_ne (cl4 (by assumption)) | exact allLt_ne (cl5 (by assumption)) | exact allLt_ne (cl6 (by assumption)) | exact allLt_ne (cl7 (by assumption)) | exact allLt_ne (cl8 (by assumption)) | exact allLt_ne (cl9 (by assumption)))
  k_with "ne" => (first | exact Dif.ne (by assumption) | exact Dif.ne' (by assumption) | exact Nat.ne_of_lt (by assumption) | exact Nat.ne_of_gt (by assumption) | exact Nat.ne_of_gt (cj1 (by assumption)) | exact Nat.ne_of_lt (cj1 (by assumption)) | exact Nat.ne_of_gt (cj2 (by assumption)) | exact Nat.ne_of_lt (cj2 (by assumption)) | exact Nat.ne_of_gt (cj3 (by assumption)) | exact Nat.ne_of_lt (cj3 (by assumption)) | exact Nat.ne_of_gt (cj4 (by assumption)) | exact Nat.ne_of_lt (cj4 (by assumption)) | exact Nat.ne_of_gt (cj5 (by assumption)) | exact Nat.ne_of_lt (cj5 (by assumption)) | exact Nat.ne_of_gt (cj6 (by assumption)) | exact Nat.ne_of_lt (cj6 (by assumption)) | exact Nat.ne_of_gt (cj7 (by assumption)) | exact Nat.ne_of_lt (cj7 (by assumption)) | exact Nat.ne_of_gt (cj8 (by assumption)) | exact Nat.ne_of_lt (cj8 (by assumption)) | exact Nat.ne_of_gt (cj9 (by assumption)) | exact Nat.ne_of_lt (cj9 (by assumption)) | exact Nat.ne_of_gt (cl2 (by assumption)) | exact Nat.ne_of_lt (cl2 (by assumption)) | exact Nat.ne_of_gt (cl3 (by assumption)) | exact Nat.ne_of_lt (cl3 (by assumption)) | exact Nat.ne_of_gt (cl4 (by assumption)) | exact Nat.ne_of_lt (cl4 (by assumption)) | exact Nat.ne_of_gt (cl5 (by assumption)) | exact Nat.ne_of_lt (cl5 (by assumption)) | exact Nat.ne_of_gt (cl6 (by assumption)) | exact Nat.ne_of_lt (cl6 (by assumption)) | exact Nat.ne_of_gt (cl7 (by assumption)) | exact Nat.ne_of_lt (cl7 (by assumption)) | exact Nat.ne_of_gt (cl8 (by assumption)) | exact Nat.ne_of_lt (cl8 (by assumption)) | exact Nat.ne_of_gt (cl9 (by assumption)) | exact Nat.ne_of_lt (cl9 (by assumption)) | (refine neN ?_; (try dsimp only); omega))
  k_with "apt" => (repeat' (first | exact trivial | assumption | exact Dif.symm (by assumption) | exact Dif.mk (by walk_at "ne") | apply And.intro))
  k_with "sub" => (first | (intro p9 h9; k_ownIn) | (intro p9 h9; simp only [List.mem_cons, List.mem_append, h9, true_or, or_true]; done) | exact List.forall_mem_nil _ | (refine List.forall_mem_cons.mpr ⟨by k_memK, ?_⟩; walk_at "sub"))
  k_with "conj" => (repeat (rename _ ∧ _ => hc9; obtain ⟨_, _⟩ := hc9))
  k_with "call builtin:list.append" => ((k_here; (with_reducible show wpAny _ _ (call (Value.builtin _) [Value.ref _, _]) _ _ _); k_dflt (refine' append_L ?k1 ?k2 ?k3 ?_ ?z; (case k1 => k_asm); (case k2 => k_asm); (case k3 => k_upd); (case z => omega); k_whole); intro h' F' N'))
  k_with "call type:bytes" => ((k_here; (with_reducible show wpAny _ _ (call (Value.type "bytes") [Value.int _ _]) _ _ _); k_dflt (refine bytes_of_int (by omega) (by omega) ?_); intro _ _ hb9))
  k_with "call type:range" => (((rename Fr _ _ _ _ => F9'); (rename News _ _ _ _ => N9'); (with_unfolding_all refine range1_rows F9' N9' ?_); intro _ _ _ _ _ _ _ _ _))
  (rename Fr _ _ _ _ => lF)
  (rename News _ _ _ _ => lN)
  refine and5 c1 fun c2 c3 c4 c5 c6 => ?_
  clear c1 c6
  refine lts3 b5 fun b51 b52 b53 b54 => ?_
  clear b5 b54
  -- for at, bit in row
  have hfl : AllLt dy ((bx, instObj 154 bd) :: (bd, binD f0 f1 j0 j1 bsl bnl) :: (bsl, listOf us.toArray q1) :: (bnl, listOf vs0.toArray q2) :: (src, srcO d3 td3 m3 tm3 n1) :: (rl, listOf refs.toArray q3) :: tups) := ⟨a1, a2, a3, a4, a5, a6, a7⟩
  have hrep : EncRep [] 0 0 65536 0 11 := ⟨11, 0, rfl, rfl, by decide, by decide, by decide, by decide, by decide, by decide⟩
  have hok : TabOk (tabv w.params) := fun s h0 h1 => val_ok h0 h1
  have hwf0 : WF ⟨ss, nss, 0, 65536, 0⟩ := ⟨lss, lns, hss, hns, (by show 32768 ≤ 65536; omega), (by show 65536 ≤ 65536; omega)⟩
  have hapt : Apt [y, dy, fb, tx, td, tsl, tnl] := by walk_at "apt"
  have hrange : ∀ b ∈ [y, dy, fb, tx, td, tsl, tnl, stl], @LE.le Nat _ dy b ∧ @LE.le Nat _ b stl := by
    iterate 8 (refine List.forall_mem_cons.mpr ⟨⟨by first | exact Nat.le_refl _ | exact Nat.le_of_lt (by assumption) | omega, by first | exact Nat.le_refl _ | exact Nat.le_of_lt (by assumption) | omega⟩, ?_⟩)
    exact List.forall_mem_nil _
  refine wpG_execs_cons ?_
  k_dflt (refine law_loop (a := ⟨y, dy, fb, tx, td, tsl, tnl, stl, rl, ee0, ee1, ee2, ee3, kk0, kk1, kk2, kk3, gg0, gg1, ii0, ii1, q4, q5, q3⟩) (fix1 := [(bx, instObj 154 bd), (bd, binD f0 f1 j0 j1 bsl bnl), (bsl, listOf us.toArray q1), (bnl, listOf vs0.toArray q2), (src, srcO d3 td3 m3 tm3 n1), (rl, listOf refs.toArray q3)]) (σ₀ := ⟨ss, nss, 0, 65536, 0⟩) (T := tabv w.params) (decs := decs) ?_ rfl lF lN rfl (by dsimp only [List.cons_append, List.nil_append]; k_memK) hrow (by dsimp only [LA.led, List.cons_append, List.nil_append]; walk_at "sub") hus hvs hrep ?_ ?_)
  · k_steps
  · clear lF lN
    rintro i c t u dd ua ub b size ts code tc left tl us4 vs4 strefs q extra h8 tk8 I it hdd hlt hmem z1 z2 z3 z4 z5 z6 hne F8 N8
    dsimp only [LA.led, List.cons_append, List.nil_append] at z6 N8
    refine offs8 hne fun v1 v2 v3 v4 v5 v6 v7 v8 v9 => ?_
    have offX : OwnOff (extra ++ (bx, instObj 154 bd) :: (bd, binD f0 f1 j0 j1 bsl bnl) :: (bsl, listOf us.toArray q1) :: (bnl, listOf vs0.toArray q2) :: (src, srcO d3 td3 m3 tm3 n1) :: (rl, listOf refs.toArray q3) :: tups) [y, dy, fb, tx, td, tsl, tnl, stl] := off_mid z6 hfl hrange
    have hT : IsTup h8 c #[.int dd.1 t, .int dd.2 u] := News.isTup N8 (by
      iterate 9 apply List.mem_cons_of_mem
      apply List.mem_append_right
      iterate 6 apply List.mem_cons_of_mem
      exact hmem)
    refine and2 (encs_wf hok hwf0 hdok i) fun wf wfn => ?_
    dsimp only at wfn
    have dok := hdok dd (List.mem_of_getElem? hdd)
    have hat := wf.at (show dd.1.toNat < 3 by omega)
    k_steps
    refine wpG_execs_cons (wpG_Expr (wpG_Method ?_))
    k_steps
    k_dflt (refine' wpG_callWith_K1 (K := Mine.Lit.lt.heap_1 w.params) ?x2 ?_; (case x2 => k_is))
    k_steps
    have z51 := z5.1
    have u1 : Dif I y := Ne.symm v1
    have u2 : Dif I dy := Ne.symm v2
    have u3 : Dif I fb := Ne.symm v3
    have u4 : Dif I tx := Ne.symm v4
    have u5 : Dif I td := Ne.symm v5
    have u6 : Dif I tsl := Ne.symm v6
    have u7 : Dif I tnl := Ne.symm v7
    have u8 : Dif I stl := Ne.symm v8
    (rename Fr _ _ _ _ => lF)
    (rename News _ _ _ _ => lN)
    k_dflt (have lM := Mine.News.sub (l' := (y, instObj 273 dy) :: (dy, encD ee0 ee1 ee2 ee3 kk0 kk1 kk2 kk3 size ts code tc left tl fb) :: (fb, baOf b) :: (tx, instObj 154 td) :: (td, binD gg0 gg1 ii0 ii1 tsl tnl) :: (tsl, listOf us4.toArray q4) :: (tnl, listOf vs4.toArray q5) :: (I, it) :: (stl, listOf strefs.toArray q) :: (extra ++ (bx, instObj 154 bd) :: (bd, binD f0 f1 j0 j1 bsl bnl) :: (bsl, listOf us.toArray q1) :: (bnl, listOf vs0.toArray q2) :: (src, srcO d3 td3 m3 tm3 n1) :: (rl, listOf refs.toArray q3) :: tups)) lN (by walk_at "sub"))
    k_dflt (refine CtG.use calm_one tight_law K0 lF KX lM T rfl (putE w (off_cons (by walk_at "apt") (off_cons (by walk_at "apt") (off_sub offX (mem_pre [stl])))) hapt z1 z2 wf.ls wf.ln dok.1 dok.2.1 hat.1 hat.2 (by omega) z3 wf.z1 wf.z2 z4) (by ktr_room) (by ktr_units) ?_)
    intro b5 size5 ts5 code5 tc5 left5 tl5 us5 vs5 w1 w2 w3 w4 h5 tk5 F5 N5
    clear lF lN lM
    generalize hσ5 : putP (tabv w.params) ⟨_, _, _, _, _⟩ dd.1.toNat dd.2 = σ5 at w1 w2 w3 w4
    have wf5 : WF σ5 := by rw [← hσ5]; exact (put_wf (bit := dd.2) hok wf (by omega)).1
    have ls5 := wf5.ls
    have ln5 := wf5.ln
    refine ⟨(fun _ e => by cases e), ?_⟩
    dsimp only [NextG]
    refine wpG_execs_any ?_
    k_steps
    dsimp only [NextG]
    refine wpG_execs_nil ?_
    (rename Fr _ _ _ _ => lF)
    (rename News _ _ _ _ => lN)
    refine' law_turn_eq hσ5 (extra := extra) (strefs := strefs) (us := us5) (vs := vs5) lF lN ?hM ?n0 ?n1 ?n3 ?n4 ?n5 ?l1 ?l2 ?l3 ?i1 ?i2 ?i3 ?hne hdd z5 z6 w1 w2 w3 w4
    case n1 => (dsimp only [LA.led]; walk_at "sub")
    case n3 => k_memK
    case n4 => k_memK
    case n5 => k_memK
    case n0 => k_memK
    case hM => (intro z h1 h2; repeat (first | refine (if_neg h1).trans ?_ | refine (if_neg h2).trans ?_ | exact rfl))
    case l1 => (dsimp only; omega)
    case l2 => (dsimp only; omega)
    case l3 => (dsimp only; omega)
    case i1 => omega
    case i2 => omega
    case i3 => omega
    case hne =>
      intros
      rename_i p hp
      dsimp only [LA.led] at hp
      revert p
      exact List.forall_mem_cons.mpr ⟨v1, List.forall_mem_cons.mpr ⟨v2, List.forall_mem_cons.mpr ⟨v3, List.forall_mem_cons.mpr ⟨v4, List.forall_mem_cons.mpr ⟨v5, List.forall_mem_cons.mpr ⟨v6, List.forall_mem_cons.mpr ⟨v7, List.forall_mem_cons.mpr ⟨v8, v9⟩⟩⟩⟩⟩⟩⟩⟩
  · clear lF lN
    rintro ua ub b size ts code tc left tl us4 vs4 strefs q extra h8 tk8 z1 z2 z3 z4 z5 z6 F8 N8
    dsimp only [LA.led, List.cons_append, List.nil_append] at z6 N8
    have offX : OwnOff (extra ++ (bx, instObj 154 bd) :: (bd, binD f0 f1 j0 j1 bsl bnl) :: (bsl, listOf us.toArray q1) :: (bnl, listOf vs0.toArray q2) :: (src, srcO d3 td3 m3 tm3 n1) :: (rl, listOf refs.toArray q3) :: tups) [y, dy, fb, tx, td, tsl, tnl, stl] := off_mid z6 hfl hrange
    refine and2 (encs_wf hok hwf0 hdok decs.length) fun wf wfn => ?_
    dsimp only at wfn
    dsimp only [NextG]
    refine wpG_execs_cons (wpG_Assign_Name (wpG_Method ?_))
    k_steps
    k_dflt (refine' wpG_callWith_K0 (K := Mine.Lit.lt.heap_1 w.params) ?x1 ?x2 ?_; (case x1 => k_in); (case x2 => k_is))
    k_dflt (refine CtG.use calm_one tight_law K0 F8 KX N8 T rfl (finishE w (off_cons (by walk_at "apt") (off_cons (by walk_at "apt") (off_cons (by walk_at "apt") (off_cons (by walk_at "apt") (off_cons (by walk_at "apt") (off_sub offX (mem_pre [tx, td, tsl, tnl, stl]))))))) (by walk_at "apt") (by omega) z3 wf.z1 wf.z2 z4) (by ktr_room) (by ktr_units) ?_)
    intro oc toc size7 ts7 code7 tc7 left7 tl7 V TT lf hlast hV1 hV2 hV0 hlT hRT hT8 hlf h7 tk7 F7 N7
    k_dflt (have lM := Mine.News.sub (l' := (bx, instObj 154 bd) :: (bd, binD f0 f1 j0 j1 bsl bnl) :: (bsl, listOf us.toArray q1) :: (bnl, listOf vs0.toArray q2) :: (src, srcO d3 td3 m3 tm3 n1) :: (rl, listOf refs.toArray q3) :: (stl, listOf strefs.toArray q) :: (tups ++ extra)) N7 done_sub)
    clear N8 F8 N7
    k_steps
    dsimp only [NextG]
    have hbi : KBw.bInts oc.toArray = oc.map (fun c => (c.toNat : Int)) := KBw.ints_list oc
    have hol : oc.length ≤ 62 := by omega
    have hrl : refs.length ≤ 30 := by rw [hrow.1]; exact hdl
    have hemp : decs = [] → oc = [] := by
      intro e
      have hC : (encs (tabv w.params) ⟨ss, nss, 0, 65536, 0⟩ decs decs.length).C = 0 := by rw [e]; rfl
      rw [hV0 hC, Nat.zero_mul] at hRT
      refine none_left (T := TT) ?_ hlT hlast
      rcases Nat.mul_eq_zero.mp hRT with h | h
      · exact h
      · exact absurd h (by decide)
    (rename Fr _ _ _ _ => lF)
    (rename News _ _ _ _ => lN)
    k_dflt (refine if_join lF lN (fun lF lN => ?_) ?_)
    · skip
      k_with "compareOp Eq bytes bytes" => (k_dflt (refine eq_no (pick_ne hlast rfl rfl) ?_))
      k_with "compareOp NotEq bytes bytes" => (k_dflt (refine ne_no (by rw [hemp (by assumption)]) ?_))
      k_with "compareOp Eq ref ref" => (
        (rename News _ _ _ _ => lN9)
        k_dflt (first
          | (refine row_eq2 (b := true) lN9 (by k_memK) (by k_memK) (by walk_at "sub") hrow (by ktr_units) (decide_eq_true (by assumption)) ?_)
          | (refine row_eq2 (b := false) lN9 (by k_memK) (by k_memK) (by walk_at "sub") hrow (by ktr_units) (decide_eq_false (by assumption)) ?_)))
      by_cases hd0 : decs = []
      all_goals k_steps
      all_goals first | assumption | (k_end; (rename News _ _ _ _ => lN9); exact Mine.News.sub lN9 (by walk_at "sub"))
    · intro h6 tk6 F6 N6
      k_with_none
      k_with "all" => (first | exact allLt_ne (by assumption) | exact allLt_ne (cl2 (by assumption)) | exact allLt_ne (cl3 (by assumption)) | exact allLt_ne (cl4 (by assumption)) | exact allLt_ne (cl5 (by assumption)) | exact allLt_ne (cl6 (by assumption)) | exact allLt_ne (cl7 (by assumption)) | exact allLt_ne (cl8 (by assumption)) | exact allLt_ne (cl9 (by assumption)))
      k_with "ne" => (first | exact Dif.ne (by assumption) | exact Dif.ne' (by assumption) | exact Nat.ne_of_lt (by assumption) | exact Nat.ne_of_gt (by assumption) | exact Nat.ne_of_gt (cj1 (by assumption)) | exact Nat.ne_of_lt (cj1 (by assumption)) | exact Nat.ne_of_gt (cj2 (by assumption)) | exact Nat.ne_of_lt (cj2 (by assumption)) | exact Nat.ne_of_gt (cj3 (by assumption)) | exact Nat.ne_of_lt (cj3 (by assumption)) | exact Nat.ne_of_gt (cj4 (by assumption)) | exact Nat.ne_of_lt (cj4 (by assumption)) | exact Nat.ne_of_gt (cj5 (by assumption)) | exact Nat.ne_of_lt (cj5 (by assumption)) | exact Nat.ne_of_gt (cj6 (by assumption)) | exact Nat.ne_of_lt (cj6 (by assumption)) | exact Nat.ne_of_gt (cj7 (by assumption)) | exact Nat.ne_of_lt (cj7 (by assumption)) | exact Nat.ne_of_gt (cj8 (by assumption)) | exact Nat.ne_of_lt (cj8 (by assumption)) | exact Nat.ne_of_gt (cj9 (by assumption)) | exact Nat.ne_of_lt (cj9 (by assumption)) | exact Nat.ne_of_gt (cl2 (by assumption)) | exact Nat.ne_of_lt (cl2 (by assumption)) | exact Nat.ne_of_gt (cl3 (by assumption)) | exact Nat.ne_of_lt (cl3 (by assumption)) | exact Nat.ne_of_gt (cl4 (by assumption)) | exact Nat.ne_of_lt (cl4 (by assumption)) | exact Nat.ne_of_gt (cl5 (by assumption)) | exact Nat.ne_of_lt (cl5 (by assumption)) | exact Nat.ne_of_gt (cl6 (by assumption)) | exact Nat.ne_of_lt (cl6 (by assumption)) | exact Nat.ne_of_gt (cl7 (by assumption)) | exact Nat.ne_of_lt (cl7 (by assumption)) | exact Nat.ne_of_gt (cl8 (by assumption)) | exact Nat.ne_of_lt (cl8 (by assumption)) | exact Nat.ne_of_gt (cl9 (by assumption)) | exact Nat.ne_of_lt (cl9 (by assumption)) | (refine neN ?_; (try dsimp only); omega))
      k_with "apt" => (repeat' (first | exact trivial | assumption | exact Dif.symm (by assumption) | exact Dif.mk (by walk_at "ne") | apply And.intro))
      k_with "sub" => (first | (intro p9 h9; k_ownIn) | (intro p9 h9; simp only [List.mem_cons, List.mem_append, h9, true_or, or_true]; done) | exact List.forall_mem_nil _ | (refine List.forall_mem_cons.mpr ⟨by k_memK, ?_⟩; walk_at "sub"))
      k_with "conj" => (repeat (rename _ ∧ _ => hc9; obtain ⟨_, _⟩ := hc9))
      k_with "call builtin:list.append" => ((k_here; (with_reducible show wpAny _ _ (call (Value.builtin _) [Value.ref _, _]) _ _ _); k_dflt (refine' append_L ?k1 ?k2 ?k3 ?_ ?z; (case k1 => k_asm); (case k2 => k_asm); (case k3 => k_upd); (case z => omega); k_whole); intro h' F' N'))
      k_with "call type:bytes" => ((k_here; (with_reducible show wpAny _ _ (call (Value.type "bytes") [Value.int _ _]) _ _ _); k_dflt (refine bytes_of_int (by omega) (by omega) ?_); intro _ _ hb9))
      k_with "call type:range" => (((rename Fr _ _ _ _ => F9'); (rename News _ _ _ _ => N9'); (with_unfolding_all refine range1_rows F9' N9' ?_); intro _ _ _ _ _ _ _ _ _))
      have offS : OwnOff (tups ++ extra) [src] := off_gt (allGt_app g1 z6 (by omega)) (by intro b hb; rw [List.mem_singleton.mp hb]; omega)
      k_with "call ref" => (
        (rename Fr _ _ _ _ => lF)
        (rename News _ _ _ _ => lN)
        first
        | ((with_reducible show wpAny _ _ (call (Value.ref 291) _) _ _ _)
           k_dflt (refine' take_use K0 lF KX lN T rfl ?kU ?kh1 ?kh2 m30 m31 ?khd ?khu ?_; (case kU => k_updF); (case kh1 => decide); (case kh2 => decide); (case khd => ktr_room); (case khu => ktr_units))
           intro r9 tr9 d9 td9 m9 tm9 h9 tk9 r90 r91 m90 m91 F9 N9)
        | ((with_reducible show wpAny _ _ (call (Value.ref 217) _) _ _ _)
           k_dflt (refine' call_cls lF KX lN ?hm ?hi ?hf ?_; (case hm => k_is); (case hi => k_is); (case hf => k_is))
           intro x dx h5 F5 N5 x1 x2
           have x3 := allLt_of x1
           have x4 : @LT.lt Nat _ dx x := x2
           k_dflt (refine CtC.use K0 F5 KX N5 T rfl (initD w (allLt_offs x3 (by simp; omega)) ⟨⟨Dif.mk (by omega), trivial⟩, trivial, trivial⟩ (by simp; omega)) (depth_make2 _) (room_make2 _) ?_)
           intro ne0 ne1 ne2 ne3 ne4 nk0 nk1 nk2 nk3 nk4 tb4 at4 ta4 ts4 code4 tc4 tl4 hrep4 hc40 hc41 h4 tk4 F4 N4
           refine ⟨rfl, ?_⟩
           dsimp only
           refine lts7 x3 fun y1 y2 y3 y4 y5 y6 y7 y8 => ?_
           clear x3)
        | ((with_reducible show wpAny _ _ (call (Value.ref 305) _) _ _ _)
           k_dflt (have lM := Mine.News.sub (l' := (bx, instObj 154 bd) :: (bd, binD f0 f1 j0 j1 bsl bnl) :: (bsl, listOf us.toArray q1) :: (bnl, listOf vs0.toArray q2) :: (x, instObj 217 dx) :: (dx, decD ne0 ne1 ne2 ne3 ne4 nk0 nk1 nk2 nk3 nk4 (oc ++ List.replicate r9.toNat 0).toArray tb4 at4 ta4 65536 ts4 code4 tc4 0 tl4) :: (src, srcO d9 td9 m9 tm9 n1) :: (rl, listOf refs.toArray q3) :: (stl, listOf strefs.toArray q) :: (tups ++ extra)) lN (by walk_at "sub"))
           k_dflt (refine Ct.use K0 lF KX lM T rfl (sameB w (by walk_at "apt") hus hvs lss lns) (by ktr_room) (by ktr_units) ?_)
           intro kx kd ksl knl hg0 hg1 hi0 hi1 q6 q7 w1 w2 w3 w4 w5 w6 w7 w8 h3 tk3 F3 N3))
      k_with "binaryOp Add bytes bytes" => (k_dflt (refine bytes_add_K (by simp; omega) rfl ?_); intro _ _)
      refine wpG_execs_any ?_
      iterate 28 (first | walk1 | (dsimp only; walk1))
      k_extra "call ref"
      iterate 8 (first | walk1 | (dsimp only; walk1))
      k_extra "call ref"
      k_steps
      dsimp only [NextG]
      refine wpG_of ?_
      k_with_none
      k_with "all" => (first | exact allLt_ne (by assumption) | exact allLt_ne (cl2 (by assumption)) | exact allLt_ne (cl3 (by assumption)) | exact allLt_ne (cl4 (by assumption)) | exact allLt_ne (cl5 (by assumption)) | exact allLt_ne (cl6 (by assumption)) | exact allLt_ne (cl7 (by assumption)) | exact allLt_ne (cl8 (by assumption)) | exact allLt_ne (cl9 (by assumption)))
      k_with "ne" => (first | exact Dif.ne (by assumption) | exact Dif.ne' (by assumption) | exact Nat.ne_of_lt (by assumption) | exact Nat.ne_of_gt (by assumption) | exact Nat.ne_of_gt (cj1 (by assumption)) | exact Nat.ne_of_lt (cj1 (by assumption)) | exact Nat.ne_of_gt (cj2 (by assumption)) | exact Nat.ne_of_lt (cj2 (by assumption)) | exact Nat.ne_of_gt (cj3 (by assumption)) | exact Nat.ne_of_lt (cj3 (by assumption)) | exact Nat.ne_of_gt (cj4 (by assumption)) | exact Nat.ne_of_lt (cj4 (by assumption)) | exact Nat.ne_of_gt (cj5 (by assumption)) | exact Nat.ne_of_lt (cj5 (by assumption)) | exact Nat.ne_of_gt (cj6 (by assumption)) | exact Nat.ne_of_lt (cj6 (by assumption)) | exact Nat.ne_of_gt (cj7 (by assumption)) | exact Nat.ne_of_lt (cj7 (by assumption)) | exact Nat.ne_of_gt (cj8 (by assumption)) | exact Nat.ne_of_lt (cj8 (by assumption)) | exact Nat.ne_of_gt (cj9 (by assumption)) | exact Nat.ne_of_lt (cj9 (by assumption)) | exact Nat.ne_of_gt (cl2 (by assumption)) | exact Nat.ne_of_lt (cl2 (by assumption)) | exact Nat.ne_of_gt (cl3 (by assumption)) | exact Nat.ne_of_lt (cl3 (by assumption)) | exact Nat.ne_of_gt (cl4 (by assumption)) | exact Nat.ne_of_lt (cl4 (by assumption)) | exact Nat.ne_of_gt (cl5 (by assumption)) | exact Nat.ne_of_lt (cl5 (by assumption)) | exact Nat.ne_of_gt (cl6 (by assumption)) | exact Nat.ne_of_lt (cl6 (by assumption)) | exact Nat.ne_of_gt (cl7 (by assumption)) | exact Nat.ne_of_lt (cl7 (by assumption)) | exact Nat.ne_of_gt (cl8 (by assumption)) | exact Nat.ne_of_lt (cl8 (by assumption)) | exact Nat.ne_of_gt (cl9 (by assumption)) | exact Nat.ne_of_lt (cl9 (by assumption)) | (refine neN ?_; (try dsimp only); omega))
      k_with "apt" => (repeat' (first | exact trivial | assumption | exact Dif.symm (by assumption) | exact Dif.mk (by walk_at "ne") | apply And.intro))
      k_with "sub" => (first | (intro p9 h9; k_ownIn) | (intro p9 h9; simp only [List.mem_cons, List.mem_append, h9, true_or, or_true]; done) | exact List.forall_mem_nil _ | (refine List.forall_mem_cons.mpr ⟨by k_memK, ?_⟩; walk_at "sub"))
      k_with "conj" => (repeat (rename _ ∧ _ => hc9; obtain ⟨_, _⟩ := hc9))
      k_with "call builtin:list.append" => ((k_here; (with_reducible show wpAny _ _ (call (Value.builtin _) [Value.ref _, _]) _ _ _); k_dflt (refine' append_L ?k1 ?k2 ?k3 ?_ ?z; (case k1 => k_asm); (case k2 => k_asm); (case k3 => k_upd); (case z => omega); k_whole); intro h' F' N'))
      k_with "call type:bytes" => ((k_here; (with_reducible show wpAny _ _ (call (Value.type "bytes") [Value.int _ _]) _ _ _); k_dflt (refine bytes_of_int (by omega) (by omega) ?_); intro _ _ hb9))
      k_with "call type:range" => (((rename Fr _ _ _ _ => F9'); (rename News _ _ _ _ => N9'); (with_unfolding_all refine range1_rows F9' N9' ?_); intro _ _ _ _ _ _ _ _ _))
      refine lts2 w5 fun w51 w52 w53 => ?_
      clear w5 w53
      (rename Fr _ _ _ _ => lF)
      (rename News _ _ _ _ => lN)
      k_dflt (have lM := Mine.News.sub (l' := (x, instObj 217 dx) :: (dx, decD ne0 ne1 ne2 ne3 ne4 nk0 nk1 nk2 nk3 nk4 (oc ++ List.replicate r9.toNat 0).toArray tb4 at4 ta4 65536 ts4 code4 tc4 0 tl4) :: (kx, instObj 154 kd) :: (kd, binD hg0 hg1 hi0 hi1 ksl knl) :: (ksl, listOf us.toArray q6) :: (knl, listOf vs0.toArray q7) :: (rl, listOf refs.toArray q3) :: (stl, listOf strefs.toArray q) :: (tups ++ extra)) lN (by walk_at "sub"))
      clear lN
      have hapt2 : Apt [x, dx, kx, kd, ksl, knl] := by walk_at "apt"
      have hinf : In V (encs (tabv w.params) ⟨ss, nss, 0, 65536, 0⟩ decs decs.length).n (encs (tabv w.params) ⟨ss, nss, 0, 65536, 0⟩ decs decs.length) := ⟨Nat.le_refl _, by rw [Nat.sub_self, Nat.pow_zero, Nat.mul_one]; exact hV1, by rw [Nat.sub_self, Nat.pow_zero, Nat.mul_one]; exact hV2⟩
      have hzf : ∀ k, TT ≤ k → (oc ++ List.replicate r9.toNat 0).getD k 0 = 0 := fun k hk => by
        rw [strip_get, List.getD_eq_getElem?_getD, List.getElem?_eq_none (by omega)]; rfl
      have hVf : R (oc ++ List.replicate r9.toNat 0) TT * 2 ^ 19 = V * 2 ^ (lf + 8) := by rw [strip_R]; exact hRT
      have hbl : (oc ++ List.replicate r9.toNat (0 : UInt8)).length ≤ 4096 := by rw [List.length_append, List.length_replicate]; omega
      have offD : OwnOff (tups ++ extra) [x, dx, kx, kd, ksl, knl] := allLt_offs y8 (by intro b hb; simp only [List.mem_cons, List.not_mem_nil, or_false] at hb; rcases hb with rfl | rfl | rfl | rfl | rfl | rfl <;> omega)
      k_with "call builtin:len" => (
        (rename News _ _ _ _ => lN9)
        k_dflt (refine len_ref (n := (decs.length : Int)) lN9 (by k_memK) (by omega) (by rw [hrow.1]) ?_)
        intro _ _)
      k_with "pyIter ref" => (
        (rename Fr _ _ _ _ => lF9)
        (rename News _ _ _ _ => lN9)
        (rename IsRange _ _ _ _ _ _ _ _ => lR9)
        k_dflt (refine dec_loop (a := ⟨x, dx, kx, kd, ksl, knl, ne0, ne1, ne2, ne3, ne4, nk0, nk1, nk2, nk3, nk4, hg0, hg1, hi0, hi1, tb4, q6, q7⟩) (fixed := (rl, listOf refs.toArray q3) :: (stl, listOf strefs.toArray q) :: (tups ++ extra)) (σ₀ := ⟨ss, nss, 0, 65536, 0⟩) (T := tabv w.params) (decs := decs) rfl lR9 rfl hdl lF9 lN9 (by dsimp only [LD.led]; exact fun p hp => hp) hus hvs rfl hrep4 ⟨hc40, hc41⟩ ?_ ?_)
        rotate_left
        intro M9 nx9 h9 tk9 F9 N9
        rotate_left
        rintro i t uk ua ub at5 ta5 size5 ts5 code5 tc5 left5 tl5 us5 vs5 h9 tk9 I it hlt j1 j2 j3 j4 j5 hne F9 N9)
      iterate 12 (first | walk1 | (dsimp only; walk1))
      k_extra "call builtin:len"
      iterate 3 (first | walk1 | (dsimp only; walk1))
      · have hdd : decs[i]? = some decs[i] := List.getElem?_eq_getElem hlt
        generalize decs[i] = dd at hdd
        refine ex3and2 (hrow.2 i dd hdd) fun c t1 u1 hc1 hc2 => ?_
        refine ex7and6 (z5.2 i hlt) fun sa sp1 sp2 sus svs sc1 sc2 hs1 hs2 hs3 hs4 hs5 hs6 => ?_
        rw [encs_succ hdd] at hs5 hs6
        have hsl := z5.1
        dsimp only [LD.led] at N9
        refine offs8 hne fun v1 v2 v3 v4 v5 v6 v7 v8 v9 => ?_
        have hT : IsTup h9 c #[.int dd.1 t1, .int dd.2 u1] := News.isTup N9 (by
          iterate 9 apply List.mem_cons_of_mem
          exact List.mem_append_left _ hc2)
        refine and2 (encs_wf hok hwf0 hdok i) fun wf5 wfn5 => ?_
        have dok := hdok dd (List.mem_of_getElem? hdd)
        have hat5 := wf5.at (show dd.1.toNat < 3 by omega)
        have hc1' : refs[((i : Nat) : Int).toNat]? = some (Value.ref c) := by rw [Int.toNat_natCast]; exact hc1
        have hs1' : strefs[((i : Nat) : Int).toNat]? = some (Value.ref sa) := by rw [Int.toNat_natCast]; exact hs1
        have hIs : AptFrom I [x, dx, kx, kd, ksl, knl] := ⟨Ne.symm v1, Ne.symm v2, Ne.symm v3, Ne.symm v4, Ne.symm v5, Ne.symm v6, trivial⟩
        k_with_none
        k_with "all" => (first | exact allLt_ne (by assumption) | exact allLt_ne (cl2 (by assumption)) | exact allLt_ne (cl3 (by assumption)) | exact allLt_ne (cl4 (by assumption)) | exact allLt_ne (cl5 (by assumption)) | exact allLt_ne (cl6 (by assumption)) | exact allLt_ne (cl7 (by assumption)) | exact allLt_ne (cl8 (by assumption)) | exact allLt_ne (cl9 (by assumption)))
        k_with "ne" => (first | exact Dif.ne (by assumption) | exact Dif.ne' (by assumption) | exact Nat.ne_of_lt (by assumption) | exact Nat.ne_of_gt (by assumption) | exact Nat.ne_of_gt (cj1 (by assumption)) | exact Nat.ne_of_lt (cj1 (by assumption)) | exact Nat.ne_of_gt (cj2 (by assumption)) | exact Nat.ne_of_lt (cj2 (by assumption)) | exact Nat.ne_of_gt (cj3 (by assumption)) | exact Nat.ne_of_lt (cj3 (by assumption)) | exact Nat.ne_of_gt (cj4 (by assumption)) | exact Nat.ne_of_lt (cj4 (by assumption)) | exact Nat.ne_of_gt (cj5 (by assumption)) | exact Nat.ne_of_lt (cj5 (by assumption)) | exact Nat.ne_of_gt (cj6 (by assumption)) | exact Nat.ne_of_lt (cj6 (by assumption)) | exact Nat.ne_of_gt (cj7 (by assumption)) | exact Nat.ne_of_lt (cj7 (by assumption)) | exact Nat.ne_of_gt (cj8 (by assumption)) | exact Nat.ne_of_lt (cj8 (by assumption)) | exact Nat.ne_of_gt (cj9 (by assumption)) | exact Nat.ne_of_lt (cj9 (by assumption)) | exact Nat.ne_of_gt (cl2 (by assumption)) | exact Nat.ne_of_lt (cl2 (by assumption)) | exact Nat.ne_of_gt (cl3 (by assumption)) | exact Nat.ne_of_lt (cl3 (by assumption)) | exact Nat.ne_of_gt (cl4 (by assumption)) | exact Nat.ne_of_lt (cl4 (by assumption)) | exact Nat.ne_of_gt (cl5 (by assumption)) | exact Nat.ne_of_lt (cl5 (by assumption)) | exact Nat.ne_of_gt (cl6 (by assumption)) | exact Nat.ne_of_lt (cl6 (by assumption)) | exact Nat.ne_of_gt (cl7 (by assumption)) | exact Nat.ne_of_lt (cl7 (by assumption)) | exact Nat.ne_of_gt (cl8 (by assumption)) | exact Nat.ne_of_lt (cl8 (by assumption)) | exact Nat.ne_of_gt (cl9 (by assumption)) | exact Nat.ne_of_lt (cl9 (by assumption)) | (refine neN ?_; (try dsimp only); omega))
        k_with "apt" => (repeat' (first | exact trivial | assumption | exact Dif.symm (by assumption) | exact Dif.mk (by walk_at "ne") | apply And.intro))
        k_with "sub" => (first | (intro p9 h9; k_ownIn) | (intro p9 h9; simp only [List.mem_cons, List.mem_append, h9, true_or, or_true]; done) | exact List.forall_mem_nil _ | (refine List.forall_mem_cons.mpr ⟨by k_memK, ?_⟩; walk_at "sub"))
        k_with "conj" => (repeat (rename _ ∧ _ => hc9; obtain ⟨_, _⟩ := hc9))
        k_with "call builtin:list.append" => ((k_here; (with_reducible show wpAny _ _ (call (Value.builtin _) [Value.ref _, _]) _ _ _); k_dflt (refine' append_L ?k1 ?k2 ?k3 ?_ ?z; (case k1 => k_asm); (case k2 => k_asm); (case k3 => k_upd); (case z => omega); k_whole); intro h' F' N'))
        k_with "call type:bytes" => ((k_here; (with_reducible show wpAny _ _ (call (Value.type "bytes") [Value.int _ _]) _ _ _); k_dflt (refine bytes_of_int (by omega) (by omega) ?_); intro _ _ hb9))
        k_with "call type:range" => (((rename Fr _ _ _ _ => F9'); (rename News _ _ _ _ => N9'); (with_unfolding_all refine range1_rows F9' N9' ?_); intro _ _ _ _ _ _ _ _ _))
        k_with "subscriptTail" => (
          (rename News _ _ _ _ => lN8)
          first
          | ((with_reducible show wpAny _ _ (subscriptTail _ _ (Value.ref rl) _) _ _ _)
             k_dflt (refine item_ref lN8 (by k_memK) (by omega) hc1' (by omega) ?_ (by with_unfolding_all rfl) (by intro _; with_unfolding_all rfl)))
          | ((with_reducible show wpAny _ _ (subscriptTail _ _ (Value.ref stl) _) _ _ _)
             k_dflt (refine item_ref lN8 (by k_memK) (by omega) hs1' (by omega) ?_ (by with_unfolding_all rfl) (by intro _; with_unfolding_all rfl))))
        k_with "call ref" => (
          ((with_reducible show wpAny _ _ (call (Value.ref 207) _) _ _ _))
          (rename Fr _ _ _ _ => lF8)
          (rename News _ _ _ _ => lN8)
          k_dflt (have lM8 := Mine.News.sub (l' := (x, instObj 217 dx) :: (dx, decD ne0 ne1 ne2 ne3 ne4 nk0 nk1 nk2 nk3 nk4 (oc ++ List.replicate r9.toNat 0).toArray tb4 at5 ta5 size5 ts5 code5 tc5 left5 tl5) :: (kx, instObj 154 kd) :: (kd, binD hg0 hg1 hi0 hi1 ksl knl) :: (ksl, listOf us5.toArray q6) :: (knl, listOf vs5.toArray q7) :: (I, it) :: (rl, listOf refs.toArray q3) :: (stl, listOf strefs.toArray q) :: (tups ++ extra)) lN8 (by walk_at "sub"))
          k_dflt (refine Ct.use K0 lF8 KX lM8 T rfl (getD w (off_cons hIs (off_cons (by walk_at "apt") (off_cons (by walk_at "apt") offD))) hapt2 j1 j2 wf5.ls wf5.ln dok.1 dok.2.1 hat5.1 hat5.2 hbl j3 wf5.z1 wf5.z2 j4 j5) (by ktr_room) (by ktr_units) ?_)
          intro bit σ' tv at6 ta6 size6 ts6 code6 tc6 left6 tl6 us6 vs6 hget g01 g02 g03 g04 g05 g06 h7 tk7 F7 N7
          refine and2 (answer hok hwf0 hdok hdd hinf hzf hVf hT8 j4 j3 hget) fun e1 e2 => ?_)
        k_with "compareOp NotEq ref ref" => (
          (rename News _ _ _ _ => lN8)
          k_dflt (refine pair_ne (p1 := ksl) (p2 := knl) lN8 (by k_memK) (by k_memK) (by k_memK) (by simp only [List.mem_cons, List.mem_append, hs2, or_true]) (by simp only [List.mem_cons, List.mem_append, hs3, or_true]) (by simp only [List.mem_cons, List.mem_append, hs4, or_true]) (e2 ▸ g01) (e2 ▸ g02) hs5 hs6 (by ktr_units) ?_))
        iterate 14 (first | walk1 | (dsimp only; walk1))
        iterate 14 (first | walk1 | (dsimp only; walk1))
        k_extra "call ref"
        iterate 3 (first | walk1 | (dsimp only; walk1))
        refine if_no (by rw [e1, bne_self_eq_false]; exact Bool.false_ne_true) ?_
        iterate 17 (first | walk1 | (dsimp only; walk1))
        (rename News _ _ _ _ => lN8)
        refine' pair_ne (p1 := ksl) (p2 := knl) lN8 ?a1 ?a2 ?a3 ?a4 ?a5 ?a6 (e2 ▸ g01) (e2 ▸ g02) hs5 hs6 ?a7 ?_
        case a1 => exact List.mem_cons_self
        case a2 => (iterate 5 apply List.mem_cons_of_mem); exact List.mem_cons_self
        case a3 => (iterate 6 apply List.mem_cons_of_mem); exact List.mem_cons_self
        case a4 => (iterate 10 apply List.mem_cons_of_mem); exact List.mem_append_right _ hs2
        case a5 => (iterate 10 apply List.mem_cons_of_mem); exact List.mem_append_right _ hs3
        case a6 => (iterate 10 apply List.mem_cons_of_mem); exact List.mem_append_right _ hs4
        case a7 => exact lt_c71
        k_steps
        (rename Fr _ _ _ _ => lF8)
        (rename News _ _ _ _ => lN8)
        refine' dec_turn_eq e2 lF8 lN8 ?hM ?n0 ?n1 ?ne hdd g01 g02 g03 g04 ⟨g05, g06⟩
        case hM => (intro z h1 h2 h3; repeat (first | refine (if_neg h1).trans ?_ | refine (if_neg h2).trans ?_ | refine (if_neg h3).trans ?_ | exact rfl))
        case ne => (dsimp only [LD.led]; simp only [List.forall_mem_cons]; exact ⟨v1, v2, v3, v4, v5, v6, v7, v8, v9⟩)
        case n0 => (iterate 7 apply List.mem_cons_of_mem); exact List.mem_cons_self
        case n1 => (dsimp only [LD.led]; walk_at "sub")
      · dsimp only
        iterate 3 (first | walk1 | (dsimp only; walk1))
        dsimp only [RetG]
        (rename Fr _ _ _ _ => lF9)
        refine GoodW.toG ⟨.inl ⟨_, ofPy (.bool true), [], rfl, ?hn, ?hr, ?hp, ?hu⟩, lF9.keep, rfl, hg⟩
        case hn => exact fun _ => rfl
        case hr => exact readsW_of_reads (Reads.bool _)
        case hp => exact post_true
        case hu => exact fun _ => ⟨List.nodup_nil, fun _ h => nomatch h⟩
end Mine
end
section
open PySem PySem.Spec PySem.Calls PySem.W PyProof.Rows
set_option Elab.async false
set_option maxRecDepth 100000
set_option maxHeartbeats 8000000
namespace Mine
theorem hd.tw11949253952600355929 : True := trivial
theorem hd.tw10727248033764811480 : True := trivial
theorem hd.tw799355135909283525 : True := trivial
theorem hd.tw3560358224912976901 : True := trivial
theorem hd.tw7135375499430469523 : True := trivial
theorem hd.tw15959093264877935788 : True := trivial
theorem hd.tw26425463804135960 : True := trivial
theorem hd.tw7935466954021709139 : True := trivial
theorem hd.tw4766966732403459265 : True := trivial
theorem hd.tw17036954124816465846 : True := trivial
theorem hd.tw17566722767392897667 : True := trivial
theorem hd.tw8311610187620527757 : True := trivial
theorem hd.tw16213748851167669294 : True := trivial
theorem hd.tw9478844844750915290 : True := trivial
theorem hd.tw13409441903868389331 : True := trivial
theorem hd.tw13855946660403688772 : True := trivial
theorem hd.tw13609717118414637909 : True := trivial
theorem hd.tw4856431653887292112 : True := trivial
theorem hd.tw3795277891434052102 : True := trivial
theorem hd.tw9427301549700849589 : True := trivial
theorem hd.tw6982297934935202809 : True := trivial
theorem hd.tw302100336521851816 : True := trivial
theorem hd.tw13866372431405929976 : True := trivial
theorem hd.tw10024716035694756283 : True := trivial
theorem hd.tw4478964076566166474 : True := trivial
theorem hd.tw11631869004601391166 : True := trivial
theorem hd.tw6598312636042714100 : True := trivial
theorem hd.tw6819123309680001836 : True := trivial
theorem hd.tw17901334829092211166 : True := trivial
theorem hd.tw7068711184596962023 : True := trivial
theorem hd.tw10216474801634566288 : True := trivial
theorem hd.tw4870687313549177768 : True := trivial
theorem hd.tw1359830224848277088 : True := trivial
theorem hd.tw8428860471423672150 : True := trivial
theorem hd.tw6931407450589930559 : True := trivial
theorem hd.tw2252305205657439004 : True := trivial
theorem hd.tw8990313861142287110 : True := trivial
theorem hd.tw16211521421427940678 : True := trivial
theorem hd.tw13919464512627920130 : True := trivial
theorem hd.tw14896477498954680388 : True := trivial
theorem hd.tw15673258824015622330 : True := trivial
theorem hd.tw17330945745186091897 : True := trivial
theorem hd.tw5732804406350252772 : True := trivial
theorem hd.tw9170477692918782315 : True := trivial
theorem hd.tw7763873220885509757 : True := trivial
theorem hd.tw5366084841770067474 : True := trivial
theorem hd.tw17258206423299326598 : True := trivial
theorem hd.tw12614811148066621264 : True := trivial
theorem hd.tw3109861748172591687 : True := trivial
theorem hd.tw9345676750909349944 : True := trivial
theorem hd.tw17739348878880393726 : True := trivial
theorem hd.tw15852365999677673905 : True := trivial
theorem hd.tw8716120427605611371 : True := trivial
theorem hd.tw6924109203229866365 : True := trivial
theorem hd.tw8047900516022102942 : True := trivial
theorem hd.tw3381375190539634487 : True := trivial
theorem hd.tw10614716105012338702 : True := trivial
theorem hd.tw16649331688326792143 : True := trivial
theorem hd.tw11754176132448286083 : True := trivial
theorem hd.tw9345929723534960622 : True := trivial
theorem hd.tw15615420239508185596 : True := trivial
theorem hd.tw10525666975642140466 : True := trivial
theorem hd.tw4971549296188076032 : True := trivial
theorem hd.tw15166520500009309586 : True := trivial
theorem hd.tw12112201142124510154 : True := trivial
theorem hd.tw17681399029576232318 : True := trivial
theorem hd.tw8117029840178788049 : True := trivial
theorem hd.tw14176624398918483544 : True := trivial
theorem hd.tw9499510787657705874 : True := trivial
theorem hd.tw6726342588429418155 : True := trivial
theorem hd.tw16240987189780228909 : True := trivial
theorem hd.tw15683763237869141255 : True := trivial
theorem hd.tw4297731678662094536 : True := trivial
theorem hd.tw11953376511379268794 : True := trivial
theorem hd.tw3182187488490625086 : True := trivial
theorem hd.tw12629568148972539762 : True := trivial
theorem hd.tw4315991029959535628 : True := trivial
theorem hd.tw2323474266016966308 : True := trivial
theorem hd.tw1865391376527767206 : True := trivial
theorem hd.tw11402939732021071671 : True := trivial
theorem hd.tw12631932088317031055 : True := trivial
theorem hd.tw3480954088277226078 : True := trivial
theorem hd.tw4065347644161347641 : True := trivial
theorem hd.tw14400467628812073631 : True := trivial
theorem hd.tw8545014587354053640 : True := trivial
theorem hd.tw2608437505485318709 : True := trivial
theorem hd.tw2101469004524951375 : True := trivial
theorem hd.tw4993660671451451078 : True := trivial
theorem hd.tw16970440968685349367 : True := trivial
theorem hd.tw10678649693572172417 : True := trivial
theorem hd.tw8934143017859847078 : True := trivial
theorem hd.tw2442259710966052079 : True := trivial
theorem hd.tw5416991563250132298 : True := trivial
theorem hd.tw6184460063843016694 : True := trivial
theorem hd.tw16920754564084929960 : True := trivial
theorem hd.tw18291419657060728153 : True := trivial
theorem hd.tw6830512106363814048 : True := trivial
theorem hd.tw7914949630228597729 : True := trivial
theorem hd.tw16154546982801380032 : True := trivial
theorem hd.tw15344866539931968096 : True := trivial
theorem hd.tw9657781627882305391 : True := trivial
theorem hd.tw9719896912496429819 : True := trivial
theorem hd.tw15508949281206285077 : True := trivial
theorem hd.tw3008623586974134963 : True := trivial
theorem hd.tw8112040973832200146 : True := trivial
theorem hd.tw402640490398009360 : True := trivial
theorem hd.tw5148922909946612681 : True := trivial
theorem hd.tw7494724483528729301 : True := trivial
theorem hd.tw17711083657039698284 : True := trivial
theorem hd.tw16171809288044610508 : True := trivial
theorem hd.tw15642763164714097627 : True := trivial
theorem hd.tw12647368939536790636 : True := trivial
theorem hd.tw14960593345356199642 : True := trivial
theorem hd.tw3350844169311001129 : True := trivial
theorem hd.tw4186654264472022320 : True := trivial
theorem hd.tw2391449824757734642 : True := trivial
theorem hd.tw11213053971927718326 : True := trivial
theorem hd.tw12949589719889679912 : True := trivial
theorem hd.tw461538923250603899 : True := trivial
theorem hd.tw13903934854276604550 : True := trivial
theorem hd.tw5343241284826551009 : True := trivial
theorem hd.tw15367242080415987702 : True := trivial
theorem hd.tw13372043803930879067 : True := trivial
theorem hd.tw7510230149288206974 : True := trivial
theorem hd.tw7366208706002141716 : True := trivial
theorem hd.tw10752148897807903841 : True := trivial
theorem hd.tw14353793391729792155 : True := trivial
theorem hd.tw17213754286329925777 : True := trivial
set_option Elab.async true in
theorem hd : PySem.Challenge.rw_nt0555_01.Holds := by
  w_on; o_law; k_head; (case hw => w_witness2)
  exact law_walk (by rfl)
end Mine
end
set_option maxRecDepth 100000 in
set_option maxHeartbeats 4000000 in
theorem PySem.Challenge.cw_nt0555_01_holds : PySem.Challenge.rw_nt0555_01.Holds := by
  exact Mine.hd
