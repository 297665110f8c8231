import PyProof.Rows.All
import Wide.All
import OpenK.AllK
import Wide.FinOn
import PySem.Challenge.RW_xm0755_01
set_option Elab.async false
set_option maxRecDepth 100000
set_option linter.unusedSimpArgs false
set_option linter.unusedVariables false
set_option linter.deprecated false
namespace Mine
open PySem PySem.W PySem.Calls PyProof.Rows
/-- the built-in codes that may hold a bytearray while they stand on the stack -/
def heldIds : List String := ["bytearray.__contains__", "bytearray.__mod__", "bytearray.__rmod__", "_struct.pack_into.held", "bytearray.find.held"] ++ Builtin.Bytes.decodersThatHold
def calmC : Code → Bool
  | .builtin id _ => !heldIds.contains id
  | _ => true
def CalmL (l : List (Code × Pos)) : Prop := ∀ x ∈ l, calmC x.1 = true
/-- as wpAny, for the stacks alone on which no code holds a bytearray -/
def wpC {α : Type} (M : Model) (A : Around) (t : Sem α) (Q : α → Shared → Prop) (E : Value → Shared → Prop) (s : Shared) : Prop :=
  ∀ Γ p, Γ.In A → calmC Γ.code = true → CalmL Γ.below → Sem.wp M Γ t (fun a _ s' => Q a s') (fun e _ s' => E e s') p s
def codeC (M : Model) (A : Around) (c : Code) (R : Result → Shared → Prop) (s : Shared) : Prop :=
  ∀ Γ p, Γ.code = c → Γ.Below A → CalmL Γ.below → wpCode M Γ R p s

section
variable {α β : Type} {M : Model} {A : Around} {E : Value → Shared → Prop} {s : Shared} {env : Env}
theorem C_of {t : Sem α} {Q : α → Shared → Prop} (h : wpAny M A t Q E s) : wpC M A t Q E s := fun Γ p hΓ _ _ => h Γ p hΓ
theorem codeC_of {c : Code} {R : Result → Shared → Prop} (h : codeAny M A c R s) : codeC M A c R s := fun Γ p hc hΓ _ => h Γ p hc hΓ
theorem C_low {A' : Around} {t : Sem α} {Q : α → Shared → Prop} (h : wpC M A t Q E s)
    (h1 : A'.handled = A.handled) (h2 : A'.depth ≤ A.depth) (h3 : A.frames = A'.frames) (h4 : A.guards = A'.guards) (h5 : A'.units ≤ A.units) : wpC M A' t Q E s :=
  fun Γ p hΓ => h Γ p ⟨hΓ.1.trans h1, Nat.le_trans hΓ.2.1 h2, fun l hl => hΓ.2.2.1 l (h3 ▸ hl), fun g hg => hΓ.2.2.2.1 g (h4 ▸ hg), Nat.le_trans hΓ.2.2.2.2 h5⟩
theorem C_mono {t : Sem α} {Q Q' : α → Shared → Prop} {E' : Value → Shared → Prop} (h : wpC M A t Q E s) (hQ : ∀ a s, Q a s → Q' a s) (hE : ∀ e s, E e s → E' e s) : wpC M A t Q' E' s :=
  fun Γ p hΓ h1 h2 => Sem.wp_mono M Γ t (fun a _ s => hQ a s) (fun e _ s => hE e s) p s (h Γ p hΓ h1 h2)
theorem C_bind {m : Sem α} {f : α → Sem β} {Q : β → Shared → Prop} (h : wpC M A m (fun a s' => wpC M A (f a) Q E s') E s) : wpC M A (m >>= f) Q E s := fun Γ p hΓ h1 h2 => by
  rw [Sem.wp_bind']
  exact Sem.wp_mono M Γ m (fun a p' s' h' => h' Γ p' hΓ h1 h2) (fun _ _ _ h' => h') p s (h Γ p hΓ h1 h2)
/-- a step that falls to wpAny, and then the rest -/
theorem C_step {m : Sem α} {f : α → Sem β} {Q : β → Shared → Prop} (h : wpAny M A m (fun a s' => wpC M A (f a) Q E s') E s) : wpC M A (m >>= f) Q E s := C_bind (C_of h)
theorem C_pure {a : α} {Q : α → Shared → Prop} (h : Q a s) : wpC M A (pure a) Q E s := C_of (wpAny_pure h)
theorem C_holding {vs : List Value} {m : Sem α} {Q : α → Shared → Prop} (h : wpC M A m Q E s) : wpC M A (holding vs m) Q E s :=
  fun Γ p hΓ h1 h2 => by rw [Sem.wp_holding]; exact h Γ p hΓ h1 h2
theorem C_operate {vs : List Value} {m : Sem Value} {Q : Value → Shared → Prop} (h : wpC M A m Q E s) : wpC M A (operate vs m) Q E s :=
  fun Γ p hΓ h1 h2 => by rw [Sem.wp_operate]; exact h Γ p hΓ h1 h2
theorem C_onRaise {m : Sem α} {k : Value → Sem Unit} {Q : α → Shared → Prop} (h : wpC M A m Q (fun e s' => wpC M A (k e) (fun _ s'' => E e s'') E s') s) : wpC M A (m.onRaise k) Q E s := fun Γ p hΓ h1 h2 => by
  rw [Sem.wp_onRaise]
  exact Sem.wp_mono M Γ m (fun _ _ _ h' => h') (fun e p' s' h' => h' Γ p' hΓ h1 h2) p s (h Γ p hΓ h1 h2)
theorem calm_push {c : Code} {p : Pos} {l : List (Code × Pos)} (h1 : calmC c = true) (h2 : CalmL l) : CalmL ((c, p) :: l) := fun x hx => by
  rcases List.mem_cons.mp hx with rfl | hx
  · exact h1
  · exact h2 x hx
theorem C_run {c : Code} {h : Option Value} {Q : Flow → Shared → Prop}
    (hc : codeC M (A.mark h) c (fun r s' => match r with | .ok f => Q f s' | .error e => E e s') s) (hnb : h ≠ some byPass := by intro x; cases x) : wpC M A (run c h) Q E s :=
  fun Γ p hΓ h1 h2 => by rw [Sem.wp_run]; exact hc _ p rfl (hΓ.enter c h p hnb) (calm_push h1 h2)
theorem C_call {f : Value} {pos : List Value} {kw : List (Str × Value)} {Q : Value → Shared → Prop}
    (hc : codeC M A (.call f ⟨pos, kw⟩) (fun r s' => match r with | .ok (.ret v) => Q v s' | .ok _ => False | .error e => E e s') s) : wpC M A (call f pos kw) Q E s := fun Γ p hΓ h1 h2 => by
  show Sem.wp M Γ (runValue _) _ _ p s
  rw [Sem.wp_runValue]; exact hc _ p rfl (hΓ.enter _ none p (by intro x; cases x)) (calm_push h1 h2)
theorem codeC_mono {c : Code} {R R' : Result → Shared → Prop} (h : codeC M A c R s) (hR : ∀ r s, R r s → R' r s) : codeC M A c R' s := fun Γ p hc hΓ hl => wpCode_mono hR (h Γ p hc hΓ hl)
theorem codeC_tree {c : Code} {R : Result → Shared → Prop} (hcalm : calmC c = true)
    (h : wpC M (A.under c) (M.den c) (fun fin s' => match fin with | .done f => R (.ok f) s' | .again c' => c'.quiet = true ∧ codeC M A c' R s') (fun e s' => R (.error e) s') s) : codeC M A c R s := fun Γ p hc hΓ hl => by
  rw [wpCode_iff_wp, hc]
  refine Sem.wp_mono M Γ _ (fun fin p' s' h' => ?_) (fun _ _ _ h' => h') p s (h Γ p (hc ▸ hΓ.in) (hc ▸ hcalm) hl)
  cases fin with
  | done f => exact h'
  | again c' => exact ⟨h'.1, h'.2 (Γ.goto c') p' rfl (hΓ.goto c') hl⟩
theorem C_execs_cons {st : Stmt} {rest : List Stmt} {Q : Flow → Shared → Prop}
    (h : wpC M A (exec st env) (fun f s' => match f with | .next => wpC M A (execs rest env) Q E s' | f => Q f s') E s) : wpC M A (execs (st :: rest) env) Q E s := by
  rw [execs_cons]
  refine C_bind (C_mono h (fun f s' h' => ?_) fun _ _ x => x)
  cases f <;> first | exact h' | exact C_pure h'
theorem C_Assign_Name {x : Str} {pos' pos : Pos} {value : Expr} {Q : Flow → Shared → Prop}
    (h : wpC M A (eval value env) (fun v s₁ => wpAny M A (storeName env x v) (fun _ s₂ => Q .next s₂) E s₁) E s)
    (hs : swapsWith value (some (.Name x pos')) pos.line env = pure false := by rfl) : wpC M A (exec (.Assign [.Name x pos'] value pos) env) Q E s := by
  rw [exec_Assign_Name env x pos' value pos hs]
  refine C_step (wpAny_standAt (C_bind (C_mono h (fun v s₁ h₁ => ?_) fun _ _ x => x)))
  exact C_step (wpAny_standAt (C_step (wpAny_bindName (wpAny_mono h₁ (fun _ _ h₂ => C_pure h₂) fun _ _ x => x))))
theorem C_Return {e : Expr} {pos : Pos} {Q : Flow → Shared → Prop} (h : wpC M A (eval e env) (fun v s' => Q (.ret v) s') E s) : wpC M A (exec (.Return (some e) pos) env) Q E s := by
  rw [exec_Return_some]
  exact C_step (wpAny_standAt (C_bind (C_mono h (fun v s' h' => C_pure h') fun _ _ x => x)))
theorem C_If {test : Expr} {body orelse : List Stmt} {pos : Pos} {Q : Flow → Shared → Prop}
    (h : wpC M A (isTrue test env (eval test env)) (fun b s₂ => if b then wpC M A (execs body env) Q E s₂ else wpC M A (execs orelse env) Q E s₂) E s) : wpC M A (exec (.If test body orelse pos) env) Q E s := by
  rw [exec_If]
  refine C_step (wpAny_standAt (C_bind (C_mono h (fun b s₂ h₂ => ?_) fun _ _ x => x)))
  cases b <;> exact h₂
theorem C_BinOp {l r : Expr} {op : Operator} {pos : Pos} {Q : Value → Shared → Prop}
    (h : wpC M A (eval l env) (fun a s₁ => wpAny M A (eval r env) (fun b s₂ => wpAny M A (binaryOp op a b) Q E s₂) E s₁) E s) : wpC M A (eval (.BinOp l op r pos) env) Q E s := by
  rw [eval_BinOp]
  refine C_bind (C_mono h (fun a s₁ h₁ => ?_) fun _ _ x => x)
  refine C_step (wpAny_holding (wpAny_mono h₁ (fun b s₂ h₂ => ?_) fun _ _ x => x))
  exact C_step (wpAny_standAt (C_operate (C_of h₂)))
theorem C_Compare1 {l r : Expr} {op : CmpOp} {pos : Pos} {Q : Value → Shared → Prop}
    (h : wpC M A (eval l env) (fun a s₁ => wpAny M A (eval r env) (fun b s₂ => wpAny M A (compareOp op a b) Q E s₂) E s₁) E s)
    (hm : behindInMarks op r = false := by with_unfolding_all rfl) : wpC M A (eval (.Compare l [op] [r] pos) env) Q E s := by
  rw [eval_Compare1, markedBehindIn_of_false hm]
  refine C_bind (C_mono h (fun a s₁ h₁ => ?_) fun _ _ x => x)
  refine C_step (wpAny_holding (wpAny_mono h₁ (fun b s₂ h₂ => ?_) fun _ _ x => x))
  exact C_step (wpAny_standAt (C_operate (C_of h₂)))
/-- l and r, r the spine's -/
theorem C_And2 {l r : Expr} {pos : Pos} {Q : Value → Shared → Prop}
    (h : wpAny M A (eval l env) (fun v s₁ => wpAny M A (truthy v) (fun b s₂ => if b then wpC M A (eval r env) Q E s₂ else Q v s₂) E s₁) E s) : wpC M A (eval (.BoolOp .And [l, r] pos) env) Q E s := by
  show wpC M A (do
    let v ← eval l env
    standAt pos
    let c ← holding [v] (truthy v)
    match BoolOp.And, c with
    | .And, false | .Or, true => pure v
    | _, _ => boolOp pos .And (eval r env :: evalEach [] env)) Q E s
  refine C_step (wpAny_mono h (fun v s₁ h₁ => ?_) fun _ _ x => x)
  refine C_step (wpAny_standAt (C_step (wpAny_holding (wpAny_mono h₁ (fun b s₂ h₂ => ?_) fun _ _ x => x))))
  cases b
  · exact C_pure h₂
  · exact h₂
theorem C_isNot {x : Expr} {pos : Pos} {whole : Sem Value} {Q : Bool → Shared → Prop} (h : wpC M A (isTrue x env (eval x env)) (fun c s' => Q (!c) s') E s) : wpC M A (isTrue (.UnaryOp .Not x pos) env whole) Q E s := by
  show wpC M A (isTrue x env (eval x env) >>= fun c => pure (!c)) Q E s
  exact C_bind (C_mono h (fun _ _ h' => C_pure h') fun _ _ x => x)
/-- l or the rest, l the spine's -/
theorem C_isOr {l : Expr} {rest : List Expr} {pos : Pos} {whole : Sem Value} {Q : Bool → Shared → Prop}
    (h : wpC M A (isTrue l env (eval l env)) (fun c s' => if c then Q true s' else wpAny M A (isTrue (.BoolOp .Or rest pos) env whole) Q E s') E s) : wpC M A (isTrue (.BoolOp .Or (l :: rest) pos) env whole) Q E s := by
  show wpC M A (do
    match BoolOp.Or, ← isTrue l env (eval l env) with
    | .And, false => pure false
    | .Or, true => pure true
    | _, _ => allTrue .Or rest env) Q E s
  refine C_bind (C_mono h (fun c s' h' => ?_) fun _ _ x => x)
  cases c with
  | true => exact C_pure h'
  | false => exact C_of h'
theorem C_isCall {f : Expr} {args : List Expr} {kw : List Keyword} {pos : Pos} {whole : Sem Value} {Q : Bool → Shared → Prop}
    (h : wpC M A whole (fun v s₁ => wpAny M A (truthy v) Q E s₁) E s) : wpC M A (isTrue (.Call f args kw pos) env whole) Q E s := by
  show wpC M A (whole >>= fun v => standAt _ >>= fun _ => holding [v] (truthy v)) Q E s
  exact C_bind (C_mono h (fun v s₁ h₁ => C_step (wpAny_standAt (C_of (wpAny_holding h₁)))) fun _ _ x => x)
end
/-- what the walk must show: as WalkO, for the caller's calm stack -/
abbrev WalkC (q : Program) (loose : List Str) (XP : (Str → Option Value) → Heap → Prop) (YP : World → Heap → Prop) (r : RowW) (d : DefRec) (kwd : List (Str × Expr)) : Prop :=
  ∀ (w : World) (s₀ s₁ : Shared) (mg mb : Str → Option Value), Ground q loose r.records XP w s₀ mg mb s₁.heap → YP w s₁.heap → ∀ (a : Addr) (o : Obj) (pm cd doc dV kV : Value), s₁.heap.get? a = some o →
    o.data = .func { docDef d.name d.params d.body d.scope pm cd doc with defaults := dV, kwdefaults := kV } → s₁.heap.CodeRec cd d.name → Dflts mg s₁.heap d.params kwd dV kV → mg d.name = some (.ref a) → s₁.gens = #[] →
    ∀ (args : List WData) (vals : List Value) (as : List Addr), r.claim.pre args = true → WData.layableAll args = true → ReadsAllW r.records (classAt s₀.heap) s₁.heap vals args as → WellAll w.params s₁.heap vals args → (∀ a ∈ as, (a == sysModules) = false) →
      wpC (model r.prog w) callerA (PySem.call (.ref a) vals) (fun v s' => GoodWG r.claim (classAt s₀.heap) (ExcName.means s₀.heap) args s₁ (.ok (.ret v)) s') (fun _ _ => False) s₁
theorem caller_calm {M : Model} {t : Sem Fin} {R : Result → Shared → Prop} {s : Shared} (h : wpC M callerA t (fun fin s' => ∃ f, fin = .done f ∧ R (.ok f) s') (fun e s' => R (.error e) s') s) (p : Pos) :
    Sem.wp M ⟨.builtin "claim.caller" {}, none, none, [], none⟩ t (Sem.finPost M ⟨.builtin "claim.caller" {}, none, none, [], none⟩ R) (fun e _ s' => R (.error e) s') p s := by
  refine Sem.wp_mono M _ t (fun fin p' s' h' => ?_) (fun _ _ _ h' => h') p s (h _ p caller_in (by show (!heldIds.contains "claim.caller") = true; decide +kernel) (fun _ hx => nomatch hx))
  obtain ⟨f, rfl, hf⟩ := h'
  exact hf
theorem thread_calm {prog : Program} {w : World} {t : Sem Fin} {s : Shared} {R : Result → Shared → Prop} (hz : s.asleep)
    (h : wpC (model prog w) callerA t (fun fin s' => ∃ f, fin = .done f ∧ (R (.ok f) s' ∧ AllBare s'.gens)) (fun _ _ => False) s) :
    ∃ n r s' s'', runN (denote table) prog w n s ⟨t, .builtin "claim.caller" {}, default, []⟩ = .halted (outcomeOf r) s' ∧
      schedN (denote table) prog w n (.single s ⟨t, .builtin "claim.caller" {}, default, []⟩) = .halted (outcomeOf r) s' ∧ s'.forget = s''.forget ∧ R r s'' := by
  obtain ⟨n, r, s₁, s₂, hs, hn, hf, hR⟩ := wp_halts_full (M := model prog w) (R := R) hz
    (caller_calm (R := fun r s' => R r s' ∧ leftWithCleanup s'.gens = false) (C_mono h (fun _ _ ⟨f, e, a, b⟩ => ⟨f, e, a, leftWithCleanup_false_of_bare b⟩) fun _ _ x => x.elim) default)
  exact ⟨n, r, s₂, s₁, hn, hs, hf, hR⟩
theorem from_calm {c : ClaimW} {tree : List Value → Sem Fin} {w : World} {s : Shared} {free : Addr → Prop} {gens : Prop} {kept : Heap → Prop} (hz : s.asleep) (hgens : s.gens = #[])
    (spec : ∀ args, c.pre args = true → WData.layableAll args = true → ∀ ord : List DictEntry → List DictEntry, (∀ l, (ord l).Perm l) →
      ∃ vs s₁, layAllW c.records (classAt s.heap) w.params ord args s = some (vs, s₁) ∧
        wpC (model c.prog w) callerA (tree vs) (fun fin s' => ∃ f, fin = .done f ∧ ((c.Ends s args vs s₁ (.ok f) s' ∧ s'.os = s.os ∧ kept s'.heap) ∧ AllBare s'.gens)) (fun _ _ => False) s₁) :
    c.CallFrom (fun vs => ⟨tree vs, .builtin "claim.caller" {}, default, []⟩) w free gens kept s := by
  intro args hpre hlay ord hord
  obtain ⟨vs, s₁, hlaid, hw⟩ := spec args hpre hlay ord hord
  have rest := layAllW_rest _ _ _ hlaid
  obtain ⟨k, r, s', s'', hrun, hsched, hfo, hends, hos, hkp⟩ := thread_calm (R := fun r s' => c.Ends s args vs s₁ r s' ∧ s'.os = s.os ∧ kept s'.heap) (Shared.asleep_of_life rest.2.2.2 hz) hw
  obtain ⟨eh, _, _, eo, _⟩ := Shared.forget_eq hfo
  rw [← eh] at hkp
  rw [← eo] at hos
  refine ⟨vs, s₁, hlaid, k, _, s', hsched, ?_, (fun _ i x hx => by rw [hgens] at hx; simp at hx), hkp, by rw [(runN_life _ _ _ hrun).trans rest.2.2.2], Shared.rest_eq hos⟩
  rcases hends.congr eh with ⟨v, rfl, x⟩ | ⟨e, ob, cls, rfl, x⟩
  · exact .inl ⟨v, rfl, x.1, x.2.1, x.2.2.1, fun b o y _ => x.2.2.2.1 b o y, x.2.2.2.2⟩
  · exact .inr ⟨e, ob, cls, rfl, x.1, x.2.1, x.2.2.1, x.2.2.2.1, fun b o y _ => x.2.2.2.2 b o y⟩
/-- the row's tree: the def is looked up by its name, then called -/
theorem tree_calm {prog : Program} {w : World} {s : Shared} {mg : Str → Option Value} {name : Str} {f : Value} {vs : List Value} {Q : Fin → Shared → Prop} (hg : s.heap.Ns mainGlobals mg) (hf : mg name = some f)
    (h : wpC (model prog w) callerA (PySem.call f vs) (fun v s' => Q (.done (.ret v)) s') (fun _ _ => False) s) :
    wpC (model prog w) callerA (do match ← nsGet mainNs name with
      | some f => do ret (← PySem.call f vs)
      | none => unsupported "claim.caller:no-such-global") Q (fun _ _ => False) s :=
  C_step (wpAny_nsGet hg (by rw [hf]; exact C_bind (C_mono h (fun _ _ x => C_pure x) fun _ _ x => x)))
theorem PySem.W.holds_open {r : OpenRow} {q : Program} {loose : List Str} {Xt : Shared → Bool} {XP : (Str → Option Value) → Heap → Prop} {α : Type} {Yf : Shared → α} {Ya : World → α} {YP : World → Heap → Prop} {d : DefRec} {kwd : List (Str × Expr)} {N : Nat}
    (left : LeftO r.prog q loose Xt Yf Ya N) (hY : ∀ w s, Yf s = Ya w → YP w s.heap) (hYk : ∀ w h h', YP w h → (∀ b o, h.get? b = some o → h'.get? b = some o) → YP w h')
    (hX : ∀ s, Xt s = true → XP (s.heap.nsMap mainGlobals) s.heap) (hXk : ∀ mg h h', XP mg h → (∀ b o, h.get? b = some o → h'.get? b = some o) → XP mg h')
    (hdef : defOf q r.name = some (d, kwd)) (hp : r.prog.theDef r.name = some (d.params, d.body, d.scope)) (hk : kwWritten? d.params.kwonlyargs d.params.kw_defaults = some kwd) (hRf : ∀ s, Xt s = true → RecFacts r.records s.heap) (hwr : (!r.writes || r.records.isEmpty) = true)
    (k1 : r.wellSaid = true) (ok : (chainsOk q && opensWell r.prog && (frees r.toRowW && r.within.isEmpty)) = true) (hb : r.prog.bare) (hw : r.toRowW.promised)
    (call : WalkC q loose XP YP r.toRowW d kwd) : r.Holds := by
  refine ⟨k1, hw, ?_⟩
  simp only [Bool.and_eq_true] at ok
  obtain ⟨⟨hch, hop⟩, hfree, hin⟩ := ok
  obtain ⟨hsame, hu, ha, hap, hm⟩ := frees_parts hfree
  have hwi : r.toRowW.claim.within = [] := List.isEmpty_iff.mp hin
  have hid := ident_freeW hu ha hap
  refine ⟨⟨hb, hop, by show r.makers.map _ = []; rw [hm]; rfl⟩, hw.witness, fun w => ?_⟩
  have B := left.behind (XP := fun mg h => XP mg h ∧ RecFacts r.records h) (fun s hs => ⟨hX s hs, hRf s hs⟩) hch w
  refine ⟨B.1, fun s' hs' => ?_⟩
  obtain ⟨s₀, hf, hg0, s, hT, hz, hgens, hg, GR, y⟩ := B.2 s' hs'
  have G0 : Ground q loose [] XP w s (s.heap.nsMap mainGlobals) (s.heap.nsMap builtinsNs) s.heap := ⟨GR.T, GR.B, GR.D, GR.TE, GR.TD, GR.W, GR.X.1, GR.cls, GR.has, GR.apart, GR.once, GR.K⟩
  have hgens : s.gens = #[] := Array.eq_empty_of_size_eq_zero (beq_iff_eq.mp hgens)
  have G : Ground q loose r.records XP w s _ _ s.heap := GR.X.2.ground G0
  refine ⟨s₀, hf, hg0, s, hT, fun n hn => ?_, GR.X.2.1, GR.X.2.2.1, from_calm hz hgens fun args hpre hlay ord hord => ?_⟩
  · obtain rfl : n = r.name := by split at hn <;> simp_all
    exact pinned_of_view hg G0 hdef hp hk
  obtain ⟨⟨vs, s₁⟩, hlaid⟩ := Option.isSome_iff_exists.mp (layAllW_isSome (P := w.params) (ord := ord) G.has args r.args s (pre_splitW hpre).1)
  have keeps := layAllW_keeps _ _ _ hlaid
  have hal := layAllW_rest _ _ _ hlaid
  obtain ⟨as, hrd, hwin, hold⟩ := reads_layAllW hord _ _ _ hlaid hlay s₁.heap (fun _ _ e => e)
  have L : Laid r.records w s s₁ args vs as := ⟨⟨ord, hord, hlaid⟩, hrd, hwin, hold, keeps, hal.1.trans hgens, hal.2.2.1⟩
  have G₁ := G.keeps hXk keeps
  obtain ⟨a, o, pm, cd, doc, dV, kV, h1, h2, h3, h4, h5⟩ := G₁.fn hdef
  have W := call w s s₁ _ _ G₁ (hYk _ _ _ (hY w s y) keeps) a o pm cd doc dV kV h2 h3 h4 h5 (defOf_name hdef ▸ h1) L.gens args vs as hpre hlay L.reads L.well (L.low G.low)
  refine ⟨vs, s₁, hlaid, tree_calm G₁.T.g h1 (C_mono W (fun v s' g => ?_) fun _ _ x => x)⟩
  have z := g.laid (c := r.toRowW.claim) hsame hwi hid L
  exact ⟨_, rfl, ⟨z.1, z.2.1, fun q => ⟨namesKept_of hT hg _ keeps g.2.1.old, noTable hwr q⟩⟩, z.2.2⟩
def seenTop : Program := view PySem.Challenge.pw_xm0755_01 [0, 2, 3, 5, 6, 7, 9, 10, 11, 12, 13, 14, 15, 16, 17, 18, 20, 22, 23, 24, 25, 26, 27, 28, 29, 30, 31, 33, 34, 36, 37, 38, 39, 40, 41, 42, 43, 44]
namespace Head
/- the states at the cuts of the top's run; a def's parts are named by its place in the program -/
noncomputable def stAt (i : Nat) : Stmt := (PySem.Challenge.pw_xm0755_01.main.body[i]?).getD (.Pass ⟨0, 0, 0, 0⟩)
noncomputable def stIn (i j : Nat) : Stmt := match stAt i with
  | .ClassDef _ _ _ b _ _ _ _ _ _ _ => (b[j]?).getD (.Pass ⟨0, 0, 0, 0⟩)
  | s => s
noncomputable def fdOf (s : Stmt) (q : Str) (g : Addr) (cl : List (Str × Addr)) (d k dc m : Value) (an : Option Addr) (c t : Value) (b : Addr) : FuncData := match s with
  | .FunctionDef n a y _ _ _ sc _ _ _ => ⟨n, q, a, .stmts y, sc, g, cl, d, k, dc, m, an, c, t, b⟩
  | _ => default
/- the main namespace's loader, as the boot has it -/
noncomputable def loaderV (P : Params) : Value := match (boot_o_3 P).data with
  | .dict es _ => ((es.toList[3]?).map (·.val)).getD .none
  | _ => .none

noncomputable def o43 (P : Params) : Obj := (@PySem.Obj.mk (@PySem.Value.type "tuple") (@Option.none Nat) (@PySem.Data.seq (@List.toArray PySem.Value []) 0) (@List.toArray (@Option PySem.Value) []))
noncomputable def o44 (P : Params) : Obj := (@PySem.Obj.mk PySem.Value.none (@Option.none Nat) (@PySem.Data.fields (@List.toArray PySem.Value [])) (@List.toArray (@Option PySem.Value) []))
noncomputable def o45 (P : Params) : Obj := (@PySem.Obj.mk (@PySem.Value.type "code") (@Option.none Nat) (@PySem.Data.fields (@List.toArray PySem.Value [(@PySem.Value.str (@PySem.Str.ofString "<module>") 182), (@PySem.Value.str (@PySem.Str.ofString "<module>") 183), (@PySem.Value.str (@PySem.Str.ofString "/claim/cut.py") 184), (@PySem.Value.int 1 0), (@PySem.Value.int 0 0), (@PySem.Value.int 0 0), (@PySem.Value.int 0 0), (@PySem.Value.int 0 0), (@PySem.Value.ref 11), (@PySem.Value.bool Bool.false), (@PySem.Value.int 181 0), (@PySem.Value.ref 12), PySem.Value.none, PySem.Value.none, PySem.Value.none, PySem.Value.none, (@PySem.Value.int 185 0), (@PySem.Value.int 1 0), (@PySem.Value.str (@PySem.Str.ofString "/claim/cut.py") 186)])) (@List.toArray (@Option PySem.Value) []))
noncomputable def o46 (P : Params) : Obj := (@PySem.Obj.mk (@PySem.Value.type "frame") (@Option.none Nat) PySem.Data.plain (@List.toArray (@Option PySem.Value) [(@Option.some PySem.Value (@PySem.Value.ref 13)), (@Option.some PySem.Value (@PySem.Value.ref 3)), (@Option.some PySem.Value (@PySem.Value.ref 3)), (@Option.none PySem.Value), (@Option.some PySem.Value (@PySem.Value.str (@PySem.Str.ofString "__main__") 164)), (@Option.none PySem.Value), (@Option.some PySem.Value (@PySem.Value.ref 0))]))
noncomputable def heap46 (P : Params) : Heap := (@PySem.Heap.mk (@Array.mk PySem.Obj [(@PySem.W.boot_o_0 P), (@PySem.W.boot_o_1 P), (@PySem.W.boot_o_2 P), (@PySem.W.boot_o_3 P), (@PySem.W.boot_o_4 P), (@PySem.W.boot_o_5 P), (@PySem.W.boot_o_6 P), (@PySem.W.boot_o_7 P), (@PySem.W.boot_o_8 P), (@PySem.W.boot_o_9 P), (@PySem.W.boot_o_10 P), (@o43 P), (@o44 P), (@o45 P), (@o46 P)]) (@PySem.Life.mk [] [] [] 0 [] [] Bool.false (@List.toArray Nat []) [] 0 Bool.false Bool.false Bool.false 0 [2000, 10, 10] Bool.false 0 Bool.true [] [] 0 Bool.false))
noncomputable def tree47 (P : Params) : BT := (@PySem.W.BT.node (@PySem.W.boot_o_0 P) (@PySem.W.BT.node (@PySem.W.boot_o_1 P) (@PySem.W.BT.node (@PySem.W.boot_o_3 P) (@PySem.W.BT.node (@PySem.W.boot_o_7 P) PySem.W.BT.nil PySem.W.BT.nil) (@PySem.W.BT.node (@o43 P) PySem.W.BT.nil PySem.W.BT.nil)) (@PySem.W.BT.node (@PySem.W.boot_o_5 P) (@PySem.W.BT.node (@PySem.W.boot_o_9 P) PySem.W.BT.nil PySem.W.BT.nil) (@PySem.W.BT.node (@o45 P) PySem.W.BT.nil PySem.W.BT.nil))) (@PySem.W.BT.node (@PySem.W.boot_o_2 P) (@PySem.W.BT.node (@PySem.W.boot_o_4 P) (@PySem.W.BT.node (@PySem.W.boot_o_8 P) PySem.W.BT.nil PySem.W.BT.nil) (@PySem.W.BT.node (@o44 P) PySem.W.BT.nil PySem.W.BT.nil)) (@PySem.W.BT.node (@PySem.W.boot_o_6 P) (@PySem.W.BT.node (@PySem.W.boot_o_10 P) PySem.W.BT.nil PySem.W.BT.nil) (@PySem.W.BT.node (@o46 P) PySem.W.BT.nil PySem.W.BT.nil))))
noncomputable def o49 (P : Params) : Obj := (@PySem.Obj.mk PySem.Value.none (@Option.none Nat) (@PySem.Data.dict (@List.toArray PySem.DictEntry [(@PySem.DictEntry.mk (@PySem.PyData.keyHash P (@PySem.Str.ofString "type.__subclasses__.Exception.0")) (@PySem.Value.str (@PySem.Str.ofString "type.__subclasses__.Exception.0") 234) (@PySem.Value.int 45 0)), (@PySem.DictEntry.mk (@PySem.PyData.keyHash P (@PySem.Str.ofString "type.__subclasses__.Exception.n")) (@PySem.Value.str (@PySem.Str.ofString "type.__subclasses__.Exception.n") 235) (@PySem.Value.int 1 0))]) 2) (@List.toArray (@Option PySem.Value) []))
noncomputable def o50 (P : Params) : Obj := (@PySem.Obj.mk (@PySem.Value.type "dict") (@Option.none Nat) (@PySem.Data.dict (@List.toArray PySem.DictEntry [(@PySem.DictEntry.mk (@PySem.PyData.keyHash P (@PySem.Str.ofString "__name__")) (@PySem.Value.str (@PySem.Str.ofString "__name__") 165) (@PySem.Value.str (@PySem.Str.ofString "pagebase.errors") 207)), (@PySem.DictEntry.mk (@PySem.PyData.keyHash P (@PySem.Str.ofString "__doc__")) (@PySem.Value.str (@PySem.Str.ofString "__doc__") 166) PySem.Value.none), (@PySem.DictEntry.mk (@PySem.PyData.keyHash P (@PySem.Str.ofString "__package__")) (@PySem.Value.str (@PySem.Str.ofString "__package__") 167) PySem.Value.none), (@PySem.DictEntry.mk (@PySem.PyData.keyHash P (@PySem.Str.ofString "__loader__")) (@PySem.Value.str (@PySem.Str.ofString "__loader__") 168) (loaderV P)), (@PySem.DictEntry.mk (@PySem.PyData.keyHash P (@PySem.Str.ofString "__spec__")) (@PySem.Value.str (@PySem.Str.ofString "__spec__") 169) PySem.Value.none), (@PySem.DictEntry.mk (@PySem.PyData.keyHash P (@PySem.Str.ofString "__annotations__")) (@PySem.Value.str (@PySem.Str.ofString "__annotations__") 170) (@PySem.Value.ref 6)), (@PySem.DictEntry.mk (@PySem.PyData.keyHash P (@PySem.Str.ofString "__builtins__")) (@PySem.Value.str (@PySem.Str.ofString "__builtins__") 171) (@PySem.Value.ref 4)), (@PySem.DictEntry.mk (@PySem.PyData.keyHash P (@PySem.Str.ofString "__file__")) (@PySem.Value.str (@PySem.Str.ofString "__file__") 173) (@PySem.Value.str (@PySem.Str.ofString "/claim/cut.py") 172)), (@PySem.DictEntry.mk (@PySem.PyData.keyHash P (@PySem.Str.ofString "__cached__")) (@PySem.Value.str (@PySem.Str.ofString "__cached__") 174) PySem.Value.none), (@PySem.DictEntry.mk (@PySem.PyData.keyHash P (@PySem.Str.ofString "_wall")) (@PySem.Value.str (@PySem.Str.ofString "_wall") 193) (@PySem.Value.ref 21)), (@PySem.DictEntry.mk (@PySem.PyData.keyHash P (@PySem.Str.ofString "CHAIN_HEAD")) (@PySem.Value.str (@PySem.Str.ofString "CHAIN_HEAD") 197) (@PySem.Value.int 4 196)), (@PySem.DictEntry.mk (@PySem.PyData.keyHash P (@PySem.Str.ofString "chain_length")) (@PySem.Value.str (@PySem.Str.ofString "chain_length") 206) (@PySem.Value.ref 28)), (@PySem.DictEntry.mk (@PySem.PyData.keyHash P (@PySem.Str.ofString "PagebaseError")) (@PySem.Value.str (@PySem.Str.ofString "PagebaseError") 237) (@PySem.Value.ref 45))]) 13) (@List.toArray (@Option PySem.Value) []))
noncomputable def o51 (P : Params) : Obj := (@PySem.Obj.mk PySem.Value.none (@Option.none Nat) (@PySem.Data.fields (@List.toArray PySem.Value [(@PySem.Value.int 1 0), (@PySem.Value.int 0 0), (@PySem.Value.ref 20), (@PySem.Value.int 6 0), (@PySem.Value.int 0 0), (@PySem.Value.ref 27), (@PySem.Value.int 10 0), (@PySem.Value.int 0 0), (@PySem.Value.ref 34)])) (@List.toArray (@Option PySem.Value) []))
noncomputable def o52 (P : Params) : Obj := (@PySem.Obj.mk (@PySem.Value.type "tuple") (@Option.none Nat) (@PySem.Data.seq (@List.toArray PySem.Value []) 0) (@List.toArray (@Option PySem.Value) []))
noncomputable def o53 (P : Params) : Obj := (@PySem.Obj.mk PySem.Value.none (@Option.none Nat) (@PySem.Data.fields (@List.toArray PySem.Value [])) (@List.toArray (@Option PySem.Value) []))
noncomputable def o54 (P : Params) : Obj := (@PySem.Obj.mk (@PySem.Value.type "tuple") (@Option.none Nat) (@PySem.Data.seq (@List.toArray PySem.Value [(@PySem.Value.str (@PySem.Str.ofString "k") 190)]) 0) (@List.toArray (@Option PySem.Value) []))
noncomputable def o55 (P : Params) : Obj := (@PySem.Obj.mk (@PySem.Value.type "tuple") (@Option.none Nat) (@PySem.Data.seq (@List.toArray PySem.Value []) 0) (@List.toArray (@Option PySem.Value) []))
noncomputable def o56 (P : Params) : Obj := (@PySem.Obj.mk PySem.Value.none (@Option.none Nat) (@PySem.Data.func (fdOf (stAt 0) (@PySem.Str.ofString "_wall") 0 [] PySem.Value.none PySem.Value.none PySem.Value.none PySem.Value.none (@Option.none Nat) PySem.Value.none PySem.Value.none 0)) (@List.toArray (@Option PySem.Value) []))
noncomputable def o57 (P : Params) : Obj := (@PySem.Obj.mk (@PySem.Value.type "code") (@Option.none Nat) (@PySem.Data.fields (@List.toArray PySem.Value [(@PySem.Value.str (@PySem.Str.ofString "_wall") 187), (@PySem.Value.str (@PySem.Str.ofString "_wall") 188), (@PySem.Value.str (@PySem.Str.ofString "/claim/cut.py") 189), (@PySem.Value.int 1 0), (@PySem.Value.int 1 0), (@PySem.Value.int 0 0), (@PySem.Value.int 0 0), (@PySem.Value.int 3 0), (@PySem.Value.ref 15), (@PySem.Value.bool Bool.true), (@PySem.Value.int 181 0), (@PySem.Value.ref 16), PySem.Value.none, (@PySem.Value.ref 17), (@PySem.Value.ref 18), (@PySem.Value.ref 19), (@PySem.Value.int 191 0), (@PySem.Value.int 1 0), (@PySem.Value.str (@PySem.Str.ofString "/claim/cut.py") 192)])) (@List.toArray (@Option PySem.Value) []))
noncomputable def o58 (P : Params) : Obj := (@PySem.Obj.mk (@PySem.Value.type "function") (@Option.none Nat) (@PySem.Data.func (fdOf (stAt 0) (@PySem.Str.ofString "_wall") 3 [] PySem.Value.none PySem.Value.none PySem.Value.none (@PySem.Value.str (@PySem.Str.ofString "__main__") 164) (@Option.none Nat) (@PySem.Value.ref 20) PySem.Value.none 0)) (@List.toArray (@Option PySem.Value) []))
noncomputable def o59 (P : Params) : Obj := (@PySem.Obj.mk (@PySem.Value.type "tuple") (@Option.none Nat) (@PySem.Data.seq (@List.toArray PySem.Value []) 0) (@List.toArray (@Option PySem.Value) []))
noncomputable def o60 (P : Params) : Obj := (@PySem.Obj.mk PySem.Value.none (@Option.none Nat) (@PySem.Data.fields (@List.toArray PySem.Value [])) (@List.toArray (@Option PySem.Value) []))
noncomputable def o61 (P : Params) : Obj := (@PySem.Obj.mk (@PySem.Value.type "tuple") (@Option.none Nat) (@PySem.Data.seq (@List.toArray PySem.Value [(@PySem.Value.str (@PySem.Str.ofString "page_size") 201), (@PySem.Value.str (@PySem.Str.ofString "size") 202), (@PySem.Value.str (@PySem.Str.ofString "room") 203)]) 0) (@List.toArray (@Option PySem.Value) []))
noncomputable def o62 (P : Params) : Obj := (@PySem.Obj.mk (@PySem.Value.type "tuple") (@Option.none Nat) (@PySem.Data.seq (@List.toArray PySem.Value []) 0) (@List.toArray (@Option PySem.Value) []))
noncomputable def o63 (P : Params) : Obj := (@PySem.Obj.mk PySem.Value.none (@Option.none Nat) (@PySem.Data.func (fdOf (stAt 3) (@PySem.Str.ofString "chain_length") 0 [] PySem.Value.none PySem.Value.none PySem.Value.none PySem.Value.none (@Option.none Nat) PySem.Value.none PySem.Value.none 0)) (@List.toArray (@Option PySem.Value) []))
noncomputable def o64 (P : Params) : Obj := (@PySem.Obj.mk (@PySem.Value.type "code") (@Option.none Nat) (@PySem.Data.fields (@List.toArray PySem.Value [(@PySem.Value.str (@PySem.Str.ofString "chain_length") 198), (@PySem.Value.str (@PySem.Str.ofString "chain_length") 199), (@PySem.Value.str (@PySem.Str.ofString "/claim/cut.py") 200), (@PySem.Value.int 6 0), (@PySem.Value.int 2 0), (@PySem.Value.int 0 0), (@PySem.Value.int 0 0), (@PySem.Value.int 3 0), (@PySem.Value.ref 22), (@PySem.Value.bool Bool.true), (@PySem.Value.int 181 0), (@PySem.Value.ref 23), PySem.Value.none, (@PySem.Value.ref 24), (@PySem.Value.ref 25), (@PySem.Value.ref 26), (@PySem.Value.int 204 0), (@PySem.Value.int 6 0), (@PySem.Value.str (@PySem.Str.ofString "/claim/cut.py") 205)])) (@List.toArray (@Option PySem.Value) []))
noncomputable def o65 (P : Params) : Obj := (@PySem.Obj.mk (@PySem.Value.type "function") (@Option.none Nat) (@PySem.Data.func (fdOf (stAt 3) (@PySem.Str.ofString "chain_length") 3 [] PySem.Value.none PySem.Value.none PySem.Value.none (@PySem.Value.str (@PySem.Str.ofString "pagebase.overflow") 194) (@Option.none Nat) (@PySem.Value.ref 27) PySem.Value.none 0)) (@List.toArray (@Option PySem.Value) []))
noncomputable def o66 (P : Params) : Obj := (@PySem.Obj.mk (@PySem.Value.type "tuple") (@Option.none Nat) (@PySem.Data.seq (@List.toArray PySem.Value [(@PySem.Value.type "Exception")]) 0) (@List.toArray (@Option PySem.Value) []))
noncomputable def o67 (P : Params) : Obj := (@PySem.Obj.mk (@PySem.Value.type "builtin_function_or_method") (@Option.none Nat) (@PySem.Data.fields (@List.toArray PySem.Value [(@PySem.Value.builtin "type.__prepare__"), (@PySem.Value.type "type")])) (@List.toArray (@Option PySem.Value) []))
noncomputable def o68 (P : Params) : Obj := (@PySem.Obj.mk (@PySem.Value.type "dict") (@Option.none Nat) (@PySem.Data.dict (@List.toArray PySem.DictEntry [(@PySem.DictEntry.mk (@PySem.PyData.keyHash P (@PySem.Str.ofString "__module__")) (@PySem.Value.str (@PySem.Str.ofString "__module__") 216) (@PySem.Value.str (@PySem.Str.ofString "pagebase.errors") 207)), (@PySem.DictEntry.mk (@PySem.PyData.keyHash P (@PySem.Str.ofString "__qualname__")) (@PySem.Value.str (@PySem.Str.ofString "__qualname__") 218) (@PySem.Value.str (@PySem.Str.ofString "PagebaseError") 217)), (@PySem.DictEntry.mk (@PySem.PyData.keyHash P (@PySem.Str.ofString "__firstlineno__")) (@PySem.Value.str (@PySem.Str.ofString "__firstlineno__") 220) (@PySem.Value.int 10 219)), (@PySem.DictEntry.mk (@PySem.PyData.keyHash P (@PySem.Str.ofString "__init__")) (@PySem.Value.str (@PySem.Str.ofString "__init__") 228) (@PySem.Value.ref 42)), (@PySem.DictEntry.mk (@PySem.PyData.keyHash P (@PySem.Str.ofString "__static_attributes__")) (@PySem.Value.str (@PySem.Str.ofString "__static_attributes__") 230) (@PySem.Value.ref 43))]) 5) (@List.toArray (@Option PySem.Value) []))
noncomputable def o69 (P : Params) : Obj := (@PySem.Obj.mk (@PySem.Value.type "tuple") (@Option.none Nat) (@PySem.Data.seq (@List.toArray PySem.Value []) 0) (@List.toArray (@Option PySem.Value) []))
noncomputable def o70 (P : Params) : Obj := (@PySem.Obj.mk PySem.Value.none (@Option.none Nat) (@PySem.Data.fields (@List.toArray PySem.Value [(@PySem.Value.int 12 0), (@PySem.Value.int 4 0), (@PySem.Value.ref 41)])) (@List.toArray (@Option PySem.Value) []))
noncomputable def o71 (P : Params) : Obj := (@PySem.Obj.mk (@PySem.Value.type "code") (@Option.none Nat) (@PySem.Data.fields (@List.toArray PySem.Value [(@PySem.Value.str (@PySem.Str.ofString "PagebaseError") 211), (@PySem.Value.str (@PySem.Str.ofString "PagebaseError") 212), (@PySem.Value.str (@PySem.Str.ofString "/claim/cut.py") 213), (@PySem.Value.int 10 0), (@PySem.Value.int 0 0), (@PySem.Value.int 0 0), (@PySem.Value.int 0 0), (@PySem.Value.int 0 0), (@PySem.Value.ref 32), (@PySem.Value.bool Bool.false), (@PySem.Value.int 181 0), (@PySem.Value.ref 33), PySem.Value.none, PySem.Value.none, PySem.Value.none, PySem.Value.none, (@PySem.Value.int 214 0), (@PySem.Value.int 10 0), (@PySem.Value.str (@PySem.Str.ofString "/claim/cut.py") 215)])) (@List.toArray (@Option PySem.Value) []))
noncomputable def o72 (P : Params) : Obj := (@PySem.Obj.mk (@PySem.Value.type "frame") (@Option.none Nat) PySem.Data.plain (@List.toArray (@Option PySem.Value) [(@Option.some PySem.Value (@PySem.Value.ref 34)), (@Option.some PySem.Value (@PySem.Value.ref 3)), (@Option.some PySem.Value (@PySem.Value.ref 31)), (@Option.none PySem.Value), (@Option.some PySem.Value (@PySem.Value.str (@PySem.Str.ofString "pagebase.errors") 207)), (@Option.none PySem.Value), (@Option.some PySem.Value (@PySem.Value.ref 0))]))
noncomputable def o73 (P : Params) : Obj := (@PySem.Obj.mk (@PySem.Value.type "tuple") (@Option.none Nat) (@PySem.Data.seq (@List.toArray PySem.Value []) 0) (@List.toArray (@Option PySem.Value) []))
noncomputable def o74 (P : Params) : Obj := (@PySem.Obj.mk PySem.Value.none (@Option.none Nat) (@PySem.Data.fields (@List.toArray PySem.Value [])) (@List.toArray (@Option PySem.Value) []))
noncomputable def o75 (P : Params) : Obj := (@PySem.Obj.mk (@PySem.Value.type "tuple") (@Option.none Nat) (@PySem.Data.seq (@List.toArray PySem.Value [(@PySem.Value.str (@PySem.Str.ofString "self") 224), (@PySem.Value.str (@PySem.Str.ofString "message") 225)]) 0) (@List.toArray (@Option PySem.Value) []))
noncomputable def o76 (P : Params) : Obj := (@PySem.Obj.mk (@PySem.Value.type "tuple") (@Option.none Nat) (@PySem.Data.seq (@List.toArray PySem.Value []) 0) (@List.toArray (@Option PySem.Value) []))
noncomputable def o77 (P : Params) : Obj := (@PySem.Obj.mk PySem.Value.none (@Option.none Nat) (@PySem.Data.func (fdOf (stIn 5 0) (@PySem.Str.ofString "PagebaseError.__init__") 0 [] PySem.Value.none PySem.Value.none PySem.Value.none PySem.Value.none (@Option.none Nat) PySem.Value.none PySem.Value.none 0)) (@List.toArray (@Option PySem.Value) []))
noncomputable def o78 (P : Params) : Obj := (@PySem.Obj.mk (@PySem.Value.type "code") (@Option.none Nat) (@PySem.Data.fields (@List.toArray PySem.Value [(@PySem.Value.str (@PySem.Str.ofString "__init__") 221), (@PySem.Value.str (@PySem.Str.ofString "PagebaseError.__init__") 222), (@PySem.Value.str (@PySem.Str.ofString "/claim/cut.py") 223), (@PySem.Value.int 12 0), (@PySem.Value.int 2 0), (@PySem.Value.int 0 0), (@PySem.Value.int 0 0), (@PySem.Value.int 3 0), (@PySem.Value.ref 36), (@PySem.Value.bool Bool.true), (@PySem.Value.int 181 0), (@PySem.Value.ref 37), PySem.Value.none, (@PySem.Value.ref 38), (@PySem.Value.ref 39), (@PySem.Value.ref 40), (@PySem.Value.int 226 0), (@PySem.Value.int 12 0), (@PySem.Value.str (@PySem.Str.ofString "/claim/cut.py") 227)])) (@List.toArray (@Option PySem.Value) []))
noncomputable def o79 (P : Params) : Obj := (@PySem.Obj.mk (@PySem.Value.type "function") (@Option.none Nat) (@PySem.Data.func (fdOf (stIn 5 0) (@PySem.Str.ofString "PagebaseError.__init__") 3 [] PySem.Value.none PySem.Value.none PySem.Value.none (@PySem.Value.str (@PySem.Str.ofString "pagebase.errors") 207) (@Option.none Nat) (@PySem.Value.ref 41) PySem.Value.none 0)) (@List.toArray (@Option PySem.Value) []))
noncomputable def o80 (P : Params) : Obj := (@PySem.Obj.mk (@PySem.Value.type "tuple") (@Option.none Nat) (@PySem.Data.seq (@List.toArray PySem.Value [(@PySem.Value.str (@PySem.Str.ofString "message") 229)]) 0) (@List.toArray (@Option PySem.Value) []))
noncomputable def o81 (P : Params) : Obj := (@PySem.Obj.mk (@PySem.Value.type "dict") (@Option.none Nat) (@PySem.Data.dict (@List.toArray PySem.DictEntry [(@PySem.DictEntry.mk (@PySem.PyData.keyHash P (@PySem.Str.ofString "__module__")) (@PySem.Value.str (@PySem.Str.ofString "__module__") 216) (@PySem.Value.str (@PySem.Str.ofString "pagebase.errors") 207)), (@PySem.DictEntry.mk (@PySem.PyData.keyHash P (@PySem.Str.ofString "__firstlineno__")) (@PySem.Value.str (@PySem.Str.ofString "__firstlineno__") 220) (@PySem.Value.int 10 219)), (@PySem.DictEntry.mk (@PySem.PyData.keyHash P (@PySem.Str.ofString "__init__")) (@PySem.Value.str (@PySem.Str.ofString "__init__") 228) (@PySem.Value.ref 42)), (@PySem.DictEntry.mk (@PySem.PyData.keyHash P (@PySem.Str.ofString "__static_attributes__")) (@PySem.Value.str (@PySem.Str.ofString "__static_attributes__") 230) (@PySem.Value.ref 43)), (@PySem.DictEntry.mk (@PySem.PyData.keyHash P (@PySem.Str.ofString "__weakref__")) (@PySem.Value.str (@PySem.Str.ofString "__weakref__") 232) (@PySem.Value.ref 46)), (@PySem.DictEntry.mk (@PySem.PyData.keyHash P (@PySem.Str.ofString "__doc__")) (@PySem.Value.str (@PySem.Str.ofString "__doc__") 233) PySem.Value.none)]) 3) (@List.toArray (@Option PySem.Value) []))
noncomputable def o82 (P : Params) : Obj := (@PySem.Obj.mk (@PySem.Value.type "type") (@Option.none Nat) (@PySem.Data.cls (@PySem.ClassData.mk (@PySem.Str.ofString "PagebaseError") [(@PySem.Value.type "Exception")] [(@PySem.Value.ref 45), (@PySem.Value.type "Exception"), (@PySem.Value.type "BaseException"), (@PySem.Value.type "object")] 44 (@PySem.Str.ofString "PagebaseError") Bool.true [] [] Bool.false (@Option.none Bool) Bool.false)) (@List.toArray (@Option PySem.Value) [(@Option.some PySem.Value (@PySem.Value.ref 29)), (@Option.none PySem.Value), (@Option.some PySem.Value (@PySem.Value.str (@PySem.Str.ofString "PagebaseError") 209)), (@Option.some PySem.Value (@PySem.Value.str (@PySem.Str.ofString "PagebaseError") 217)), (@Option.some PySem.Value (@PySem.Value.builtin "Exception.__new__")), (@Option.some PySem.Value (@PySem.Value.bool Bool.true))]))
noncomputable def o83 (P : Params) : Obj := (@PySem.Obj.mk (@PySem.Value.type "getset_descriptor") (@Option.none Nat) (@PySem.Data.fields (@List.toArray PySem.Value [(@PySem.Value.str (@PySem.Str.ofString "__weakref__") 231), (@PySem.Value.ref 45), (@PySem.Value.builtin "ExceptionGroup.__weakref__"), PySem.Value.none])) (@List.toArray (@Option PySem.Value) []))
noncomputable def o84 (P : Params) : Obj := (@PySem.Obj.mk (@PySem.Value.type "super") (@Option.none Nat) (@PySem.Data.fields (@List.toArray PySem.Value [(@PySem.Value.ref 45), (@PySem.Value.ref 45), (@PySem.Value.ref 45)])) (@List.toArray (@Option PySem.Value) []))
noncomputable def o85 (P : Params) : Obj := (@PySem.Obj.mk (@PySem.Value.type "builtin_function_or_method") (@Option.none Nat) (@PySem.Data.fields (@List.toArray PySem.Value [(@PySem.Value.builtin "object.__init_subclass__"), (@PySem.Value.ref 45)])) (@List.toArray (@Option PySem.Value) []))
noncomputable def tree85 (P : Params) : BT := (@PySem.W.BT.node (@PySem.W.boot_o_0 P) (@PySem.W.BT.node (@PySem.W.boot_o_1 P) (@PySem.W.BT.node (@o50 P) (@PySem.W.BT.node (@PySem.W.boot_o_7 P) (@PySem.W.BT.node (@o52 P) (@PySem.W.BT.node (@o68 P) PySem.W.BT.nil PySem.W.BT.nil) (@PySem.W.BT.node (@o84 P) PySem.W.BT.nil PySem.W.BT.nil)) (@PySem.W.BT.node (@o60 P) (@PySem.W.BT.node (@o76 P) PySem.W.BT.nil PySem.W.BT.nil) PySem.W.BT.nil)) (@PySem.W.BT.node (@o43 P) (@PySem.W.BT.node (@o56 P) (@PySem.W.BT.node (@o72 P) PySem.W.BT.nil PySem.W.BT.nil) PySem.W.BT.nil) (@PySem.W.BT.node (@o64 P) (@PySem.W.BT.node (@o80 P) PySem.W.BT.nil PySem.W.BT.nil) PySem.W.BT.nil))) (@PySem.W.BT.node (@PySem.W.boot_o_5 P) (@PySem.W.BT.node (@PySem.W.boot_o_9 P) (@PySem.W.BT.node (@o54 P) (@PySem.W.BT.node (@o70 P) PySem.W.BT.nil PySem.W.BT.nil) PySem.W.BT.nil) (@PySem.W.BT.node (@o62 P) (@PySem.W.BT.node (@o78 P) PySem.W.BT.nil PySem.W.BT.nil) PySem.W.BT.nil)) (@PySem.W.BT.node (@o45 P) (@PySem.W.BT.node (@o58 P) (@PySem.W.BT.node (@o74 P) PySem.W.BT.nil PySem.W.BT.nil) PySem.W.BT.nil) (@PySem.W.BT.node (@o66 P) (@PySem.W.BT.node (@o82 P) PySem.W.BT.nil PySem.W.BT.nil) PySem.W.BT.nil)))) (@PySem.W.BT.node (@o49 P) (@PySem.W.BT.node (@PySem.W.boot_o_4 P) (@PySem.W.BT.node (@PySem.W.boot_o_8 P) (@PySem.W.BT.node (@o53 P) (@PySem.W.BT.node (@o69 P) PySem.W.BT.nil PySem.W.BT.nil) (@PySem.W.BT.node (@o85 P) PySem.W.BT.nil PySem.W.BT.nil)) (@PySem.W.BT.node (@o61 P) (@PySem.W.BT.node (@o77 P) PySem.W.BT.nil PySem.W.BT.nil) PySem.W.BT.nil)) (@PySem.W.BT.node (@o51 P) (@PySem.W.BT.node (@o57 P) (@PySem.W.BT.node (@o73 P) PySem.W.BT.nil PySem.W.BT.nil) PySem.W.BT.nil) (@PySem.W.BT.node (@o65 P) (@PySem.W.BT.node (@o81 P) PySem.W.BT.nil PySem.W.BT.nil) PySem.W.BT.nil))) (@PySem.W.BT.node (@PySem.W.boot_o_6 P) (@PySem.W.BT.node (@PySem.W.boot_o_10 P) (@PySem.W.BT.node (@o55 P) (@PySem.W.BT.node (@o71 P) PySem.W.BT.nil PySem.W.BT.nil) PySem.W.BT.nil) (@PySem.W.BT.node (@o63 P) (@PySem.W.BT.node (@o79 P) PySem.W.BT.nil PySem.W.BT.nil) PySem.W.BT.nil)) (@PySem.W.BT.node (@o46 P) (@PySem.W.BT.node (@o59 P) (@PySem.W.BT.node (@o75 P) PySem.W.BT.nil PySem.W.BT.nil) PySem.W.BT.nil) (@PySem.W.BT.node (@o67 P) (@PySem.W.BT.node (@o83 P) PySem.W.BT.nil PySem.W.BT.nil) PySem.W.BT.nil)))))
noncomputable def o86 (P : Params) : Obj := (@PySem.Obj.mk (@PySem.Value.type "dict") (@Option.none Nat) (@PySem.Data.dict (@List.toArray PySem.DictEntry [(@PySem.DictEntry.mk (@PySem.PyData.keyHash P (@PySem.Str.ofString "__name__")) (@PySem.Value.str (@PySem.Str.ofString "__name__") 165) (@PySem.Value.str (@PySem.Str.ofString "pagebase.node_view") 256)), (@PySem.DictEntry.mk (@PySem.PyData.keyHash P (@PySem.Str.ofString "__doc__")) (@PySem.Value.str (@PySem.Str.ofString "__doc__") 166) PySem.Value.none), (@PySem.DictEntry.mk (@PySem.PyData.keyHash P (@PySem.Str.ofString "__package__")) (@PySem.Value.str (@PySem.Str.ofString "__package__") 167) PySem.Value.none), (@PySem.DictEntry.mk (@PySem.PyData.keyHash P (@PySem.Str.ofString "__loader__")) (@PySem.Value.str (@PySem.Str.ofString "__loader__") 168) (loaderV P)), (@PySem.DictEntry.mk (@PySem.PyData.keyHash P (@PySem.Str.ofString "__spec__")) (@PySem.Value.str (@PySem.Str.ofString "__spec__") 169) PySem.Value.none), (@PySem.DictEntry.mk (@PySem.PyData.keyHash P (@PySem.Str.ofString "__annotations__")) (@PySem.Value.str (@PySem.Str.ofString "__annotations__") 170) (@PySem.Value.ref 6)), (@PySem.DictEntry.mk (@PySem.PyData.keyHash P (@PySem.Str.ofString "__builtins__")) (@PySem.Value.str (@PySem.Str.ofString "__builtins__") 171) (@PySem.Value.ref 4)), (@PySem.DictEntry.mk (@PySem.PyData.keyHash P (@PySem.Str.ofString "__file__")) (@PySem.Value.str (@PySem.Str.ofString "__file__") 173) (@PySem.Value.str (@PySem.Str.ofString "/claim/cut.py") 172)), (@PySem.DictEntry.mk (@PySem.PyData.keyHash P (@PySem.Str.ofString "__cached__")) (@PySem.Value.str (@PySem.Str.ofString "__cached__") 174) PySem.Value.none), (@PySem.DictEntry.mk (@PySem.PyData.keyHash P (@PySem.Str.ofString "_wall")) (@PySem.Value.str (@PySem.Str.ofString "_wall") 193) (@PySem.Value.ref 21)), (@PySem.DictEntry.mk (@PySem.PyData.keyHash P (@PySem.Str.ofString "CHAIN_HEAD")) (@PySem.Value.str (@PySem.Str.ofString "CHAIN_HEAD") 197) (@PySem.Value.int 4 196)), (@PySem.DictEntry.mk (@PySem.PyData.keyHash P (@PySem.Str.ofString "chain_length")) (@PySem.Value.str (@PySem.Str.ofString "chain_length") 206) (@PySem.Value.ref 28)), (@PySem.DictEntry.mk (@PySem.PyData.keyHash P (@PySem.Str.ofString "PagebaseError")) (@PySem.Value.str (@PySem.Str.ofString "PagebaseError") 237) (@PySem.Value.ref 45)), (@PySem.DictEntry.mk (@PySem.PyData.keyHash P (@PySem.Str.ofString "CorruptError")) (@PySem.Value.str (@PySem.Str.ofString "CorruptError") 253) (@PySem.Value.ref 58)), (@PySem.DictEntry.mk (@PySem.PyData.keyHash P (@PySem.Str.ofString "HEADER_SIZE")) (@PySem.Value.str (@PySem.Str.ofString "HEADER_SIZE") 255) (@PySem.Value.int 32 254)), (@PySem.DictEntry.mk (@PySem.PyData.keyHash P (@PySem.Str.ofString "LEAF_KEYS")) (@PySem.Value.str (@PySem.Str.ofString "LEAF_KEYS") 259) (@PySem.Value.int 10 258)), (@PySem.DictEntry.mk (@PySem.PyData.keyHash P (@PySem.Str.ofString "LEAF_ROWS")) (@PySem.Value.str (@PySem.Str.ofString "LEAF_ROWS") 261) (@PySem.Value.int 13 260)), (@PySem.DictEntry.mk (@PySem.PyData.keyHash P (@PySem.Str.ofString "LEAST_CELL")) (@PySem.Value.str (@PySem.Str.ofString "LEAST_CELL") 263) (@PySem.Value.int 4 262)), (@PySem.DictEntry.mk (@PySem.PyData.keyHash P (@PySem.Str.ofString "two_at")) (@PySem.Value.str (@PySem.Str.ofString "two_at") 271) (@PySem.Value.ref 67)), (@PySem.DictEntry.mk (@PySem.PyData.keyHash P (@PySem.Str.ofString "four_at")) (@PySem.Value.str (@PySem.Str.ofString "four_at") 279) (@PySem.Value.ref 74)), (@PySem.DictEntry.mk (@PySem.PyData.keyHash P (@PySem.Str.ofString "put_two")) (@PySem.Value.str (@PySem.Str.ofString "put_two") 288) (@PySem.Value.ref 81)), (@PySem.DictEntry.mk (@PySem.PyData.keyHash P (@PySem.Str.ofString "put_four")) (@PySem.Value.str (@PySem.Str.ofString "put_four") 297) (@PySem.Value.ref 88))]) 22) (@List.toArray (@Option PySem.Value) []))
noncomputable def o87 (P : Params) : Obj := (@PySem.Obj.mk PySem.Value.none (@Option.none Nat) (@PySem.Data.fields (@List.toArray PySem.Value [(@PySem.Value.int 1 0), (@PySem.Value.int 0 0), (@PySem.Value.ref 20), (@PySem.Value.int 6 0), (@PySem.Value.int 0 0), (@PySem.Value.ref 27), (@PySem.Value.int 10 0), (@PySem.Value.int 0 0), (@PySem.Value.ref 34), (@PySem.Value.int 14 0), (@PySem.Value.int 0 0), (@PySem.Value.ref 54), (@PySem.Value.int 21 0), (@PySem.Value.int 0 0), (@PySem.Value.ref 66), (@PySem.Value.int 23 0), (@PySem.Value.int 0 0), (@PySem.Value.ref 73), (@PySem.Value.int 25 0), (@PySem.Value.int 0 0), (@PySem.Value.ref 80), (@PySem.Value.int 28 0), (@PySem.Value.int 0 0), (@PySem.Value.ref 87)])) (@List.toArray (@Option PySem.Value) []))
noncomputable def o88 (P : Params) : Obj := (@PySem.Obj.mk (@PySem.Value.type "type") (@Option.none Nat) (@PySem.Data.cls (@PySem.ClassData.mk (@PySem.Str.ofString "PagebaseError") [(@PySem.Value.type "Exception")] [(@PySem.Value.ref 45), (@PySem.Value.type "Exception"), (@PySem.Value.type "BaseException"), (@PySem.Value.type "object")] 44 (@PySem.Str.ofString "PagebaseError") Bool.true [] [(@PySem.Value.ref 58)] Bool.false (@Option.none Bool) Bool.false)) (@List.toArray (@Option PySem.Value) [(@Option.some PySem.Value (@PySem.Value.ref 29)), (@Option.none PySem.Value), (@Option.some PySem.Value (@PySem.Value.str (@PySem.Str.ofString "PagebaseError") 209)), (@Option.some PySem.Value (@PySem.Value.str (@PySem.Str.ofString "PagebaseError") 217)), (@Option.some PySem.Value (@PySem.Value.builtin "Exception.__new__")), (@Option.some PySem.Value (@PySem.Value.bool Bool.true))]))
noncomputable def o89 (P : Params) : Obj := (@PySem.Obj.mk (@PySem.Value.type "tuple") (@Option.none Nat) (@PySem.Data.seq (@List.toArray PySem.Value [(@PySem.Value.ref 45)]) 0) (@List.toArray (@Option PySem.Value) []))
noncomputable def o90 (P : Params) : Obj := (@PySem.Obj.mk (@PySem.Value.type "builtin_function_or_method") (@Option.none Nat) (@PySem.Data.fields (@List.toArray PySem.Value [(@PySem.Value.builtin "type.__prepare__"), (@PySem.Value.type "type")])) (@List.toArray (@Option PySem.Value) []))
noncomputable def o91 (P : Params) : Obj := (@PySem.Obj.mk (@PySem.Value.type "dict") (@Option.none Nat) (@PySem.Data.dict (@List.toArray PySem.DictEntry [(@PySem.DictEntry.mk (@PySem.PyData.keyHash P (@PySem.Str.ofString "__module__")) (@PySem.Value.str (@PySem.Str.ofString "__module__") 245) (@PySem.Value.str (@PySem.Str.ofString "pagebase.errors") 207)), (@PySem.DictEntry.mk (@PySem.PyData.keyHash P (@PySem.Str.ofString "__qualname__")) (@PySem.Value.str (@PySem.Str.ofString "__qualname__") 247) (@PySem.Value.str (@PySem.Str.ofString "CorruptError") 246)), (@PySem.DictEntry.mk (@PySem.PyData.keyHash P (@PySem.Str.ofString "__firstlineno__")) (@PySem.Value.str (@PySem.Str.ofString "__firstlineno__") 249) (@PySem.Value.int 14 248)), (@PySem.DictEntry.mk (@PySem.PyData.keyHash P (@PySem.Str.ofString "__static_attributes__")) (@PySem.Value.str (@PySem.Str.ofString "__static_attributes__") 250) (@PySem.Value.ref 56))]) 4) (@List.toArray (@Option PySem.Value) []))
noncomputable def o92 (P : Params) : Obj := (@PySem.Obj.mk (@PySem.Value.type "tuple") (@Option.none Nat) (@PySem.Data.seq (@List.toArray PySem.Value []) 0) (@List.toArray (@Option PySem.Value) []))
noncomputable def o93 (P : Params) : Obj := (@PySem.Obj.mk PySem.Value.none (@Option.none Nat) (@PySem.Data.fields (@List.toArray PySem.Value [])) (@List.toArray (@Option PySem.Value) []))
noncomputable def o94 (P : Params) : Obj := (@PySem.Obj.mk (@PySem.Value.type "code") (@Option.none Nat) (@PySem.Data.fields (@List.toArray PySem.Value [(@PySem.Value.str (@PySem.Str.ofString "CorruptError") 240), (@PySem.Value.str (@PySem.Str.ofString "CorruptError") 241), (@PySem.Value.str (@PySem.Str.ofString "/claim/cut.py") 242), (@PySem.Value.int 14 0), (@PySem.Value.int 0 0), (@PySem.Value.int 0 0), (@PySem.Value.int 0 0), (@PySem.Value.int 0 0), (@PySem.Value.ref 52), (@PySem.Value.bool Bool.false), (@PySem.Value.int 181 0), (@PySem.Value.ref 53), PySem.Value.none, PySem.Value.none, PySem.Value.none, PySem.Value.none, (@PySem.Value.int 243 0), (@PySem.Value.int 14 0), (@PySem.Value.str (@PySem.Str.ofString "/claim/cut.py") 244)])) (@List.toArray (@Option PySem.Value) []))
noncomputable def o95 (P : Params) : Obj := (@PySem.Obj.mk (@PySem.Value.type "frame") (@Option.none Nat) PySem.Data.plain (@List.toArray (@Option PySem.Value) [(@Option.some PySem.Value (@PySem.Value.ref 54)), (@Option.some PySem.Value (@PySem.Value.ref 3)), (@Option.some PySem.Value (@PySem.Value.ref 51)), (@Option.none PySem.Value), (@Option.some PySem.Value (@PySem.Value.str (@PySem.Str.ofString "pagebase.errors") 207)), (@Option.none PySem.Value), (@Option.some PySem.Value (@PySem.Value.ref 0))]))
noncomputable def o96 (P : Params) : Obj := (@PySem.Obj.mk (@PySem.Value.type "tuple") (@Option.none Nat) (@PySem.Data.seq (@List.toArray PySem.Value []) 0) (@List.toArray (@Option PySem.Value) []))
noncomputable def o97 (P : Params) : Obj := (@PySem.Obj.mk (@PySem.Value.type "dict") (@Option.none Nat) (@PySem.Data.dict (@List.toArray PySem.DictEntry [(@PySem.DictEntry.mk (@PySem.PyData.keyHash P (@PySem.Str.ofString "__module__")) (@PySem.Value.str (@PySem.Str.ofString "__module__") 245) (@PySem.Value.str (@PySem.Str.ofString "pagebase.errors") 207)), (@PySem.DictEntry.mk (@PySem.PyData.keyHash P (@PySem.Str.ofString "__firstlineno__")) (@PySem.Value.str (@PySem.Str.ofString "__firstlineno__") 249) (@PySem.Value.int 14 248)), (@PySem.DictEntry.mk (@PySem.PyData.keyHash P (@PySem.Str.ofString "__static_attributes__")) (@PySem.Value.str (@PySem.Str.ofString "__static_attributes__") 250) (@PySem.Value.ref 56)), (@PySem.DictEntry.mk (@PySem.PyData.keyHash P (@PySem.Str.ofString "__doc__")) (@PySem.Value.str (@PySem.Str.ofString "__doc__") 251) PySem.Value.none)]) 2) (@List.toArray (@Option PySem.Value) []))
noncomputable def o98 (P : Params) : Obj := (@PySem.Obj.mk (@PySem.Value.type "type") (@Option.none Nat) (@PySem.Data.cls (@PySem.ClassData.mk (@PySem.Str.ofString "CorruptError") [(@PySem.Value.ref 45)] [(@PySem.Value.ref 58), (@PySem.Value.ref 45), (@PySem.Value.type "Exception"), (@PySem.Value.type "BaseException"), (@PySem.Value.type "object")] 57 (@PySem.Str.ofString "CorruptError") Bool.true [] [] Bool.false (@Option.none Bool) Bool.false)) (@List.toArray (@Option PySem.Value) [(@Option.some PySem.Value (@PySem.Value.ref 49)), (@Option.none PySem.Value), (@Option.some PySem.Value (@PySem.Value.str (@PySem.Str.ofString "CorruptError") 238)), (@Option.some PySem.Value (@PySem.Value.str (@PySem.Str.ofString "CorruptError") 246)), (@Option.some PySem.Value (@PySem.Value.builtin "Exception.__new__")), (@Option.some PySem.Value (@PySem.Value.bool Bool.true))]))
noncomputable def o99 (P : Params) : Obj := (@PySem.Obj.mk (@PySem.Value.type "super") (@Option.none Nat) (@PySem.Data.fields (@List.toArray PySem.Value [(@PySem.Value.ref 58), (@PySem.Value.ref 58), (@PySem.Value.ref 58)])) (@List.toArray (@Option PySem.Value) []))
noncomputable def o100 (P : Params) : Obj := (@PySem.Obj.mk (@PySem.Value.type "builtin_function_or_method") (@Option.none Nat) (@PySem.Data.fields (@List.toArray PySem.Value [(@PySem.Value.builtin "object.__init_subclass__"), (@PySem.Value.ref 58)])) (@List.toArray (@Option PySem.Value) []))
noncomputable def o101 (P : Params) : Obj := (@PySem.Obj.mk (@PySem.Value.type "tuple") (@Option.none Nat) (@PySem.Data.seq (@List.toArray PySem.Value []) 0) (@List.toArray (@Option PySem.Value) []))
noncomputable def o102 (P : Params) : Obj := (@PySem.Obj.mk PySem.Value.none (@Option.none Nat) (@PySem.Data.fields (@List.toArray PySem.Value [])) (@List.toArray (@Option PySem.Value) []))
noncomputable def o103 (P : Params) : Obj := (@PySem.Obj.mk (@PySem.Value.type "tuple") (@Option.none Nat) (@PySem.Data.seq (@List.toArray PySem.Value [(@PySem.Value.str (@PySem.Str.ofString "octets") 267), (@PySem.Value.str (@PySem.Str.ofString "at") 268)]) 0) (@List.toArray (@Option PySem.Value) []))
noncomputable def o104 (P : Params) : Obj := (@PySem.Obj.mk (@PySem.Value.type "tuple") (@Option.none Nat) (@PySem.Data.seq (@List.toArray PySem.Value []) 0) (@List.toArray (@Option PySem.Value) []))
noncomputable def o105 (P : Params) : Obj := (@PySem.Obj.mk PySem.Value.none (@Option.none Nat) (@PySem.Data.func (fdOf (stAt 12) (@PySem.Str.ofString "two_at") 0 [] PySem.Value.none PySem.Value.none PySem.Value.none PySem.Value.none (@Option.none Nat) PySem.Value.none PySem.Value.none 0)) (@List.toArray (@Option PySem.Value) []))
noncomputable def o106 (P : Params) : Obj := (@PySem.Obj.mk (@PySem.Value.type "code") (@Option.none Nat) (@PySem.Data.fields (@List.toArray PySem.Value [(@PySem.Value.str (@PySem.Str.ofString "two_at") 264), (@PySem.Value.str (@PySem.Str.ofString "two_at") 265), (@PySem.Value.str (@PySem.Str.ofString "/claim/cut.py") 266), (@PySem.Value.int 21 0), (@PySem.Value.int 2 0), (@PySem.Value.int 0 0), (@PySem.Value.int 0 0), (@PySem.Value.int 3 0), (@PySem.Value.ref 61), (@PySem.Value.bool Bool.true), (@PySem.Value.int 181 0), (@PySem.Value.ref 62), PySem.Value.none, (@PySem.Value.ref 63), (@PySem.Value.ref 64), (@PySem.Value.ref 65), (@PySem.Value.int 269 0), (@PySem.Value.int 21 0), (@PySem.Value.str (@PySem.Str.ofString "/claim/cut.py") 270)])) (@List.toArray (@Option PySem.Value) []))
noncomputable def o107 (P : Params) : Obj := (@PySem.Obj.mk (@PySem.Value.type "function") (@Option.none Nat) (@PySem.Data.func (fdOf (stAt 12) (@PySem.Str.ofString "two_at") 3 [] PySem.Value.none PySem.Value.none PySem.Value.none (@PySem.Value.str (@PySem.Str.ofString "pagebase.node_view") 256) (@Option.none Nat) (@PySem.Value.ref 66) PySem.Value.none 0)) (@List.toArray (@Option PySem.Value) []))
noncomputable def o108 (P : Params) : Obj := (@PySem.Obj.mk (@PySem.Value.type "tuple") (@Option.none Nat) (@PySem.Data.seq (@List.toArray PySem.Value []) 0) (@List.toArray (@Option PySem.Value) []))
noncomputable def o109 (P : Params) : Obj := (@PySem.Obj.mk PySem.Value.none (@Option.none Nat) (@PySem.Data.fields (@List.toArray PySem.Value [])) (@List.toArray (@Option PySem.Value) []))
noncomputable def o110 (P : Params) : Obj := (@PySem.Obj.mk (@PySem.Value.type "tuple") (@Option.none Nat) (@PySem.Data.seq (@List.toArray PySem.Value [(@PySem.Value.str (@PySem.Str.ofString "octets") 275), (@PySem.Value.str (@PySem.Str.ofString "at") 276)]) 0) (@List.toArray (@Option PySem.Value) []))
noncomputable def o111 (P : Params) : Obj := (@PySem.Obj.mk (@PySem.Value.type "tuple") (@Option.none Nat) (@PySem.Data.seq (@List.toArray PySem.Value []) 0) (@List.toArray (@Option PySem.Value) []))
noncomputable def o112 (P : Params) : Obj := (@PySem.Obj.mk PySem.Value.none (@Option.none Nat) (@PySem.Data.func (fdOf (stAt 13) (@PySem.Str.ofString "four_at") 0 [] PySem.Value.none PySem.Value.none PySem.Value.none PySem.Value.none (@Option.none Nat) PySem.Value.none PySem.Value.none 0)) (@List.toArray (@Option PySem.Value) []))
noncomputable def o113 (P : Params) : Obj := (@PySem.Obj.mk (@PySem.Value.type "code") (@Option.none Nat) (@PySem.Data.fields (@List.toArray PySem.Value [(@PySem.Value.str (@PySem.Str.ofString "four_at") 272), (@PySem.Value.str (@PySem.Str.ofString "four_at") 273), (@PySem.Value.str (@PySem.Str.ofString "/claim/cut.py") 274), (@PySem.Value.int 23 0), (@PySem.Value.int 2 0), (@PySem.Value.int 0 0), (@PySem.Value.int 0 0), (@PySem.Value.int 3 0), (@PySem.Value.ref 68), (@PySem.Value.bool Bool.true), (@PySem.Value.int 181 0), (@PySem.Value.ref 69), PySem.Value.none, (@PySem.Value.ref 70), (@PySem.Value.ref 71), (@PySem.Value.ref 72), (@PySem.Value.int 277 0), (@PySem.Value.int 23 0), (@PySem.Value.str (@PySem.Str.ofString "/claim/cut.py") 278)])) (@List.toArray (@Option PySem.Value) []))
noncomputable def o114 (P : Params) : Obj := (@PySem.Obj.mk (@PySem.Value.type "function") (@Option.none Nat) (@PySem.Data.func (fdOf (stAt 13) (@PySem.Str.ofString "four_at") 3 [] PySem.Value.none PySem.Value.none PySem.Value.none (@PySem.Value.str (@PySem.Str.ofString "pagebase.node_view") 256) (@Option.none Nat) (@PySem.Value.ref 73) PySem.Value.none 0)) (@List.toArray (@Option PySem.Value) []))
noncomputable def o115 (P : Params) : Obj := (@PySem.Obj.mk (@PySem.Value.type "tuple") (@Option.none Nat) (@PySem.Data.seq (@List.toArray PySem.Value []) 0) (@List.toArray (@Option PySem.Value) []))
noncomputable def o116 (P : Params) : Obj := (@PySem.Obj.mk PySem.Value.none (@Option.none Nat) (@PySem.Data.fields (@List.toArray PySem.Value [])) (@List.toArray (@Option PySem.Value) []))
noncomputable def o117 (P : Params) : Obj := (@PySem.Obj.mk (@PySem.Value.type "tuple") (@Option.none Nat) (@PySem.Data.seq (@List.toArray PySem.Value [(@PySem.Value.str (@PySem.Str.ofString "octets") 283), (@PySem.Value.str (@PySem.Str.ofString "at") 284), (@PySem.Value.str (@PySem.Str.ofString "number") 285)]) 0) (@List.toArray (@Option PySem.Value) []))
noncomputable def o118 (P : Params) : Obj := (@PySem.Obj.mk (@PySem.Value.type "tuple") (@Option.none Nat) (@PySem.Data.seq (@List.toArray PySem.Value []) 0) (@List.toArray (@Option PySem.Value) []))
noncomputable def o119 (P : Params) : Obj := (@PySem.Obj.mk PySem.Value.none (@Option.none Nat) (@PySem.Data.func (fdOf (stAt 14) (@PySem.Str.ofString "put_two") 0 [] PySem.Value.none PySem.Value.none PySem.Value.none PySem.Value.none (@Option.none Nat) PySem.Value.none PySem.Value.none 0)) (@List.toArray (@Option PySem.Value) []))
noncomputable def o120 (P : Params) : Obj := (@PySem.Obj.mk (@PySem.Value.type "code") (@Option.none Nat) (@PySem.Data.fields (@List.toArray PySem.Value [(@PySem.Value.str (@PySem.Str.ofString "put_two") 280), (@PySem.Value.str (@PySem.Str.ofString "put_two") 281), (@PySem.Value.str (@PySem.Str.ofString "/claim/cut.py") 282), (@PySem.Value.int 25 0), (@PySem.Value.int 3 0), (@PySem.Value.int 0 0), (@PySem.Value.int 0 0), (@PySem.Value.int 3 0), (@PySem.Value.ref 75), (@PySem.Value.bool Bool.true), (@PySem.Value.int 181 0), (@PySem.Value.ref 76), PySem.Value.none, (@PySem.Value.ref 77), (@PySem.Value.ref 78), (@PySem.Value.ref 79), (@PySem.Value.int 286 0), (@PySem.Value.int 25 0), (@PySem.Value.str (@PySem.Str.ofString "/claim/cut.py") 287)])) (@List.toArray (@Option PySem.Value) []))
noncomputable def o121 (P : Params) : Obj := (@PySem.Obj.mk (@PySem.Value.type "function") (@Option.none Nat) (@PySem.Data.func (fdOf (stAt 14) (@PySem.Str.ofString "put_two") 3 [] PySem.Value.none PySem.Value.none PySem.Value.none (@PySem.Value.str (@PySem.Str.ofString "pagebase.node_view") 256) (@Option.none Nat) (@PySem.Value.ref 80) PySem.Value.none 0)) (@List.toArray (@Option PySem.Value) []))
noncomputable def o122 (P : Params) : Obj := (@PySem.Obj.mk (@PySem.Value.type "tuple") (@Option.none Nat) (@PySem.Data.seq (@List.toArray PySem.Value []) 0) (@List.toArray (@Option PySem.Value) []))
noncomputable def o123 (P : Params) : Obj := (@PySem.Obj.mk PySem.Value.none (@Option.none Nat) (@PySem.Data.fields (@List.toArray PySem.Value [])) (@List.toArray (@Option PySem.Value) []))
noncomputable def o124 (P : Params) : Obj := (@PySem.Obj.mk (@PySem.Value.type "tuple") (@Option.none Nat) (@PySem.Data.seq (@List.toArray PySem.Value [(@PySem.Value.str (@PySem.Str.ofString "octets") 292), (@PySem.Value.str (@PySem.Str.ofString "at") 293), (@PySem.Value.str (@PySem.Str.ofString "number") 294)]) 0) (@List.toArray (@Option PySem.Value) []))
noncomputable def o125 (P : Params) : Obj := (@PySem.Obj.mk (@PySem.Value.type "tuple") (@Option.none Nat) (@PySem.Data.seq (@List.toArray PySem.Value []) 0) (@List.toArray (@Option PySem.Value) []))
noncomputable def o126 (P : Params) : Obj := (@PySem.Obj.mk PySem.Value.none (@Option.none Nat) (@PySem.Data.func (fdOf (stAt 15) (@PySem.Str.ofString "put_four") 0 [] PySem.Value.none PySem.Value.none PySem.Value.none PySem.Value.none (@Option.none Nat) PySem.Value.none PySem.Value.none 0)) (@List.toArray (@Option PySem.Value) []))
noncomputable def o127 (P : Params) : Obj := (@PySem.Obj.mk (@PySem.Value.type "code") (@Option.none Nat) (@PySem.Data.fields (@List.toArray PySem.Value [(@PySem.Value.str (@PySem.Str.ofString "put_four") 289), (@PySem.Value.str (@PySem.Str.ofString "put_four") 290), (@PySem.Value.str (@PySem.Str.ofString "/claim/cut.py") 291), (@PySem.Value.int 28 0), (@PySem.Value.int 3 0), (@PySem.Value.int 0 0), (@PySem.Value.int 0 0), (@PySem.Value.int 3 0), (@PySem.Value.ref 82), (@PySem.Value.bool Bool.true), (@PySem.Value.int 181 0), (@PySem.Value.ref 83), PySem.Value.none, (@PySem.Value.ref 84), (@PySem.Value.ref 85), (@PySem.Value.ref 86), (@PySem.Value.int 295 0), (@PySem.Value.int 28 0), (@PySem.Value.str (@PySem.Str.ofString "/claim/cut.py") 296)])) (@List.toArray (@Option PySem.Value) []))
noncomputable def o128 (P : Params) : Obj := (@PySem.Obj.mk (@PySem.Value.type "function") (@Option.none Nat) (@PySem.Data.func (fdOf (stAt 15) (@PySem.Str.ofString "put_four") 3 [] PySem.Value.none PySem.Value.none PySem.Value.none (@PySem.Value.str (@PySem.Str.ofString "pagebase.node_view") 256) (@Option.none Nat) (@PySem.Value.ref 87) PySem.Value.none 0)) (@List.toArray (@Option PySem.Value) []))
noncomputable def tree128 (P : Params) : BT := (@PySem.W.BT.node (@PySem.W.boot_o_0 P) (@PySem.W.BT.node (@PySem.W.boot_o_1 P) (@PySem.W.BT.node (@o86 P) (@PySem.W.BT.node (@PySem.W.boot_o_7 P) (@PySem.W.BT.node (@o52 P) (@PySem.W.BT.node (@o68 P) (@PySem.W.BT.node (@o103 P) PySem.W.BT.nil PySem.W.BT.nil) PySem.W.BT.nil) (@PySem.W.BT.node (@o84 P) (@PySem.W.BT.node (@o119 P) PySem.W.BT.nil PySem.W.BT.nil) PySem.W.BT.nil)) (@PySem.W.BT.node (@o60 P) (@PySem.W.BT.node (@o76 P) (@PySem.W.BT.node (@o111 P) PySem.W.BT.nil PySem.W.BT.nil) PySem.W.BT.nil) (@PySem.W.BT.node (@o95 P) (@PySem.W.BT.node (@o127 P) PySem.W.BT.nil PySem.W.BT.nil) PySem.W.BT.nil))) (@PySem.W.BT.node (@o43 P) (@PySem.W.BT.node (@o56 P) (@PySem.W.BT.node (@o72 P) (@PySem.W.BT.node (@o107 P) PySem.W.BT.nil PySem.W.BT.nil) PySem.W.BT.nil) (@PySem.W.BT.node (@o91 P) (@PySem.W.BT.node (@o123 P) PySem.W.BT.nil PySem.W.BT.nil) PySem.W.BT.nil)) (@PySem.W.BT.node (@o64 P) (@PySem.W.BT.node (@o80 P) (@PySem.W.BT.node (@o115 P) PySem.W.BT.nil PySem.W.BT.nil) PySem.W.BT.nil) (@PySem.W.BT.node (@o99 P) PySem.W.BT.nil PySem.W.BT.nil)))) (@PySem.W.BT.node (@PySem.W.boot_o_5 P) (@PySem.W.BT.node (@PySem.W.boot_o_9 P) (@PySem.W.BT.node (@o54 P) (@PySem.W.BT.node (@o70 P) (@PySem.W.BT.node (@o105 P) PySem.W.BT.nil PySem.W.BT.nil) PySem.W.BT.nil) (@PySem.W.BT.node (@o89 P) (@PySem.W.BT.node (@o121 P) PySem.W.BT.nil PySem.W.BT.nil) PySem.W.BT.nil)) (@PySem.W.BT.node (@o62 P) (@PySem.W.BT.node (@o78 P) (@PySem.W.BT.node (@o113 P) PySem.W.BT.nil PySem.W.BT.nil) PySem.W.BT.nil) (@PySem.W.BT.node (@o97 P) PySem.W.BT.nil PySem.W.BT.nil))) (@PySem.W.BT.node (@o45 P) (@PySem.W.BT.node (@o58 P) (@PySem.W.BT.node (@o74 P) (@PySem.W.BT.node (@o109 P) PySem.W.BT.nil PySem.W.BT.nil) PySem.W.BT.nil) (@PySem.W.BT.node (@o93 P) (@PySem.W.BT.node (@o125 P) PySem.W.BT.nil PySem.W.BT.nil) PySem.W.BT.nil)) (@PySem.W.BT.node (@o66 P) (@PySem.W.BT.node (@o88 P) (@PySem.W.BT.node (@o117 P) PySem.W.BT.nil PySem.W.BT.nil) PySem.W.BT.nil) (@PySem.W.BT.node (@o101 P) PySem.W.BT.nil PySem.W.BT.nil))))) (@PySem.W.BT.node (@o49 P) (@PySem.W.BT.node (@PySem.W.boot_o_4 P) (@PySem.W.BT.node (@PySem.W.boot_o_8 P) (@PySem.W.BT.node (@o53 P) (@PySem.W.BT.node (@o69 P) (@PySem.W.BT.node (@o104 P) PySem.W.BT.nil PySem.W.BT.nil) PySem.W.BT.nil) (@PySem.W.BT.node (@o85 P) (@PySem.W.BT.node (@o120 P) PySem.W.BT.nil PySem.W.BT.nil) PySem.W.BT.nil)) (@PySem.W.BT.node (@o61 P) (@PySem.W.BT.node (@o77 P) (@PySem.W.BT.node (@o112 P) PySem.W.BT.nil PySem.W.BT.nil) PySem.W.BT.nil) (@PySem.W.BT.node (@o96 P) (@PySem.W.BT.node (@o128 P) PySem.W.BT.nil PySem.W.BT.nil) PySem.W.BT.nil))) (@PySem.W.BT.node (@o87 P) (@PySem.W.BT.node (@o57 P) (@PySem.W.BT.node (@o73 P) (@PySem.W.BT.node (@o108 P) PySem.W.BT.nil PySem.W.BT.nil) PySem.W.BT.nil) (@PySem.W.BT.node (@o92 P) (@PySem.W.BT.node (@o124 P) PySem.W.BT.nil PySem.W.BT.nil) PySem.W.BT.nil)) (@PySem.W.BT.node (@o65 P) (@PySem.W.BT.node (@o81 P) (@PySem.W.BT.node (@o116 P) PySem.W.BT.nil PySem.W.BT.nil) PySem.W.BT.nil) (@PySem.W.BT.node (@o100 P) PySem.W.BT.nil PySem.W.BT.nil)))) (@PySem.W.BT.node (@PySem.W.boot_o_6 P) (@PySem.W.BT.node (@PySem.W.boot_o_10 P) (@PySem.W.BT.node (@o55 P) (@PySem.W.BT.node (@o71 P) (@PySem.W.BT.node (@o106 P) PySem.W.BT.nil PySem.W.BT.nil) PySem.W.BT.nil) (@PySem.W.BT.node (@o90 P) (@PySem.W.BT.node (@o122 P) PySem.W.BT.nil PySem.W.BT.nil) PySem.W.BT.nil)) (@PySem.W.BT.node (@o63 P) (@PySem.W.BT.node (@o79 P) (@PySem.W.BT.node (@o114 P) PySem.W.BT.nil PySem.W.BT.nil) PySem.W.BT.nil) (@PySem.W.BT.node (@o98 P) PySem.W.BT.nil PySem.W.BT.nil))) (@PySem.W.BT.node (@o46 P) (@PySem.W.BT.node (@o59 P) (@PySem.W.BT.node (@o75 P) (@PySem.W.BT.node (@o110 P) PySem.W.BT.nil PySem.W.BT.nil) PySem.W.BT.nil) (@PySem.W.BT.node (@o94 P) (@PySem.W.BT.node (@o126 P) PySem.W.BT.nil PySem.W.BT.nil) PySem.W.BT.nil)) (@PySem.W.BT.node (@o67 P) (@PySem.W.BT.node (@o83 P) (@PySem.W.BT.node (@o118 P) PySem.W.BT.nil PySem.W.BT.nil) PySem.W.BT.nil) (@PySem.W.BT.node (@o102 P) PySem.W.BT.nil PySem.W.BT.nil))))))
noncomputable def o129 (P : Params) : Obj := (@PySem.Obj.mk (@PySem.Value.type "dict") (@Option.none Nat) (@PySem.Data.dict (@List.toArray PySem.DictEntry [(@PySem.DictEntry.mk (@PySem.PyData.keyHash P (@PySem.Str.ofString "__name__")) (@PySem.Value.str (@PySem.Str.ofString "__name__") 165) (@PySem.Value.str (@PySem.Str.ofString "pagebase.layout") 333)), (@PySem.DictEntry.mk (@PySem.PyData.keyHash P (@PySem.Str.ofString "__doc__")) (@PySem.Value.str (@PySem.Str.ofString "__doc__") 166) PySem.Value.none), (@PySem.DictEntry.mk (@PySem.PyData.keyHash P (@PySem.Str.ofString "__package__")) (@PySem.Value.str (@PySem.Str.ofString "__package__") 167) PySem.Value.none), (@PySem.DictEntry.mk (@PySem.PyData.keyHash P (@PySem.Str.ofString "__loader__")) (@PySem.Value.str (@PySem.Str.ofString "__loader__") 168) (loaderV P)), (@PySem.DictEntry.mk (@PySem.PyData.keyHash P (@PySem.Str.ofString "__spec__")) (@PySem.Value.str (@PySem.Str.ofString "__spec__") 169) PySem.Value.none), (@PySem.DictEntry.mk (@PySem.PyData.keyHash P (@PySem.Str.ofString "__annotations__")) (@PySem.Value.str (@PySem.Str.ofString "__annotations__") 170) (@PySem.Value.ref 6)), (@PySem.DictEntry.mk (@PySem.PyData.keyHash P (@PySem.Str.ofString "__builtins__")) (@PySem.Value.str (@PySem.Str.ofString "__builtins__") 171) (@PySem.Value.ref 4)), (@PySem.DictEntry.mk (@PySem.PyData.keyHash P (@PySem.Str.ofString "__file__")) (@PySem.Value.str (@PySem.Str.ofString "__file__") 173) (@PySem.Value.str (@PySem.Str.ofString "/claim/cut.py") 172)), (@PySem.DictEntry.mk (@PySem.PyData.keyHash P (@PySem.Str.ofString "__cached__")) (@PySem.Value.str (@PySem.Str.ofString "__cached__") 174) PySem.Value.none), (@PySem.DictEntry.mk (@PySem.PyData.keyHash P (@PySem.Str.ofString "_wall")) (@PySem.Value.str (@PySem.Str.ofString "_wall") 193) (@PySem.Value.ref 21)), (@PySem.DictEntry.mk (@PySem.PyData.keyHash P (@PySem.Str.ofString "CHAIN_HEAD")) (@PySem.Value.str (@PySem.Str.ofString "CHAIN_HEAD") 197) (@PySem.Value.int 4 196)), (@PySem.DictEntry.mk (@PySem.PyData.keyHash P (@PySem.Str.ofString "chain_length")) (@PySem.Value.str (@PySem.Str.ofString "chain_length") 206) (@PySem.Value.ref 28)), (@PySem.DictEntry.mk (@PySem.PyData.keyHash P (@PySem.Str.ofString "PagebaseError")) (@PySem.Value.str (@PySem.Str.ofString "PagebaseError") 237) (@PySem.Value.ref 45)), (@PySem.DictEntry.mk (@PySem.PyData.keyHash P (@PySem.Str.ofString "CorruptError")) (@PySem.Value.str (@PySem.Str.ofString "CorruptError") 253) (@PySem.Value.ref 58)), (@PySem.DictEntry.mk (@PySem.PyData.keyHash P (@PySem.Str.ofString "HEADER_SIZE")) (@PySem.Value.str (@PySem.Str.ofString "HEADER_SIZE") 255) (@PySem.Value.int 32 254)), (@PySem.DictEntry.mk (@PySem.PyData.keyHash P (@PySem.Str.ofString "LEAF_KEYS")) (@PySem.Value.str (@PySem.Str.ofString "LEAF_KEYS") 259) (@PySem.Value.int 10 258)), (@PySem.DictEntry.mk (@PySem.PyData.keyHash P (@PySem.Str.ofString "LEAF_ROWS")) (@PySem.Value.str (@PySem.Str.ofString "LEAF_ROWS") 261) (@PySem.Value.int 13 260)), (@PySem.DictEntry.mk (@PySem.PyData.keyHash P (@PySem.Str.ofString "LEAST_CELL")) (@PySem.Value.str (@PySem.Str.ofString "LEAST_CELL") 263) (@PySem.Value.int 4 262)), (@PySem.DictEntry.mk (@PySem.PyData.keyHash P (@PySem.Str.ofString "two_at")) (@PySem.Value.str (@PySem.Str.ofString "two_at") 271) (@PySem.Value.ref 67)), (@PySem.DictEntry.mk (@PySem.PyData.keyHash P (@PySem.Str.ofString "four_at")) (@PySem.Value.str (@PySem.Str.ofString "four_at") 279) (@PySem.Value.ref 74)), (@PySem.DictEntry.mk (@PySem.PyData.keyHash P (@PySem.Str.ofString "put_two")) (@PySem.Value.str (@PySem.Str.ofString "put_two") 288) (@PySem.Value.ref 81)), (@PySem.DictEntry.mk (@PySem.PyData.keyHash P (@PySem.Str.ofString "put_four")) (@PySem.Value.str (@PySem.Str.ofString "put_four") 297) (@PySem.Value.ref 88)), (@PySem.DictEntry.mk (@PySem.PyData.keyHash P (@PySem.Str.ofString "four_octets")) (@PySem.Value.str (@PySem.Str.ofString "four_octets") 305) (@PySem.Value.ref 95)), (@PySem.DictEntry.mk (@PySem.PyData.keyHash P (@PySem.Str.ofString "is_leaf")) (@PySem.Value.str (@PySem.Str.ofString "is_leaf") 312) (@PySem.Value.ref 102)), (@PySem.DictEntry.mk (@PySem.PyData.keyHash P (@PySem.Str.ofString "head_size")) (@PySem.Value.str (@PySem.Str.ofString "head_size") 319) (@PySem.Value.ref 109)), (@PySem.DictEntry.mk (@PySem.PyData.keyHash P (@PySem.Str.ofString "get_varint")) (@PySem.Value.str (@PySem.Str.ofString "get_varint") 332) (@PySem.Value.ref 116)), (@PySem.DictEntry.mk (@PySem.PyData.keyHash P (@PySem.Str.ofString "POINTER")) (@PySem.Value.str (@PySem.Str.ofString "POINTER") 336) (@PySem.Value.int 2 335)), (@PySem.DictEntry.mk (@PySem.PyData.keyHash P (@PySem.Str.ofString "cost")) (@PySem.Value.str (@PySem.Str.ofString "cost") 343) (@PySem.Value.ref 123)), (@PySem.DictEntry.mk (@PySem.PyData.keyHash P (@PySem.Str.ofString "total")) (@PySem.Value.str (@PySem.Str.ofString "total") 349) (@PySem.Value.ref 128)), (@PySem.DictEntry.mk (@PySem.PyData.keyHash P (@PySem.Str.ofString "base_of")) (@PySem.Value.str (@PySem.Str.ofString "base_of") 356) (@PySem.Value.ref 135)), (@PySem.DictEntry.mk (@PySem.PyData.keyHash P (@PySem.Str.ofString "capacity")) (@PySem.Value.str (@PySem.Str.ofString "capacity") 365) (@PySem.Value.ref 142)), (@PySem.DictEntry.mk (@PySem.PyData.keyHash P (@PySem.Str.ofString "child_of")) (@PySem.Value.str (@PySem.Str.ofString "child_of") 372) (@PySem.Value.ref 149)), (@PySem.DictEntry.mk (@PySem.PyData.keyHash P (@PySem.Str.ofString "with_child")) (@PySem.Value.str (@PySem.Str.ofString "with_child") 380) (@PySem.Value.ref 156)), (@PySem.DictEntry.mk (@PySem.PyData.keyHash P (@PySem.Str.ofString "leaf_rowid")) (@PySem.Value.str (@PySem.Str.ofString "leaf_rowid") 390) (@PySem.Value.ref 163))]) 34) (@List.toArray (@Option PySem.Value) []))
noncomputable def o130 (P : Params) : Obj := (@PySem.Obj.mk PySem.Value.none (@Option.none Nat) (@PySem.Data.fields (@List.toArray PySem.Value [(@PySem.Value.int 1 0), (@PySem.Value.int 0 0), (@PySem.Value.ref 20), (@PySem.Value.int 6 0), (@PySem.Value.int 0 0), (@PySem.Value.ref 27), (@PySem.Value.int 10 0), (@PySem.Value.int 0 0), (@PySem.Value.ref 34), (@PySem.Value.int 14 0), (@PySem.Value.int 0 0), (@PySem.Value.ref 54), (@PySem.Value.int 21 0), (@PySem.Value.int 0 0), (@PySem.Value.ref 66), (@PySem.Value.int 23 0), (@PySem.Value.int 0 0), (@PySem.Value.ref 73), (@PySem.Value.int 25 0), (@PySem.Value.int 0 0), (@PySem.Value.ref 80), (@PySem.Value.int 28 0), (@PySem.Value.int 0 0), (@PySem.Value.ref 87), (@PySem.Value.int 31 0), (@PySem.Value.int 0 0), (@PySem.Value.ref 94), (@PySem.Value.int 35 0), (@PySem.Value.int 0 0), (@PySem.Value.ref 101), (@PySem.Value.int 37 0), (@PySem.Value.int 0 0), (@PySem.Value.ref 108), (@PySem.Value.int 42 0), (@PySem.Value.int 0 0), (@PySem.Value.ref 115), (@PySem.Value.int 57 0), (@PySem.Value.int 0 0), (@PySem.Value.ref 122), (@PySem.Value.int 59 0), (@PySem.Value.int 0 0), (@PySem.Value.ref 127), (@PySem.Value.int 61 0), (@PySem.Value.int 0 0), (@PySem.Value.ref 134), (@PySem.Value.int 63 0), (@PySem.Value.int 0 0), (@PySem.Value.ref 141), (@PySem.Value.int 65 0), (@PySem.Value.int 0 0), (@PySem.Value.ref 148), (@PySem.Value.int 67 0), (@PySem.Value.int 0 0), (@PySem.Value.ref 155), (@PySem.Value.int 69 0), (@PySem.Value.int 0 0), (@PySem.Value.ref 162)])) (@List.toArray (@Option PySem.Value) []))
noncomputable def o131 (P : Params) : Obj := (@PySem.Obj.mk (@PySem.Value.type "tuple") (@Option.none Nat) (@PySem.Data.seq (@List.toArray PySem.Value []) 0) (@List.toArray (@Option PySem.Value) []))
noncomputable def o132 (P : Params) : Obj := (@PySem.Obj.mk PySem.Value.none (@Option.none Nat) (@PySem.Data.fields (@List.toArray PySem.Value [])) (@List.toArray (@Option PySem.Value) []))
noncomputable def o133 (P : Params) : Obj := (@PySem.Obj.mk (@PySem.Value.type "tuple") (@Option.none Nat) (@PySem.Data.seq (@List.toArray PySem.Value [(@PySem.Value.str (@PySem.Str.ofString "number") 301), (@PySem.Value.str (@PySem.Str.ofString "found") 302)]) 0) (@List.toArray (@Option PySem.Value) []))
noncomputable def o134 (P : Params) : Obj := (@PySem.Obj.mk (@PySem.Value.type "tuple") (@Option.none Nat) (@PySem.Data.seq (@List.toArray PySem.Value []) 0) (@List.toArray (@Option PySem.Value) []))
noncomputable def o135 (P : Params) : Obj := (@PySem.Obj.mk PySem.Value.none (@Option.none Nat) (@PySem.Data.func (fdOf (stAt 16) (@PySem.Str.ofString "four_octets") 0 [] PySem.Value.none PySem.Value.none PySem.Value.none PySem.Value.none (@Option.none Nat) PySem.Value.none PySem.Value.none 0)) (@List.toArray (@Option PySem.Value) []))
noncomputable def o136 (P : Params) : Obj := (@PySem.Obj.mk (@PySem.Value.type "code") (@Option.none Nat) (@PySem.Data.fields (@List.toArray PySem.Value [(@PySem.Value.str (@PySem.Str.ofString "four_octets") 298), (@PySem.Value.str (@PySem.Str.ofString "four_octets") 299), (@PySem.Value.str (@PySem.Str.ofString "/claim/cut.py") 300), (@PySem.Value.int 31 0), (@PySem.Value.int 1 0), (@PySem.Value.int 0 0), (@PySem.Value.int 0 0), (@PySem.Value.int 3 0), (@PySem.Value.ref 89), (@PySem.Value.bool Bool.true), (@PySem.Value.int 181 0), (@PySem.Value.ref 90), PySem.Value.none, (@PySem.Value.ref 91), (@PySem.Value.ref 92), (@PySem.Value.ref 93), (@PySem.Value.int 303 0), (@PySem.Value.int 31 0), (@PySem.Value.str (@PySem.Str.ofString "/claim/cut.py") 304)])) (@List.toArray (@Option PySem.Value) []))
noncomputable def o137 (P : Params) : Obj := (@PySem.Obj.mk (@PySem.Value.type "function") (@Option.none Nat) (@PySem.Data.func (fdOf (stAt 16) (@PySem.Str.ofString "four_octets") 3 [] PySem.Value.none PySem.Value.none PySem.Value.none (@PySem.Value.str (@PySem.Str.ofString "pagebase.node_view") 256) (@Option.none Nat) (@PySem.Value.ref 94) PySem.Value.none 0)) (@List.toArray (@Option PySem.Value) []))
noncomputable def o138 (P : Params) : Obj := (@PySem.Obj.mk (@PySem.Value.type "tuple") (@Option.none Nat) (@PySem.Data.seq (@List.toArray PySem.Value []) 0) (@List.toArray (@Option PySem.Value) []))
noncomputable def o139 (P : Params) : Obj := (@PySem.Obj.mk PySem.Value.none (@Option.none Nat) (@PySem.Data.fields (@List.toArray PySem.Value [])) (@List.toArray (@Option PySem.Value) []))
noncomputable def o140 (P : Params) : Obj := (@PySem.Obj.mk (@PySem.Value.type "tuple") (@Option.none Nat) (@PySem.Data.seq (@List.toArray PySem.Value [(@PySem.Value.str (@PySem.Str.ofString "kind") 309)]) 0) (@List.toArray (@Option PySem.Value) []))
noncomputable def o141 (P : Params) : Obj := (@PySem.Obj.mk (@PySem.Value.type "tuple") (@Option.none Nat) (@PySem.Data.seq (@List.toArray PySem.Value []) 0) (@List.toArray (@Option PySem.Value) []))
noncomputable def o142 (P : Params) : Obj := (@PySem.Obj.mk PySem.Value.none (@Option.none Nat) (@PySem.Data.func (fdOf (stAt 17) (@PySem.Str.ofString "is_leaf") 0 [] PySem.Value.none PySem.Value.none PySem.Value.none PySem.Value.none (@Option.none Nat) PySem.Value.none PySem.Value.none 0)) (@List.toArray (@Option PySem.Value) []))
noncomputable def o143 (P : Params) : Obj := (@PySem.Obj.mk (@PySem.Value.type "code") (@Option.none Nat) (@PySem.Data.fields (@List.toArray PySem.Value [(@PySem.Value.str (@PySem.Str.ofString "is_leaf") 306), (@PySem.Value.str (@PySem.Str.ofString "is_leaf") 307), (@PySem.Value.str (@PySem.Str.ofString "/claim/cut.py") 308), (@PySem.Value.int 35 0), (@PySem.Value.int 1 0), (@PySem.Value.int 0 0), (@PySem.Value.int 0 0), (@PySem.Value.int 3 0), (@PySem.Value.ref 96), (@PySem.Value.bool Bool.true), (@PySem.Value.int 181 0), (@PySem.Value.ref 97), PySem.Value.none, (@PySem.Value.ref 98), (@PySem.Value.ref 99), (@PySem.Value.ref 100), (@PySem.Value.int 310 0), (@PySem.Value.int 35 0), (@PySem.Value.str (@PySem.Str.ofString "/claim/cut.py") 311)])) (@List.toArray (@Option PySem.Value) []))
noncomputable def o144 (P : Params) : Obj := (@PySem.Obj.mk (@PySem.Value.type "function") (@Option.none Nat) (@PySem.Data.func (fdOf (stAt 17) (@PySem.Str.ofString "is_leaf") 3 [] PySem.Value.none PySem.Value.none PySem.Value.none (@PySem.Value.str (@PySem.Str.ofString "pagebase.node_view") 256) (@Option.none Nat) (@PySem.Value.ref 101) PySem.Value.none 0)) (@List.toArray (@Option PySem.Value) []))
noncomputable def o145 (P : Params) : Obj := (@PySem.Obj.mk (@PySem.Value.type "tuple") (@Option.none Nat) (@PySem.Data.seq (@List.toArray PySem.Value []) 0) (@List.toArray (@Option PySem.Value) []))
noncomputable def o146 (P : Params) : Obj := (@PySem.Obj.mk PySem.Value.none (@Option.none Nat) (@PySem.Data.fields (@List.toArray PySem.Value [])) (@List.toArray (@Option PySem.Value) []))
noncomputable def o147 (P : Params) : Obj := (@PySem.Obj.mk (@PySem.Value.type "tuple") (@Option.none Nat) (@PySem.Data.seq (@List.toArray PySem.Value [(@PySem.Value.str (@PySem.Str.ofString "kind") 316)]) 0) (@List.toArray (@Option PySem.Value) []))
noncomputable def o148 (P : Params) : Obj := (@PySem.Obj.mk (@PySem.Value.type "tuple") (@Option.none Nat) (@PySem.Data.seq (@List.toArray PySem.Value []) 0) (@List.toArray (@Option PySem.Value) []))
noncomputable def o149 (P : Params) : Obj := (@PySem.Obj.mk PySem.Value.none (@Option.none Nat) (@PySem.Data.func (fdOf (stAt 18) (@PySem.Str.ofString "head_size") 0 [] PySem.Value.none PySem.Value.none PySem.Value.none PySem.Value.none (@Option.none Nat) PySem.Value.none PySem.Value.none 0)) (@List.toArray (@Option PySem.Value) []))
noncomputable def o150 (P : Params) : Obj := (@PySem.Obj.mk (@PySem.Value.type "code") (@Option.none Nat) (@PySem.Data.fields (@List.toArray PySem.Value [(@PySem.Value.str (@PySem.Str.ofString "head_size") 313), (@PySem.Value.str (@PySem.Str.ofString "head_size") 314), (@PySem.Value.str (@PySem.Str.ofString "/claim/cut.py") 315), (@PySem.Value.int 37 0), (@PySem.Value.int 1 0), (@PySem.Value.int 0 0), (@PySem.Value.int 0 0), (@PySem.Value.int 3 0), (@PySem.Value.ref 103), (@PySem.Value.bool Bool.true), (@PySem.Value.int 181 0), (@PySem.Value.ref 104), PySem.Value.none, (@PySem.Value.ref 105), (@PySem.Value.ref 106), (@PySem.Value.ref 107), (@PySem.Value.int 317 0), (@PySem.Value.int 37 0), (@PySem.Value.str (@PySem.Str.ofString "/claim/cut.py") 318)])) (@List.toArray (@Option PySem.Value) []))
noncomputable def o151 (P : Params) : Obj := (@PySem.Obj.mk (@PySem.Value.type "function") (@Option.none Nat) (@PySem.Data.func (fdOf (stAt 18) (@PySem.Str.ofString "head_size") 3 [] PySem.Value.none PySem.Value.none PySem.Value.none (@PySem.Value.str (@PySem.Str.ofString "pagebase.node_view") 256) (@Option.none Nat) (@PySem.Value.ref 108) PySem.Value.none 0)) (@List.toArray (@Option PySem.Value) []))
noncomputable def o152 (P : Params) : Obj := (@PySem.Obj.mk (@PySem.Value.type "tuple") (@Option.none Nat) (@PySem.Data.seq (@List.toArray PySem.Value []) 0) (@List.toArray (@Option PySem.Value) []))
noncomputable def o153 (P : Params) : Obj := (@PySem.Obj.mk PySem.Value.none (@Option.none Nat) (@PySem.Data.fields (@List.toArray PySem.Value [])) (@List.toArray (@Option PySem.Value) []))
noncomputable def o154 (P : Params) : Obj := (@PySem.Obj.mk (@PySem.Value.type "tuple") (@Option.none Nat) (@PySem.Data.seq (@List.toArray PySem.Value [(@PySem.Value.str (@PySem.Str.ofString "octets") 325), (@PySem.Value.str (@PySem.Str.ofString "at") 326), (@PySem.Value.str (@PySem.Str.ofString "number") 327), (@PySem.Value.str (@PySem.Str.ofString "turn") 328), (@PySem.Value.str (@PySem.Str.ofString "octet") 329)]) 0) (@List.toArray (@Option PySem.Value) []))
noncomputable def o155 (P : Params) : Obj := (@PySem.Obj.mk (@PySem.Value.type "tuple") (@Option.none Nat) (@PySem.Data.seq (@List.toArray PySem.Value []) 0) (@List.toArray (@Option PySem.Value) []))
noncomputable def o156 (P : Params) : Obj := (@PySem.Obj.mk PySem.Value.none (@Option.none Nat) (@PySem.Data.func (fdOf (stAt 20) (@PySem.Str.ofString "get_varint") 0 [] PySem.Value.none PySem.Value.none PySem.Value.none PySem.Value.none (@Option.none Nat) PySem.Value.none PySem.Value.none 0)) (@List.toArray (@Option PySem.Value) []))
noncomputable def o157 (P : Params) : Obj := (@PySem.Obj.mk (@PySem.Value.type "code") (@Option.none Nat) (@PySem.Data.fields (@List.toArray PySem.Value [(@PySem.Value.str (@PySem.Str.ofString "get_varint") 322), (@PySem.Value.str (@PySem.Str.ofString "get_varint") 323), (@PySem.Value.str (@PySem.Str.ofString "/claim/cut.py") 324), (@PySem.Value.int 42 0), (@PySem.Value.int 2 0), (@PySem.Value.int 0 0), (@PySem.Value.int 0 0), (@PySem.Value.int 3 0), (@PySem.Value.ref 110), (@PySem.Value.bool Bool.true), (@PySem.Value.int 181 0), (@PySem.Value.ref 111), PySem.Value.none, (@PySem.Value.ref 112), (@PySem.Value.ref 113), (@PySem.Value.ref 114), (@PySem.Value.int 330 0), (@PySem.Value.int 42 0), (@PySem.Value.str (@PySem.Str.ofString "/claim/cut.py") 331)])) (@List.toArray (@Option PySem.Value) []))
noncomputable def o158 (P : Params) : Obj := (@PySem.Obj.mk (@PySem.Value.type "function") (@Option.none Nat) (@PySem.Data.func (fdOf (stAt 20) (@PySem.Str.ofString "get_varint") 3 [] PySem.Value.none PySem.Value.none PySem.Value.none (@PySem.Value.str (@PySem.Str.ofString "pagebase.records") 320) (@Option.none Nat) (@PySem.Value.ref 115) PySem.Value.none 0)) (@List.toArray (@Option PySem.Value) []))
noncomputable def o159 (P : Params) : Obj := (@PySem.Obj.mk (@PySem.Value.type "tuple") (@Option.none Nat) (@PySem.Data.seq (@List.toArray PySem.Value []) 0) (@List.toArray (@Option PySem.Value) []))
noncomputable def o160 (P : Params) : Obj := (@PySem.Obj.mk PySem.Value.none (@Option.none Nat) (@PySem.Data.fields (@List.toArray PySem.Value [])) (@List.toArray (@Option PySem.Value) []))
noncomputable def o161 (P : Params) : Obj := (@PySem.Obj.mk (@PySem.Value.type "tuple") (@Option.none Nat) (@PySem.Data.seq (@List.toArray PySem.Value [(@PySem.Value.str (@PySem.Str.ofString "raw") 340)]) 0) (@List.toArray (@Option PySem.Value) []))
noncomputable def o162 (P : Params) : Obj := (@PySem.Obj.mk (@PySem.Value.type "tuple") (@Option.none Nat) (@PySem.Data.seq (@List.toArray PySem.Value []) 0) (@List.toArray (@Option PySem.Value) []))
noncomputable def o163 (P : Params) : Obj := (@PySem.Obj.mk PySem.Value.none (@Option.none Nat) (@PySem.Data.func (fdOf (stAt 23) (@PySem.Str.ofString "cost") 0 [] PySem.Value.none PySem.Value.none PySem.Value.none PySem.Value.none (@Option.none Nat) PySem.Value.none PySem.Value.none 0)) (@List.toArray (@Option PySem.Value) []))
noncomputable def o164 (P : Params) : Obj := (@PySem.Obj.mk (@PySem.Value.type "code") (@Option.none Nat) (@PySem.Data.fields (@List.toArray PySem.Value [(@PySem.Value.str (@PySem.Str.ofString "cost") 337), (@PySem.Value.str (@PySem.Str.ofString "cost") 338), (@PySem.Value.str (@PySem.Str.ofString "/claim/cut.py") 339), (@PySem.Value.int 57 0), (@PySem.Value.int 1 0), (@PySem.Value.int 0 0), (@PySem.Value.int 0 0), (@PySem.Value.int 3 0), (@PySem.Value.ref 117), (@PySem.Value.bool Bool.true), (@PySem.Value.int 181 0), (@PySem.Value.ref 118), PySem.Value.none, (@PySem.Value.ref 119), (@PySem.Value.ref 120), (@PySem.Value.ref 121), (@PySem.Value.int 341 0), (@PySem.Value.int 57 0), (@PySem.Value.str (@PySem.Str.ofString "/claim/cut.py") 342)])) (@List.toArray (@Option PySem.Value) []))
noncomputable def o165 (P : Params) : Obj := (@PySem.Obj.mk (@PySem.Value.type "function") (@Option.none Nat) (@PySem.Data.func (fdOf (stAt 23) (@PySem.Str.ofString "cost") 3 [] PySem.Value.none PySem.Value.none PySem.Value.none (@PySem.Value.str (@PySem.Str.ofString "pagebase.layout") 333) (@Option.none Nat) (@PySem.Value.ref 122) PySem.Value.none 0)) (@List.toArray (@Option PySem.Value) []))
noncomputable def o166 (P : Params) : Obj := (@PySem.Obj.mk (@PySem.Value.type "tuple") (@Option.none Nat) (@PySem.Data.seq (@List.toArray PySem.Value []) 0) (@List.toArray (@Option PySem.Value) []))
noncomputable def o167 (P : Params) : Obj := (@PySem.Obj.mk PySem.Value.none (@Option.none Nat) (@PySem.Data.fields (@List.toArray PySem.Value [])) (@List.toArray (@Option PySem.Value) []))
noncomputable def o168 (P : Params) : Obj := (@PySem.Obj.mk PySem.Value.none (@Option.none Nat) (@PySem.Data.func (fdOf (stAt 24) (@PySem.Str.ofString "total") 0 [] PySem.Value.none PySem.Value.none PySem.Value.none PySem.Value.none (@Option.none Nat) PySem.Value.none PySem.Value.none 0)) (@List.toArray (@Option PySem.Value) []))
noncomputable def o169 (P : Params) : Obj := (@PySem.Obj.mk (@PySem.Value.type "code") (@Option.none Nat) (@PySem.Data.fields (@List.toArray PySem.Value [(@PySem.Value.str (@PySem.Str.ofString "total") 344), (@PySem.Value.str (@PySem.Str.ofString "total") 345), (@PySem.Value.str (@PySem.Str.ofString "/claim/cut.py") 346), (@PySem.Value.int 59 0), (@PySem.Value.int 1 0), (@PySem.Value.int 0 0), (@PySem.Value.int 0 0), (@PySem.Value.int 3 0), (@PySem.Value.ref 124), (@PySem.Value.bool Bool.true), (@PySem.Value.int 181 0), (@PySem.Value.ref 125), PySem.Value.none, PySem.Value.none, PySem.Value.none, (@PySem.Value.ref 126), (@PySem.Value.int 347 0), (@PySem.Value.int 59 0), (@PySem.Value.str (@PySem.Str.ofString "/claim/cut.py") 348)])) (@List.toArray (@Option PySem.Value) []))
noncomputable def o170 (P : Params) : Obj := (@PySem.Obj.mk (@PySem.Value.type "function") (@Option.none Nat) (@PySem.Data.func (fdOf (stAt 24) (@PySem.Str.ofString "total") 3 [] PySem.Value.none PySem.Value.none PySem.Value.none (@PySem.Value.str (@PySem.Str.ofString "pagebase.layout") 333) (@Option.none Nat) (@PySem.Value.ref 127) PySem.Value.none 0)) (@List.toArray (@Option PySem.Value) []))
noncomputable def o171 (P : Params) : Obj := (@PySem.Obj.mk (@PySem.Value.type "tuple") (@Option.none Nat) (@PySem.Data.seq (@List.toArray PySem.Value []) 0) (@List.toArray (@Option PySem.Value) []))
noncomputable def o172 (P : Params) : Obj := (@PySem.Obj.mk PySem.Value.none (@Option.none Nat) (@PySem.Data.fields (@List.toArray PySem.Value [])) (@List.toArray (@Option PySem.Value) []))
noncomputable def o173 (P : Params) : Obj := (@PySem.Obj.mk (@PySem.Value.type "tuple") (@Option.none Nat) (@PySem.Data.seq (@List.toArray PySem.Value [(@PySem.Value.str (@PySem.Str.ofString "page") 353)]) 0) (@List.toArray (@Option PySem.Value) []))
noncomputable def o174 (P : Params) : Obj := (@PySem.Obj.mk (@PySem.Value.type "tuple") (@Option.none Nat) (@PySem.Data.seq (@List.toArray PySem.Value []) 0) (@List.toArray (@Option PySem.Value) []))
noncomputable def o175 (P : Params) : Obj := (@PySem.Obj.mk PySem.Value.none (@Option.none Nat) (@PySem.Data.func (fdOf (stAt 25) (@PySem.Str.ofString "base_of") 0 [] PySem.Value.none PySem.Value.none PySem.Value.none PySem.Value.none (@Option.none Nat) PySem.Value.none PySem.Value.none 0)) (@List.toArray (@Option PySem.Value) []))
noncomputable def o176 (P : Params) : Obj := (@PySem.Obj.mk (@PySem.Value.type "code") (@Option.none Nat) (@PySem.Data.fields (@List.toArray PySem.Value [(@PySem.Value.str (@PySem.Str.ofString "base_of") 350), (@PySem.Value.str (@PySem.Str.ofString "base_of") 351), (@PySem.Value.str (@PySem.Str.ofString "/claim/cut.py") 352), (@PySem.Value.int 61 0), (@PySem.Value.int 1 0), (@PySem.Value.int 0 0), (@PySem.Value.int 0 0), (@PySem.Value.int 3 0), (@PySem.Value.ref 129), (@PySem.Value.bool Bool.true), (@PySem.Value.int 181 0), (@PySem.Value.ref 130), PySem.Value.none, (@PySem.Value.ref 131), (@PySem.Value.ref 132), (@PySem.Value.ref 133), (@PySem.Value.int 354 0), (@PySem.Value.int 61 0), (@PySem.Value.str (@PySem.Str.ofString "/claim/cut.py") 355)])) (@List.toArray (@Option PySem.Value) []))
noncomputable def o177 (P : Params) : Obj := (@PySem.Obj.mk (@PySem.Value.type "function") (@Option.none Nat) (@PySem.Data.func (fdOf (stAt 25) (@PySem.Str.ofString "base_of") 3 [] PySem.Value.none PySem.Value.none PySem.Value.none (@PySem.Value.str (@PySem.Str.ofString "pagebase.layout") 333) (@Option.none Nat) (@PySem.Value.ref 134) PySem.Value.none 0)) (@List.toArray (@Option PySem.Value) []))
noncomputable def o178 (P : Params) : Obj := (@PySem.Obj.mk (@PySem.Value.type "tuple") (@Option.none Nat) (@PySem.Data.seq (@List.toArray PySem.Value []) 0) (@List.toArray (@Option PySem.Value) []))
noncomputable def o179 (P : Params) : Obj := (@PySem.Obj.mk PySem.Value.none (@Option.none Nat) (@PySem.Data.fields (@List.toArray PySem.Value [])) (@List.toArray (@Option PySem.Value) []))
noncomputable def o180 (P : Params) : Obj := (@PySem.Obj.mk (@PySem.Value.type "tuple") (@Option.none Nat) (@PySem.Data.seq (@List.toArray PySem.Value [(@PySem.Value.str (@PySem.Str.ofString "page") 360), (@PySem.Value.str (@PySem.Str.ofString "kind") 361), (@PySem.Value.str (@PySem.Str.ofString "usable") 362)]) 0) (@List.toArray (@Option PySem.Value) []))
noncomputable def o181 (P : Params) : Obj := (@PySem.Obj.mk (@PySem.Value.type "tuple") (@Option.none Nat) (@PySem.Data.seq (@List.toArray PySem.Value []) 0) (@List.toArray (@Option PySem.Value) []))
noncomputable def o182 (P : Params) : Obj := (@PySem.Obj.mk PySem.Value.none (@Option.none Nat) (@PySem.Data.func (fdOf (stAt 26) (@PySem.Str.ofString "capacity") 0 [] PySem.Value.none PySem.Value.none PySem.Value.none PySem.Value.none (@Option.none Nat) PySem.Value.none PySem.Value.none 0)) (@List.toArray (@Option PySem.Value) []))
noncomputable def o183 (P : Params) : Obj := (@PySem.Obj.mk (@PySem.Value.type "code") (@Option.none Nat) (@PySem.Data.fields (@List.toArray PySem.Value [(@PySem.Value.str (@PySem.Str.ofString "capacity") 357), (@PySem.Value.str (@PySem.Str.ofString "capacity") 358), (@PySem.Value.str (@PySem.Str.ofString "/claim/cut.py") 359), (@PySem.Value.int 63 0), (@PySem.Value.int 3 0), (@PySem.Value.int 0 0), (@PySem.Value.int 0 0), (@PySem.Value.int 3 0), (@PySem.Value.ref 136), (@PySem.Value.bool Bool.true), (@PySem.Value.int 181 0), (@PySem.Value.ref 137), PySem.Value.none, (@PySem.Value.ref 138), (@PySem.Value.ref 139), (@PySem.Value.ref 140), (@PySem.Value.int 363 0), (@PySem.Value.int 63 0), (@PySem.Value.str (@PySem.Str.ofString "/claim/cut.py") 364)])) (@List.toArray (@Option PySem.Value) []))
noncomputable def o184 (P : Params) : Obj := (@PySem.Obj.mk (@PySem.Value.type "function") (@Option.none Nat) (@PySem.Data.func (fdOf (stAt 26) (@PySem.Str.ofString "capacity") 3 [] PySem.Value.none PySem.Value.none PySem.Value.none (@PySem.Value.str (@PySem.Str.ofString "pagebase.layout") 333) (@Option.none Nat) (@PySem.Value.ref 141) PySem.Value.none 0)) (@List.toArray (@Option PySem.Value) []))
noncomputable def o185 (P : Params) : Obj := (@PySem.Obj.mk (@PySem.Value.type "tuple") (@Option.none Nat) (@PySem.Data.seq (@List.toArray PySem.Value []) 0) (@List.toArray (@Option PySem.Value) []))
noncomputable def o186 (P : Params) : Obj := (@PySem.Obj.mk PySem.Value.none (@Option.none Nat) (@PySem.Data.fields (@List.toArray PySem.Value [])) (@List.toArray (@Option PySem.Value) []))
noncomputable def o187 (P : Params) : Obj := (@PySem.Obj.mk (@PySem.Value.type "tuple") (@Option.none Nat) (@PySem.Data.seq (@List.toArray PySem.Value [(@PySem.Value.str (@PySem.Str.ofString "raw") 369)]) 0) (@List.toArray (@Option PySem.Value) []))
noncomputable def o188 (P : Params) : Obj := (@PySem.Obj.mk (@PySem.Value.type "tuple") (@Option.none Nat) (@PySem.Data.seq (@List.toArray PySem.Value []) 0) (@List.toArray (@Option PySem.Value) []))
noncomputable def o189 (P : Params) : Obj := (@PySem.Obj.mk PySem.Value.none (@Option.none Nat) (@PySem.Data.func (fdOf (stAt 27) (@PySem.Str.ofString "child_of") 0 [] PySem.Value.none PySem.Value.none PySem.Value.none PySem.Value.none (@Option.none Nat) PySem.Value.none PySem.Value.none 0)) (@List.toArray (@Option PySem.Value) []))
noncomputable def o190 (P : Params) : Obj := (@PySem.Obj.mk (@PySem.Value.type "code") (@Option.none Nat) (@PySem.Data.fields (@List.toArray PySem.Value [(@PySem.Value.str (@PySem.Str.ofString "child_of") 366), (@PySem.Value.str (@PySem.Str.ofString "child_of") 367), (@PySem.Value.str (@PySem.Str.ofString "/claim/cut.py") 368), (@PySem.Value.int 65 0), (@PySem.Value.int 1 0), (@PySem.Value.int 0 0), (@PySem.Value.int 0 0), (@PySem.Value.int 3 0), (@PySem.Value.ref 143), (@PySem.Value.bool Bool.true), (@PySem.Value.int 181 0), (@PySem.Value.ref 144), PySem.Value.none, (@PySem.Value.ref 145), (@PySem.Value.ref 146), (@PySem.Value.ref 147), (@PySem.Value.int 370 0), (@PySem.Value.int 65 0), (@PySem.Value.str (@PySem.Str.ofString "/claim/cut.py") 371)])) (@List.toArray (@Option PySem.Value) []))
noncomputable def o191 (P : Params) : Obj := (@PySem.Obj.mk (@PySem.Value.type "function") (@Option.none Nat) (@PySem.Data.func (fdOf (stAt 27) (@PySem.Str.ofString "child_of") 3 [] PySem.Value.none PySem.Value.none PySem.Value.none (@PySem.Value.str (@PySem.Str.ofString "pagebase.layout") 333) (@Option.none Nat) (@PySem.Value.ref 148) PySem.Value.none 0)) (@List.toArray (@Option PySem.Value) []))
noncomputable def o192 (P : Params) : Obj := (@PySem.Obj.mk (@PySem.Value.type "tuple") (@Option.none Nat) (@PySem.Data.seq (@List.toArray PySem.Value []) 0) (@List.toArray (@Option PySem.Value) []))
noncomputable def o193 (P : Params) : Obj := (@PySem.Obj.mk PySem.Value.none (@Option.none Nat) (@PySem.Data.fields (@List.toArray PySem.Value [])) (@List.toArray (@Option PySem.Value) []))
noncomputable def o194 (P : Params) : Obj := (@PySem.Obj.mk (@PySem.Value.type "tuple") (@Option.none Nat) (@PySem.Data.seq (@List.toArray PySem.Value [(@PySem.Value.str (@PySem.Str.ofString "raw") 376), (@PySem.Value.str (@PySem.Str.ofString "page") 377)]) 0) (@List.toArray (@Option PySem.Value) []))
noncomputable def o195 (P : Params) : Obj := (@PySem.Obj.mk (@PySem.Value.type "tuple") (@Option.none Nat) (@PySem.Data.seq (@List.toArray PySem.Value []) 0) (@List.toArray (@Option PySem.Value) []))
noncomputable def o196 (P : Params) : Obj := (@PySem.Obj.mk PySem.Value.none (@Option.none Nat) (@PySem.Data.func (fdOf (stAt 28) (@PySem.Str.ofString "with_child") 0 [] PySem.Value.none PySem.Value.none PySem.Value.none PySem.Value.none (@Option.none Nat) PySem.Value.none PySem.Value.none 0)) (@List.toArray (@Option PySem.Value) []))
noncomputable def o197 (P : Params) : Obj := (@PySem.Obj.mk (@PySem.Value.type "code") (@Option.none Nat) (@PySem.Data.fields (@List.toArray PySem.Value [(@PySem.Value.str (@PySem.Str.ofString "with_child") 373), (@PySem.Value.str (@PySem.Str.ofString "with_child") 374), (@PySem.Value.str (@PySem.Str.ofString "/claim/cut.py") 375), (@PySem.Value.int 67 0), (@PySem.Value.int 2 0), (@PySem.Value.int 0 0), (@PySem.Value.int 0 0), (@PySem.Value.int 3 0), (@PySem.Value.ref 150), (@PySem.Value.bool Bool.true), (@PySem.Value.int 181 0), (@PySem.Value.ref 151), PySem.Value.none, (@PySem.Value.ref 152), (@PySem.Value.ref 153), (@PySem.Value.ref 154), (@PySem.Value.int 378 0), (@PySem.Value.int 67 0), (@PySem.Value.str (@PySem.Str.ofString "/claim/cut.py") 379)])) (@List.toArray (@Option PySem.Value) []))
noncomputable def o198 (P : Params) : Obj := (@PySem.Obj.mk (@PySem.Value.type "function") (@Option.none Nat) (@PySem.Data.func (fdOf (stAt 28) (@PySem.Str.ofString "with_child") 3 [] PySem.Value.none PySem.Value.none PySem.Value.none (@PySem.Value.str (@PySem.Str.ofString "pagebase.layout") 333) (@Option.none Nat) (@PySem.Value.ref 155) PySem.Value.none 0)) (@List.toArray (@Option PySem.Value) []))
noncomputable def o199 (P : Params) : Obj := (@PySem.Obj.mk (@PySem.Value.type "tuple") (@Option.none Nat) (@PySem.Data.seq (@List.toArray PySem.Value []) 0) (@List.toArray (@Option PySem.Value) []))
noncomputable def o200 (P : Params) : Obj := (@PySem.Obj.mk PySem.Value.none (@Option.none Nat) (@PySem.Data.fields (@List.toArray PySem.Value [])) (@List.toArray (@Option PySem.Value) []))
noncomputable def o201 (P : Params) : Obj := (@PySem.Obj.mk (@PySem.Value.type "tuple") (@Option.none Nat) (@PySem.Data.seq (@List.toArray PySem.Value [(@PySem.Value.str (@PySem.Str.ofString "raw") 384), (@PySem.Value.str (@PySem.Str.ofString "size") 385), (@PySem.Value.str (@PySem.Str.ofString "at") 386), (@PySem.Value.str (@PySem.Str.ofString "rowid") 387)]) 0) (@List.toArray (@Option PySem.Value) []))
noncomputable def o202 (P : Params) : Obj := (@PySem.Obj.mk (@PySem.Value.type "tuple") (@Option.none Nat) (@PySem.Data.seq (@List.toArray PySem.Value []) 0) (@List.toArray (@Option PySem.Value) []))
noncomputable def o203 (P : Params) : Obj := (@PySem.Obj.mk PySem.Value.none (@Option.none Nat) (@PySem.Data.func (fdOf (stAt 29) (@PySem.Str.ofString "leaf_rowid") 0 [] PySem.Value.none PySem.Value.none PySem.Value.none PySem.Value.none (@Option.none Nat) PySem.Value.none PySem.Value.none 0)) (@List.toArray (@Option PySem.Value) []))
noncomputable def o204 (P : Params) : Obj := (@PySem.Obj.mk (@PySem.Value.type "code") (@Option.none Nat) (@PySem.Data.fields (@List.toArray PySem.Value [(@PySem.Value.str (@PySem.Str.ofString "leaf_rowid") 381), (@PySem.Value.str (@PySem.Str.ofString "leaf_rowid") 382), (@PySem.Value.str (@PySem.Str.ofString "/claim/cut.py") 383), (@PySem.Value.int 69 0), (@PySem.Value.int 1 0), (@PySem.Value.int 0 0), (@PySem.Value.int 0 0), (@PySem.Value.int 3 0), (@PySem.Value.ref 157), (@PySem.Value.bool Bool.true), (@PySem.Value.int 181 0), (@PySem.Value.ref 158), PySem.Value.none, (@PySem.Value.ref 159), (@PySem.Value.ref 160), (@PySem.Value.ref 161), (@PySem.Value.int 388 0), (@PySem.Value.int 69 0), (@PySem.Value.str (@PySem.Str.ofString "/claim/cut.py") 389)])) (@List.toArray (@Option PySem.Value) []))
noncomputable def o205 (P : Params) : Obj := (@PySem.Obj.mk (@PySem.Value.type "function") (@Option.none Nat) (@PySem.Data.func (fdOf (stAt 29) (@PySem.Str.ofString "leaf_rowid") 3 [] PySem.Value.none PySem.Value.none PySem.Value.none (@PySem.Value.str (@PySem.Str.ofString "pagebase.layout") 333) (@Option.none Nat) (@PySem.Value.ref 162) PySem.Value.none 0)) (@List.toArray (@Option PySem.Value) []))
noncomputable def tree205 (P : Params) : BT := (@PySem.W.BT.node (@PySem.W.boot_o_0 P) (@PySem.W.BT.node (@PySem.W.boot_o_1 P) (@PySem.W.BT.node (@o129 P) (@PySem.W.BT.node (@PySem.W.boot_o_7 P) (@PySem.W.BT.node (@o52 P) (@PySem.W.BT.node (@o68 P) (@PySem.W.BT.node (@o103 P) (@PySem.W.BT.node (@o169 P) PySem.W.BT.nil PySem.W.BT.nil) PySem.W.BT.nil) (@PySem.W.BT.node (@o137 P) (@PySem.W.BT.node (@o201 P) PySem.W.BT.nil PySem.W.BT.nil) PySem.W.BT.nil)) (@PySem.W.BT.node (@o84 P) (@PySem.W.BT.node (@o119 P) (@PySem.W.BT.node (@o185 P) PySem.W.BT.nil PySem.W.BT.nil) PySem.W.BT.nil) (@PySem.W.BT.node (@o153 P) PySem.W.BT.nil PySem.W.BT.nil))) (@PySem.W.BT.node (@o60 P) (@PySem.W.BT.node (@o76 P) (@PySem.W.BT.node (@o111 P) (@PySem.W.BT.node (@o177 P) PySem.W.BT.nil PySem.W.BT.nil) PySem.W.BT.nil) (@PySem.W.BT.node (@o145 P) PySem.W.BT.nil PySem.W.BT.nil)) (@PySem.W.BT.node (@o95 P) (@PySem.W.BT.node (@o127 P) (@PySem.W.BT.node (@o193 P) PySem.W.BT.nil PySem.W.BT.nil) PySem.W.BT.nil) (@PySem.W.BT.node (@o161 P) PySem.W.BT.nil PySem.W.BT.nil)))) (@PySem.W.BT.node (@o43 P) (@PySem.W.BT.node (@o56 P) (@PySem.W.BT.node (@o72 P) (@PySem.W.BT.node (@o107 P) (@PySem.W.BT.node (@o173 P) PySem.W.BT.nil PySem.W.BT.nil) PySem.W.BT.nil) (@PySem.W.BT.node (@o141 P) (@PySem.W.BT.node (@o205 P) PySem.W.BT.nil PySem.W.BT.nil) PySem.W.BT.nil)) (@PySem.W.BT.node (@o91 P) (@PySem.W.BT.node (@o123 P) (@PySem.W.BT.node (@o189 P) PySem.W.BT.nil PySem.W.BT.nil) PySem.W.BT.nil) (@PySem.W.BT.node (@o157 P) PySem.W.BT.nil PySem.W.BT.nil))) (@PySem.W.BT.node (@o64 P) (@PySem.W.BT.node (@o80 P) (@PySem.W.BT.node (@o115 P) (@PySem.W.BT.node (@o181 P) PySem.W.BT.nil PySem.W.BT.nil) PySem.W.BT.nil) (@PySem.W.BT.node (@o149 P) PySem.W.BT.nil PySem.W.BT.nil)) (@PySem.W.BT.node (@o99 P) (@PySem.W.BT.node (@o133 P) (@PySem.W.BT.node (@o197 P) PySem.W.BT.nil PySem.W.BT.nil) PySem.W.BT.nil) (@PySem.W.BT.node (@o165 P) PySem.W.BT.nil PySem.W.BT.nil))))) (@PySem.W.BT.node (@PySem.W.boot_o_5 P) (@PySem.W.BT.node (@PySem.W.boot_o_9 P) (@PySem.W.BT.node (@o54 P) (@PySem.W.BT.node (@o70 P) (@PySem.W.BT.node (@o105 P) (@PySem.W.BT.node (@o171 P) PySem.W.BT.nil PySem.W.BT.nil) PySem.W.BT.nil) (@PySem.W.BT.node (@o139 P) (@PySem.W.BT.node (@o203 P) PySem.W.BT.nil PySem.W.BT.nil) PySem.W.BT.nil)) (@PySem.W.BT.node (@o89 P) (@PySem.W.BT.node (@o121 P) (@PySem.W.BT.node (@o187 P) PySem.W.BT.nil PySem.W.BT.nil) PySem.W.BT.nil) (@PySem.W.BT.node (@o155 P) PySem.W.BT.nil PySem.W.BT.nil))) (@PySem.W.BT.node (@o62 P) (@PySem.W.BT.node (@o78 P) (@PySem.W.BT.node (@o113 P) (@PySem.W.BT.node (@o179 P) PySem.W.BT.nil PySem.W.BT.nil) PySem.W.BT.nil) (@PySem.W.BT.node (@o147 P) PySem.W.BT.nil PySem.W.BT.nil)) (@PySem.W.BT.node (@o97 P) (@PySem.W.BT.node (@o131 P) (@PySem.W.BT.node (@o195 P) PySem.W.BT.nil PySem.W.BT.nil) PySem.W.BT.nil) (@PySem.W.BT.node (@o163 P) PySem.W.BT.nil PySem.W.BT.nil)))) (@PySem.W.BT.node (@o45 P) (@PySem.W.BT.node (@o58 P) (@PySem.W.BT.node (@o74 P) (@PySem.W.BT.node (@o109 P) (@PySem.W.BT.node (@o175 P) PySem.W.BT.nil PySem.W.BT.nil) PySem.W.BT.nil) (@PySem.W.BT.node (@o143 P) PySem.W.BT.nil PySem.W.BT.nil)) (@PySem.W.BT.node (@o93 P) (@PySem.W.BT.node (@o125 P) (@PySem.W.BT.node (@o191 P) PySem.W.BT.nil PySem.W.BT.nil) PySem.W.BT.nil) (@PySem.W.BT.node (@o159 P) PySem.W.BT.nil PySem.W.BT.nil))) (@PySem.W.BT.node (@o66 P) (@PySem.W.BT.node (@o88 P) (@PySem.W.BT.node (@o117 P) (@PySem.W.BT.node (@o183 P) PySem.W.BT.nil PySem.W.BT.nil) PySem.W.BT.nil) (@PySem.W.BT.node (@o151 P) PySem.W.BT.nil PySem.W.BT.nil)) (@PySem.W.BT.node (@o101 P) (@PySem.W.BT.node (@o135 P) (@PySem.W.BT.node (@o199 P) PySem.W.BT.nil PySem.W.BT.nil) PySem.W.BT.nil) (@PySem.W.BT.node (@o167 P) PySem.W.BT.nil PySem.W.BT.nil)))))) (@PySem.W.BT.node (@o49 P) (@PySem.W.BT.node (@PySem.W.boot_o_4 P) (@PySem.W.BT.node (@PySem.W.boot_o_8 P) (@PySem.W.BT.node (@o53 P) (@PySem.W.BT.node (@o69 P) (@PySem.W.BT.node (@o104 P) (@PySem.W.BT.node (@o170 P) PySem.W.BT.nil PySem.W.BT.nil) PySem.W.BT.nil) (@PySem.W.BT.node (@o138 P) (@PySem.W.BT.node (@o202 P) PySem.W.BT.nil PySem.W.BT.nil) PySem.W.BT.nil)) (@PySem.W.BT.node (@o85 P) (@PySem.W.BT.node (@o120 P) (@PySem.W.BT.node (@o186 P) PySem.W.BT.nil PySem.W.BT.nil) PySem.W.BT.nil) (@PySem.W.BT.node (@o154 P) PySem.W.BT.nil PySem.W.BT.nil))) (@PySem.W.BT.node (@o61 P) (@PySem.W.BT.node (@o77 P) (@PySem.W.BT.node (@o112 P) (@PySem.W.BT.node (@o178 P) PySem.W.BT.nil PySem.W.BT.nil) PySem.W.BT.nil) (@PySem.W.BT.node (@o146 P) PySem.W.BT.nil PySem.W.BT.nil)) (@PySem.W.BT.node (@o96 P) (@PySem.W.BT.node (@o128 P) (@PySem.W.BT.node (@o194 P) PySem.W.BT.nil PySem.W.BT.nil) PySem.W.BT.nil) (@PySem.W.BT.node (@o162 P) PySem.W.BT.nil PySem.W.BT.nil)))) (@PySem.W.BT.node (@o130 P) (@PySem.W.BT.node (@o57 P) (@PySem.W.BT.node (@o73 P) (@PySem.W.BT.node (@o108 P) (@PySem.W.BT.node (@o174 P) PySem.W.BT.nil PySem.W.BT.nil) PySem.W.BT.nil) (@PySem.W.BT.node (@o142 P) PySem.W.BT.nil PySem.W.BT.nil)) (@PySem.W.BT.node (@o92 P) (@PySem.W.BT.node (@o124 P) (@PySem.W.BT.node (@o190 P) PySem.W.BT.nil PySem.W.BT.nil) PySem.W.BT.nil) (@PySem.W.BT.node (@o158 P) PySem.W.BT.nil PySem.W.BT.nil))) (@PySem.W.BT.node (@o65 P) (@PySem.W.BT.node (@o81 P) (@PySem.W.BT.node (@o116 P) (@PySem.W.BT.node (@o182 P) PySem.W.BT.nil PySem.W.BT.nil) PySem.W.BT.nil) (@PySem.W.BT.node (@o150 P) PySem.W.BT.nil PySem.W.BT.nil)) (@PySem.W.BT.node (@o100 P) (@PySem.W.BT.node (@o134 P) (@PySem.W.BT.node (@o198 P) PySem.W.BT.nil PySem.W.BT.nil) PySem.W.BT.nil) (@PySem.W.BT.node (@o166 P) PySem.W.BT.nil PySem.W.BT.nil))))) (@PySem.W.BT.node (@PySem.W.boot_o_6 P) (@PySem.W.BT.node (@PySem.W.boot_o_10 P) (@PySem.W.BT.node (@o55 P) (@PySem.W.BT.node (@o71 P) (@PySem.W.BT.node (@o106 P) (@PySem.W.BT.node (@o172 P) PySem.W.BT.nil PySem.W.BT.nil) PySem.W.BT.nil) (@PySem.W.BT.node (@o140 P) (@PySem.W.BT.node (@o204 P) PySem.W.BT.nil PySem.W.BT.nil) PySem.W.BT.nil)) (@PySem.W.BT.node (@o90 P) (@PySem.W.BT.node (@o122 P) (@PySem.W.BT.node (@o188 P) PySem.W.BT.nil PySem.W.BT.nil) PySem.W.BT.nil) (@PySem.W.BT.node (@o156 P) PySem.W.BT.nil PySem.W.BT.nil))) (@PySem.W.BT.node (@o63 P) (@PySem.W.BT.node (@o79 P) (@PySem.W.BT.node (@o114 P) (@PySem.W.BT.node (@o180 P) PySem.W.BT.nil PySem.W.BT.nil) PySem.W.BT.nil) (@PySem.W.BT.node (@o148 P) PySem.W.BT.nil PySem.W.BT.nil)) (@PySem.W.BT.node (@o98 P) (@PySem.W.BT.node (@o132 P) (@PySem.W.BT.node (@o196 P) PySem.W.BT.nil PySem.W.BT.nil) PySem.W.BT.nil) (@PySem.W.BT.node (@o164 P) PySem.W.BT.nil PySem.W.BT.nil)))) (@PySem.W.BT.node (@o46 P) (@PySem.W.BT.node (@o59 P) (@PySem.W.BT.node (@o75 P) (@PySem.W.BT.node (@o110 P) (@PySem.W.BT.node (@o176 P) PySem.W.BT.nil PySem.W.BT.nil) PySem.W.BT.nil) (@PySem.W.BT.node (@o144 P) PySem.W.BT.nil PySem.W.BT.nil)) (@PySem.W.BT.node (@o94 P) (@PySem.W.BT.node (@o126 P) (@PySem.W.BT.node (@o192 P) PySem.W.BT.nil PySem.W.BT.nil) PySem.W.BT.nil) (@PySem.W.BT.node (@o160 P) PySem.W.BT.nil PySem.W.BT.nil))) (@PySem.W.BT.node (@o67 P) (@PySem.W.BT.node (@o83 P) (@PySem.W.BT.node (@o118 P) (@PySem.W.BT.node (@o184 P) PySem.W.BT.nil PySem.W.BT.nil) PySem.W.BT.nil) (@PySem.W.BT.node (@o152 P) PySem.W.BT.nil PySem.W.BT.nil)) (@PySem.W.BT.node (@o102 P) (@PySem.W.BT.node (@o136 P) (@PySem.W.BT.node (@o200 P) PySem.W.BT.nil PySem.W.BT.nil) PySem.W.BT.nil) (@PySem.W.BT.node (@o168 P) PySem.W.BT.nil PySem.W.BT.nil)))))))
noncomputable def o206 (P : Params) : Obj := (@PySem.Obj.mk (@PySem.Value.type "dict") (@Option.none Nat) (@PySem.Data.dict (@List.toArray PySem.DictEntry [(@PySem.DictEntry.mk (@PySem.PyData.keyHash P (@PySem.Str.ofString "__name__")) (@PySem.Value.str (@PySem.Str.ofString "__name__") 165) (@PySem.Value.str (@PySem.Str.ofString "pagebase.store") 440)), (@PySem.DictEntry.mk (@PySem.PyData.keyHash P (@PySem.Str.ofString "__doc__")) (@PySem.Value.str (@PySem.Str.ofString "__doc__") 166) PySem.Value.none), (@PySem.DictEntry.mk (@PySem.PyData.keyHash P (@PySem.Str.ofString "__package__")) (@PySem.Value.str (@PySem.Str.ofString "__package__") 167) PySem.Value.none), (@PySem.DictEntry.mk (@PySem.PyData.keyHash P (@PySem.Str.ofString "__loader__")) (@PySem.Value.str (@PySem.Str.ofString "__loader__") 168) (loaderV P)), (@PySem.DictEntry.mk (@PySem.PyData.keyHash P (@PySem.Str.ofString "__spec__")) (@PySem.Value.str (@PySem.Str.ofString "__spec__") 169) PySem.Value.none), (@PySem.DictEntry.mk (@PySem.PyData.keyHash P (@PySem.Str.ofString "__annotations__")) (@PySem.Value.str (@PySem.Str.ofString "__annotations__") 170) (@PySem.Value.ref 6)), (@PySem.DictEntry.mk (@PySem.PyData.keyHash P (@PySem.Str.ofString "__builtins__")) (@PySem.Value.str (@PySem.Str.ofString "__builtins__") 171) (@PySem.Value.ref 4)), (@PySem.DictEntry.mk (@PySem.PyData.keyHash P (@PySem.Str.ofString "__file__")) (@PySem.Value.str (@PySem.Str.ofString "__file__") 173) (@PySem.Value.str (@PySem.Str.ofString "/claim/cut.py") 172)), (@PySem.DictEntry.mk (@PySem.PyData.keyHash P (@PySem.Str.ofString "__cached__")) (@PySem.Value.str (@PySem.Str.ofString "__cached__") 174) PySem.Value.none), (@PySem.DictEntry.mk (@PySem.PyData.keyHash P (@PySem.Str.ofString "_wall")) (@PySem.Value.str (@PySem.Str.ofString "_wall") 193) (@PySem.Value.ref 21)), (@PySem.DictEntry.mk (@PySem.PyData.keyHash P (@PySem.Str.ofString "CHAIN_HEAD")) (@PySem.Value.str (@PySem.Str.ofString "CHAIN_HEAD") 197) (@PySem.Value.int 4 196)), (@PySem.DictEntry.mk (@PySem.PyData.keyHash P (@PySem.Str.ofString "chain_length")) (@PySem.Value.str (@PySem.Str.ofString "chain_length") 206) (@PySem.Value.ref 28)), (@PySem.DictEntry.mk (@PySem.PyData.keyHash P (@PySem.Str.ofString "PagebaseError")) (@PySem.Value.str (@PySem.Str.ofString "PagebaseError") 237) (@PySem.Value.ref 45)), (@PySem.DictEntry.mk (@PySem.PyData.keyHash P (@PySem.Str.ofString "CorruptError")) (@PySem.Value.str (@PySem.Str.ofString "CorruptError") 253) (@PySem.Value.ref 58)), (@PySem.DictEntry.mk (@PySem.PyData.keyHash P (@PySem.Str.ofString "HEADER_SIZE")) (@PySem.Value.str (@PySem.Str.ofString "HEADER_SIZE") 255) (@PySem.Value.int 32 254)), (@PySem.DictEntry.mk (@PySem.PyData.keyHash P (@PySem.Str.ofString "LEAF_KEYS")) (@PySem.Value.str (@PySem.Str.ofString "LEAF_KEYS") 259) (@PySem.Value.int 10 258)), (@PySem.DictEntry.mk (@PySem.PyData.keyHash P (@PySem.Str.ofString "LEAF_ROWS")) (@PySem.Value.str (@PySem.Str.ofString "LEAF_ROWS") 261) (@PySem.Value.int 13 260)), (@PySem.DictEntry.mk (@PySem.PyData.keyHash P (@PySem.Str.ofString "LEAST_CELL")) (@PySem.Value.str (@PySem.Str.ofString "LEAST_CELL") 263) (@PySem.Value.int 4 262)), (@PySem.DictEntry.mk (@PySem.PyData.keyHash P (@PySem.Str.ofString "two_at")) (@PySem.Value.str (@PySem.Str.ofString "two_at") 271) (@PySem.Value.ref 67)), (@PySem.DictEntry.mk (@PySem.PyData.keyHash P (@PySem.Str.ofString "four_at")) (@PySem.Value.str (@PySem.Str.ofString "four_at") 279) (@PySem.Value.ref 74)), (@PySem.DictEntry.mk (@PySem.PyData.keyHash P (@PySem.Str.ofString "put_two")) (@PySem.Value.str (@PySem.Str.ofString "put_two") 288) (@PySem.Value.ref 81)), (@PySem.DictEntry.mk (@PySem.PyData.keyHash P (@PySem.Str.ofString "put_four")) (@PySem.Value.str (@PySem.Str.ofString "put_four") 297) (@PySem.Value.ref 88)), (@PySem.DictEntry.mk (@PySem.PyData.keyHash P (@PySem.Str.ofString "four_octets")) (@PySem.Value.str (@PySem.Str.ofString "four_octets") 305) (@PySem.Value.ref 95)), (@PySem.DictEntry.mk (@PySem.PyData.keyHash P (@PySem.Str.ofString "is_leaf")) (@PySem.Value.str (@PySem.Str.ofString "is_leaf") 312) (@PySem.Value.ref 102)), (@PySem.DictEntry.mk (@PySem.PyData.keyHash P (@PySem.Str.ofString "head_size")) (@PySem.Value.str (@PySem.Str.ofString "head_size") 319) (@PySem.Value.ref 109)), (@PySem.DictEntry.mk (@PySem.PyData.keyHash P (@PySem.Str.ofString "get_varint")) (@PySem.Value.str (@PySem.Str.ofString "get_varint") 332) (@PySem.Value.ref 116)), (@PySem.DictEntry.mk (@PySem.PyData.keyHash P (@PySem.Str.ofString "POINTER")) (@PySem.Value.str (@PySem.Str.ofString "POINTER") 336) (@PySem.Value.int 2 335)), (@PySem.DictEntry.mk (@PySem.PyData.keyHash P (@PySem.Str.ofString "cost")) (@PySem.Value.str (@PySem.Str.ofString "cost") 343) (@PySem.Value.ref 123)), (@PySem.DictEntry.mk (@PySem.PyData.keyHash P (@PySem.Str.ofString "total")) (@PySem.Value.str (@PySem.Str.ofString "total") 349) (@PySem.Value.ref 128)), (@PySem.DictEntry.mk (@PySem.PyData.keyHash P (@PySem.Str.ofString "base_of")) (@PySem.Value.str (@PySem.Str.ofString "base_of") 356) (@PySem.Value.ref 135)), (@PySem.DictEntry.mk (@PySem.PyData.keyHash P (@PySem.Str.ofString "capacity")) (@PySem.Value.str (@PySem.Str.ofString "capacity") 365) (@PySem.Value.ref 142)), (@PySem.DictEntry.mk (@PySem.PyData.keyHash P (@PySem.Str.ofString "child_of")) (@PySem.Value.str (@PySem.Str.ofString "child_of") 372) (@PySem.Value.ref 149)), (@PySem.DictEntry.mk (@PySem.PyData.keyHash P (@PySem.Str.ofString "with_child")) (@PySem.Value.str (@PySem.Str.ofString "with_child") 380) (@PySem.Value.ref 156)), (@PySem.DictEntry.mk (@PySem.PyData.keyHash P (@PySem.Str.ofString "leaf_rowid")) (@PySem.Value.str (@PySem.Str.ofString "leaf_rowid") 390) (@PySem.Value.ref 163)), (@PySem.DictEntry.mk (@PySem.PyData.keyHash P (@PySem.Str.ofString "Content")) (@PySem.Value.str (@PySem.Str.ofString "Content") 430) (@PySem.Value.ref 187)), (@PySem.DictEntry.mk (@PySem.PyData.keyHash P (@PySem.Str.ofString "fits")) (@PySem.Value.str (@PySem.Str.ofString "fits") 439) (@PySem.Value.ref 198))]) 36) (@List.toArray (@Option PySem.Value) []))
noncomputable def o207 (P : Params) : Obj := (@PySem.Obj.mk PySem.Value.none (@Option.none Nat) (@PySem.Data.fields (@List.toArray PySem.Value [(@PySem.Value.int 1 0), (@PySem.Value.int 0 0), (@PySem.Value.ref 20), (@PySem.Value.int 6 0), (@PySem.Value.int 0 0), (@PySem.Value.ref 27), (@PySem.Value.int 10 0), (@PySem.Value.int 0 0), (@PySem.Value.ref 34), (@PySem.Value.int 14 0), (@PySem.Value.int 0 0), (@PySem.Value.ref 54), (@PySem.Value.int 21 0), (@PySem.Value.int 0 0), (@PySem.Value.ref 66), (@PySem.Value.int 23 0), (@PySem.Value.int 0 0), (@PySem.Value.ref 73), (@PySem.Value.int 25 0), (@PySem.Value.int 0 0), (@PySem.Value.ref 80), (@PySem.Value.int 28 0), (@PySem.Value.int 0 0), (@PySem.Value.ref 87), (@PySem.Value.int 31 0), (@PySem.Value.int 0 0), (@PySem.Value.ref 94), (@PySem.Value.int 35 0), (@PySem.Value.int 0 0), (@PySem.Value.ref 101), (@PySem.Value.int 37 0), (@PySem.Value.int 0 0), (@PySem.Value.ref 108), (@PySem.Value.int 42 0), (@PySem.Value.int 0 0), (@PySem.Value.ref 115), (@PySem.Value.int 57 0), (@PySem.Value.int 0 0), (@PySem.Value.ref 122), (@PySem.Value.int 59 0), (@PySem.Value.int 0 0), (@PySem.Value.ref 127), (@PySem.Value.int 61 0), (@PySem.Value.int 0 0), (@PySem.Value.ref 134), (@PySem.Value.int 63 0), (@PySem.Value.int 0 0), (@PySem.Value.ref 141), (@PySem.Value.int 65 0), (@PySem.Value.int 0 0), (@PySem.Value.ref 148), (@PySem.Value.int 67 0), (@PySem.Value.int 0 0), (@PySem.Value.ref 155), (@PySem.Value.int 69 0), (@PySem.Value.int 0 0), (@PySem.Value.ref 162), (@PySem.Value.int 73 0), (@PySem.Value.int 0 0), (@PySem.Value.ref 169), (@PySem.Value.int 82 0), (@PySem.Value.int 0 0), (@PySem.Value.ref 197)])) (@List.toArray (@Option PySem.Value) []))
noncomputable def o208 (P : Params) : Obj := (@PySem.Obj.mk (@PySem.Value.type "tuple") (@Option.none Nat) (@PySem.Data.seq (@List.toArray PySem.Value []) 0) (@List.toArray (@Option PySem.Value) []))
noncomputable def o209 (P : Params) : Obj := (@PySem.Obj.mk (@PySem.Value.type "builtin_function_or_method") (@Option.none Nat) (@PySem.Data.fields (@List.toArray PySem.Value [(@PySem.Value.builtin "type.__prepare__"), (@PySem.Value.type "type")])) (@List.toArray (@Option PySem.Value) []))
noncomputable def o210 (P : Params) : Obj := (@PySem.Obj.mk (@PySem.Value.type "dict") (@Option.none Nat) (@PySem.Data.dict (@List.toArray PySem.DictEntry [(@PySem.DictEntry.mk (@PySem.PyData.keyHash P (@PySem.Str.ofString "__module__")) (@PySem.Value.str (@PySem.Str.ofString "__module__") 398) (@PySem.Value.str (@PySem.Str.ofString "pagebase.layout") 333)), (@PySem.DictEntry.mk (@PySem.PyData.keyHash P (@PySem.Str.ofString "__qualname__")) (@PySem.Value.str (@PySem.Str.ofString "__qualname__") 400) (@PySem.Value.str (@PySem.Str.ofString "Content") 399)), (@PySem.DictEntry.mk (@PySem.PyData.keyHash P (@PySem.Str.ofString "__firstlineno__")) (@PySem.Value.str (@PySem.Str.ofString "__firstlineno__") 402) (@PySem.Value.int 73 401)), (@PySem.DictEntry.mk (@PySem.PyData.keyHash P (@PySem.Str.ofString "__init__")) (@PySem.Value.str (@PySem.Str.ofString "__init__") 412) (@PySem.Value.ref 177)), (@PySem.DictEntry.mk (@PySem.PyData.keyHash P (@PySem.Str.ofString "children")) (@PySem.Value.str (@PySem.Str.ofString "children") 419) (@PySem.Value.ref 184)), (@PySem.DictEntry.mk (@PySem.PyData.keyHash P (@PySem.Str.ofString "__static_attributes__")) (@PySem.Value.str (@PySem.Str.ofString "__static_attributes__") 423) (@PySem.Value.ref 185))]) 6) (@List.toArray (@Option PySem.Value) []))
noncomputable def o211 (P : Params) : Obj := (@PySem.Obj.mk (@PySem.Value.type "tuple") (@Option.none Nat) (@PySem.Data.seq (@List.toArray PySem.Value []) 0) (@List.toArray (@Option PySem.Value) []))
noncomputable def o212 (P : Params) : Obj := (@PySem.Obj.mk PySem.Value.none (@Option.none Nat) (@PySem.Data.fields (@List.toArray PySem.Value [(@PySem.Value.int 75 0), (@PySem.Value.int 4 0), (@PySem.Value.ref 176), (@PySem.Value.int 80 0), (@PySem.Value.int 4 0), (@PySem.Value.ref 183)])) (@List.toArray (@Option PySem.Value) []))
noncomputable def o213 (P : Params) : Obj := (@PySem.Obj.mk (@PySem.Value.type "code") (@Option.none Nat) (@PySem.Data.fields (@List.toArray PySem.Value [(@PySem.Value.str (@PySem.Str.ofString "Content") 393), (@PySem.Value.str (@PySem.Str.ofString "Content") 394), (@PySem.Value.str (@PySem.Str.ofString "/claim/cut.py") 395), (@PySem.Value.int 73 0), (@PySem.Value.int 0 0), (@PySem.Value.int 0 0), (@PySem.Value.int 0 0), (@PySem.Value.int 0 0), (@PySem.Value.ref 167), (@PySem.Value.bool Bool.false), (@PySem.Value.int 181 0), (@PySem.Value.ref 168), PySem.Value.none, PySem.Value.none, PySem.Value.none, PySem.Value.none, (@PySem.Value.int 396 0), (@PySem.Value.int 73 0), (@PySem.Value.str (@PySem.Str.ofString "/claim/cut.py") 397)])) (@List.toArray (@Option PySem.Value) []))
noncomputable def o214 (P : Params) : Obj := (@PySem.Obj.mk (@PySem.Value.type "frame") (@Option.none Nat) PySem.Data.plain (@List.toArray (@Option PySem.Value) [(@Option.some PySem.Value (@PySem.Value.ref 169)), (@Option.some PySem.Value (@PySem.Value.ref 3)), (@Option.some PySem.Value (@PySem.Value.ref 166)), (@Option.none PySem.Value), (@Option.some PySem.Value (@PySem.Value.str (@PySem.Str.ofString "pagebase.layout") 333)), (@Option.none PySem.Value), (@Option.some PySem.Value (@PySem.Value.ref 0))]))
noncomputable def o215 (P : Params) : Obj := (@PySem.Obj.mk (@PySem.Value.type "tuple") (@Option.none Nat) (@PySem.Data.seq (@List.toArray PySem.Value []) 0) (@List.toArray (@Option PySem.Value) []))
noncomputable def o216 (P : Params) : Obj := (@PySem.Obj.mk PySem.Value.none (@Option.none Nat) (@PySem.Data.fields (@List.toArray PySem.Value [])) (@List.toArray (@Option PySem.Value) []))
noncomputable def o217 (P : Params) : Obj := (@PySem.Obj.mk (@PySem.Value.type "tuple") (@Option.none Nat) (@PySem.Data.seq (@List.toArray PySem.Value [(@PySem.Value.str (@PySem.Str.ofString "self") 406), (@PySem.Value.str (@PySem.Str.ofString "kind") 407), (@PySem.Value.str (@PySem.Str.ofString "raws") 408), (@PySem.Value.str (@PySem.Str.ofString "right") 409)]) 0) (@List.toArray (@Option PySem.Value) []))
noncomputable def o218 (P : Params) : Obj := (@PySem.Obj.mk (@PySem.Value.type "tuple") (@Option.none Nat) (@PySem.Data.seq (@List.toArray PySem.Value []) 0) (@List.toArray (@Option PySem.Value) []))
noncomputable def o219 (P : Params) : Obj := (@PySem.Obj.mk PySem.Value.none (@Option.none Nat) (@PySem.Data.func (fdOf (stIn 30 0) (@PySem.Str.ofString "Content.__init__") 0 [] PySem.Value.none PySem.Value.none PySem.Value.none PySem.Value.none (@Option.none Nat) PySem.Value.none PySem.Value.none 0)) (@List.toArray (@Option PySem.Value) []))
noncomputable def o220 (P : Params) : Obj := (@PySem.Obj.mk (@PySem.Value.type "code") (@Option.none Nat) (@PySem.Data.fields (@List.toArray PySem.Value [(@PySem.Value.str (@PySem.Str.ofString "__init__") 403), (@PySem.Value.str (@PySem.Str.ofString "Content.__init__") 404), (@PySem.Value.str (@PySem.Str.ofString "/claim/cut.py") 405), (@PySem.Value.int 75 0), (@PySem.Value.int 4 0), (@PySem.Value.int 0 0), (@PySem.Value.int 0 0), (@PySem.Value.int 3 0), (@PySem.Value.ref 171), (@PySem.Value.bool Bool.true), (@PySem.Value.int 181 0), (@PySem.Value.ref 172), PySem.Value.none, (@PySem.Value.ref 173), (@PySem.Value.ref 174), (@PySem.Value.ref 175), (@PySem.Value.int 410 0), (@PySem.Value.int 75 0), (@PySem.Value.str (@PySem.Str.ofString "/claim/cut.py") 411)])) (@List.toArray (@Option PySem.Value) []))
noncomputable def o221 (P : Params) : Obj := (@PySem.Obj.mk (@PySem.Value.type "function") (@Option.none Nat) (@PySem.Data.func (fdOf (stIn 30 0) (@PySem.Str.ofString "Content.__init__") 3 [] PySem.Value.none PySem.Value.none PySem.Value.none (@PySem.Value.str (@PySem.Str.ofString "pagebase.layout") 333) (@Option.none Nat) (@PySem.Value.ref 176) PySem.Value.none 0)) (@List.toArray (@Option PySem.Value) []))
noncomputable def o222 (P : Params) : Obj := (@PySem.Obj.mk (@PySem.Value.type "tuple") (@Option.none Nat) (@PySem.Data.seq (@List.toArray PySem.Value []) 0) (@List.toArray (@Option PySem.Value) []))
noncomputable def o223 (P : Params) : Obj := (@PySem.Obj.mk PySem.Value.none (@Option.none Nat) (@PySem.Data.fields (@List.toArray PySem.Value [])) (@List.toArray (@Option PySem.Value) []))
noncomputable def o224 (P : Params) : Obj := (@PySem.Obj.mk (@PySem.Value.type "tuple") (@Option.none Nat) (@PySem.Data.seq (@List.toArray PySem.Value [(@PySem.Value.str (@PySem.Str.ofString "self") 416)]) 0) (@List.toArray (@Option PySem.Value) []))
noncomputable def o225 (P : Params) : Obj := (@PySem.Obj.mk (@PySem.Value.type "tuple") (@Option.none Nat) (@PySem.Data.seq (@List.toArray PySem.Value []) 0) (@List.toArray (@Option PySem.Value) []))
noncomputable def o226 (P : Params) : Obj := (@PySem.Obj.mk PySem.Value.none (@Option.none Nat) (@PySem.Data.func (fdOf (stIn 30 1) (@PySem.Str.ofString "Content.children") 0 [] PySem.Value.none PySem.Value.none PySem.Value.none PySem.Value.none (@Option.none Nat) PySem.Value.none PySem.Value.none 0)) (@List.toArray (@Option PySem.Value) []))
noncomputable def o227 (P : Params) : Obj := (@PySem.Obj.mk (@PySem.Value.type "code") (@Option.none Nat) (@PySem.Data.fields (@List.toArray PySem.Value [(@PySem.Value.str (@PySem.Str.ofString "children") 413), (@PySem.Value.str (@PySem.Str.ofString "Content.children") 414), (@PySem.Value.str (@PySem.Str.ofString "/claim/cut.py") 415), (@PySem.Value.int 80 0), (@PySem.Value.int 1 0), (@PySem.Value.int 0 0), (@PySem.Value.int 0 0), (@PySem.Value.int 3 0), (@PySem.Value.ref 178), (@PySem.Value.bool Bool.true), (@PySem.Value.int 181 0), (@PySem.Value.ref 179), PySem.Value.none, (@PySem.Value.ref 180), (@PySem.Value.ref 181), (@PySem.Value.ref 182), (@PySem.Value.int 417 0), (@PySem.Value.int 80 0), (@PySem.Value.str (@PySem.Str.ofString "/claim/cut.py") 418)])) (@List.toArray (@Option PySem.Value) []))
noncomputable def o228 (P : Params) : Obj := (@PySem.Obj.mk (@PySem.Value.type "function") (@Option.none Nat) (@PySem.Data.func (fdOf (stIn 30 1) (@PySem.Str.ofString "Content.children") 3 [] PySem.Value.none PySem.Value.none PySem.Value.none (@PySem.Value.str (@PySem.Str.ofString "pagebase.layout") 333) (@Option.none Nat) (@PySem.Value.ref 183) PySem.Value.none 0)) (@List.toArray (@Option PySem.Value) []))
noncomputable def o229 (P : Params) : Obj := (@PySem.Obj.mk (@PySem.Value.type "tuple") (@Option.none Nat) (@PySem.Data.seq (@List.toArray PySem.Value [(@PySem.Value.str (@PySem.Str.ofString "kind") 420), (@PySem.Value.str (@PySem.Str.ofString "raws") 421), (@PySem.Value.str (@PySem.Str.ofString "right") 422)]) 0) (@List.toArray (@Option PySem.Value) []))
noncomputable def o230 (P : Params) : Obj := (@PySem.Obj.mk (@PySem.Value.type "dict") (@Option.none Nat) (@PySem.Data.dict (@List.toArray PySem.DictEntry [(@PySem.DictEntry.mk (@PySem.PyData.keyHash P (@PySem.Str.ofString "__module__")) (@PySem.Value.str (@PySem.Str.ofString "__module__") 398) (@PySem.Value.str (@PySem.Str.ofString "pagebase.layout") 333)), (@PySem.DictEntry.mk (@PySem.PyData.keyHash P (@PySem.Str.ofString "__firstlineno__")) (@PySem.Value.str (@PySem.Str.ofString "__firstlineno__") 402) (@PySem.Value.int 73 401)), (@PySem.DictEntry.mk (@PySem.PyData.keyHash P (@PySem.Str.ofString "__init__")) (@PySem.Value.str (@PySem.Str.ofString "__init__") 412) (@PySem.Value.ref 177)), (@PySem.DictEntry.mk (@PySem.PyData.keyHash P (@PySem.Str.ofString "children")) (@PySem.Value.str (@PySem.Str.ofString "children") 419) (@PySem.Value.ref 184)), (@PySem.DictEntry.mk (@PySem.PyData.keyHash P (@PySem.Str.ofString "__static_attributes__")) (@PySem.Value.str (@PySem.Str.ofString "__static_attributes__") 423) (@PySem.Value.ref 185)), (@PySem.DictEntry.mk (@PySem.PyData.keyHash P (@PySem.Str.ofString "__dict__")) (@PySem.Value.str (@PySem.Str.ofString "__dict__") 425) (@PySem.Value.ref 188)), (@PySem.DictEntry.mk (@PySem.PyData.keyHash P (@PySem.Str.ofString "__weakref__")) (@PySem.Value.str (@PySem.Str.ofString "__weakref__") 427) (@PySem.Value.ref 189)), (@PySem.DictEntry.mk (@PySem.PyData.keyHash P (@PySem.Str.ofString "__doc__")) (@PySem.Value.str (@PySem.Str.ofString "__doc__") 428) PySem.Value.none)]) 4) (@List.toArray (@Option PySem.Value) []))
noncomputable def o231 (P : Params) : Obj := (@PySem.Obj.mk (@PySem.Value.type "type") (@Option.none Nat) (@PySem.Data.cls (@PySem.ClassData.mk (@PySem.Str.ofString "Content") [(@PySem.Value.type "object")] [(@PySem.Value.ref 187), (@PySem.Value.type "object")] 186 (@PySem.Str.ofString "Content") Bool.true [] [] Bool.false (@Option.none Bool) Bool.false)) (@List.toArray (@Option PySem.Value) [(@Option.none PySem.Value), (@Option.none PySem.Value), (@Option.some PySem.Value (@PySem.Value.str (@PySem.Str.ofString "Content") 391)), (@Option.some PySem.Value (@PySem.Value.str (@PySem.Str.ofString "Content") 399)), (@Option.some PySem.Value (@PySem.Value.builtin "object.__new__")), (@Option.some PySem.Value (@PySem.Value.bool Bool.true))]))
noncomputable def o232 (P : Params) : Obj := (@PySem.Obj.mk (@PySem.Value.type "getset_descriptor") (@Option.none Nat) (@PySem.Data.fields (@List.toArray PySem.Value [(@PySem.Value.str (@PySem.Str.ofString "__dict__") 424), (@PySem.Value.ref 187), (@PySem.Value.builtin "function.__dict__"), (@PySem.Value.builtin "function.__dict__#set")])) (@List.toArray (@Option PySem.Value) []))
noncomputable def o233 (P : Params) : Obj := (@PySem.Obj.mk (@PySem.Value.type "getset_descriptor") (@Option.none Nat) (@PySem.Data.fields (@List.toArray PySem.Value [(@PySem.Value.str (@PySem.Str.ofString "__weakref__") 426), (@PySem.Value.ref 187), (@PySem.Value.builtin "ExceptionGroup.__weakref__"), PySem.Value.none])) (@List.toArray (@Option PySem.Value) []))
noncomputable def o234 (P : Params) : Obj := (@PySem.Obj.mk (@PySem.Value.type "super") (@Option.none Nat) (@PySem.Data.fields (@List.toArray PySem.Value [(@PySem.Value.ref 187), (@PySem.Value.ref 187), (@PySem.Value.ref 187)])) (@List.toArray (@Option PySem.Value) []))
noncomputable def o235 (P : Params) : Obj := (@PySem.Obj.mk (@PySem.Value.type "builtin_function_or_method") (@Option.none Nat) (@PySem.Data.fields (@List.toArray PySem.Value [(@PySem.Value.builtin "object.__init_subclass__"), (@PySem.Value.ref 187)])) (@List.toArray (@Option PySem.Value) []))
noncomputable def o236 (P : Params) : Obj := (@PySem.Obj.mk (@PySem.Value.type "tuple") (@Option.none Nat) (@PySem.Data.seq (@List.toArray PySem.Value []) 0) (@List.toArray (@Option PySem.Value) []))
noncomputable def o237 (P : Params) : Obj := (@PySem.Obj.mk PySem.Value.none (@Option.none Nat) (@PySem.Data.fields (@List.toArray PySem.Value [])) (@List.toArray (@Option PySem.Value) []))
noncomputable def o238 (P : Params) : Obj := (@PySem.Obj.mk (@PySem.Value.type "tuple") (@Option.none Nat) (@PySem.Data.seq (@List.toArray PySem.Value [(@PySem.Value.str (@PySem.Str.ofString "pager") 434), (@PySem.Value.str (@PySem.Str.ofString "page") 435), (@PySem.Value.str (@PySem.Str.ofString "content") 436)]) 0) (@List.toArray (@Option PySem.Value) []))
noncomputable def o239 (P : Params) : Obj := (@PySem.Obj.mk (@PySem.Value.type "tuple") (@Option.none Nat) (@PySem.Data.seq (@List.toArray PySem.Value []) 0) (@List.toArray (@Option PySem.Value) []))
noncomputable def o240 (P : Params) : Obj := (@PySem.Obj.mk PySem.Value.none (@Option.none Nat) (@PySem.Data.func (fdOf (stAt 31) (@PySem.Str.ofString "fits") 0 [] PySem.Value.none PySem.Value.none PySem.Value.none PySem.Value.none (@Option.none Nat) PySem.Value.none PySem.Value.none 0)) (@List.toArray (@Option PySem.Value) []))
noncomputable def o241 (P : Params) : Obj := (@PySem.Obj.mk (@PySem.Value.type "code") (@Option.none Nat) (@PySem.Data.fields (@List.toArray PySem.Value [(@PySem.Value.str (@PySem.Str.ofString "fits") 431), (@PySem.Value.str (@PySem.Str.ofString "fits") 432), (@PySem.Value.str (@PySem.Str.ofString "/claim/cut.py") 433), (@PySem.Value.int 82 0), (@PySem.Value.int 3 0), (@PySem.Value.int 0 0), (@PySem.Value.int 0 0), (@PySem.Value.int 3 0), (@PySem.Value.ref 192), (@PySem.Value.bool Bool.true), (@PySem.Value.int 181 0), (@PySem.Value.ref 193), PySem.Value.none, (@PySem.Value.ref 194), (@PySem.Value.ref 195), (@PySem.Value.ref 196), (@PySem.Value.int 437 0), (@PySem.Value.int 82 0), (@PySem.Value.str (@PySem.Str.ofString "/claim/cut.py") 438)])) (@List.toArray (@Option PySem.Value) []))
noncomputable def o242 (P : Params) : Obj := (@PySem.Obj.mk (@PySem.Value.type "function") (@Option.none Nat) (@PySem.Data.func (fdOf (stAt 31) (@PySem.Str.ofString "fits") 3 [] PySem.Value.none PySem.Value.none PySem.Value.none (@PySem.Value.str (@PySem.Str.ofString "pagebase.layout") 333) (@Option.none Nat) (@PySem.Value.ref 197) PySem.Value.none 0)) (@List.toArray (@Option PySem.Value) []))
noncomputable def tree242 (P : Params) : BT := (@PySem.W.BT.node (@PySem.W.boot_o_0 P) (@PySem.W.BT.node (@PySem.W.boot_o_1 P) (@PySem.W.BT.node (@o206 P) (@PySem.W.BT.node (@PySem.W.boot_o_7 P) (@PySem.W.BT.node (@o52 P) (@PySem.W.BT.node (@o68 P) (@PySem.W.BT.node (@o103 P) (@PySem.W.BT.node (@o169 P) PySem.W.BT.nil PySem.W.BT.nil) (@PySem.W.BT.node (@o235 P) PySem.W.BT.nil PySem.W.BT.nil)) (@PySem.W.BT.node (@o137 P) (@PySem.W.BT.node (@o201 P) PySem.W.BT.nil PySem.W.BT.nil) PySem.W.BT.nil)) (@PySem.W.BT.node (@o84 P) (@PySem.W.BT.node (@o119 P) (@PySem.W.BT.node (@o185 P) PySem.W.BT.nil PySem.W.BT.nil) PySem.W.BT.nil) (@PySem.W.BT.node (@o153 P) (@PySem.W.BT.node (@o219 P) PySem.W.BT.nil PySem.W.BT.nil) PySem.W.BT.nil))) (@PySem.W.BT.node (@o60 P) (@PySem.W.BT.node (@o76 P) (@PySem.W.BT.node (@o111 P) (@PySem.W.BT.node (@o177 P) PySem.W.BT.nil PySem.W.BT.nil) PySem.W.BT.nil) (@PySem.W.BT.node (@o145 P) (@PySem.W.BT.node (@o211 P) PySem.W.BT.nil PySem.W.BT.nil) PySem.W.BT.nil)) (@PySem.W.BT.node (@o95 P) (@PySem.W.BT.node (@o127 P) (@PySem.W.BT.node (@o193 P) PySem.W.BT.nil PySem.W.BT.nil) PySem.W.BT.nil) (@PySem.W.BT.node (@o161 P) (@PySem.W.BT.node (@o227 P) PySem.W.BT.nil PySem.W.BT.nil) PySem.W.BT.nil)))) (@PySem.W.BT.node (@o43 P) (@PySem.W.BT.node (@o56 P) (@PySem.W.BT.node (@o72 P) (@PySem.W.BT.node (@o107 P) (@PySem.W.BT.node (@o173 P) PySem.W.BT.nil PySem.W.BT.nil) (@PySem.W.BT.node (@o239 P) PySem.W.BT.nil PySem.W.BT.nil)) (@PySem.W.BT.node (@o141 P) (@PySem.W.BT.node (@o205 P) PySem.W.BT.nil PySem.W.BT.nil) PySem.W.BT.nil)) (@PySem.W.BT.node (@o91 P) (@PySem.W.BT.node (@o123 P) (@PySem.W.BT.node (@o189 P) PySem.W.BT.nil PySem.W.BT.nil) PySem.W.BT.nil) (@PySem.W.BT.node (@o157 P) (@PySem.W.BT.node (@o223 P) PySem.W.BT.nil PySem.W.BT.nil) PySem.W.BT.nil))) (@PySem.W.BT.node (@o64 P) (@PySem.W.BT.node (@o80 P) (@PySem.W.BT.node (@o115 P) (@PySem.W.BT.node (@o181 P) PySem.W.BT.nil PySem.W.BT.nil) PySem.W.BT.nil) (@PySem.W.BT.node (@o149 P) (@PySem.W.BT.node (@o215 P) PySem.W.BT.nil PySem.W.BT.nil) PySem.W.BT.nil)) (@PySem.W.BT.node (@o99 P) (@PySem.W.BT.node (@o133 P) (@PySem.W.BT.node (@o197 P) PySem.W.BT.nil PySem.W.BT.nil) PySem.W.BT.nil) (@PySem.W.BT.node (@o165 P) (@PySem.W.BT.node (@o231 P) PySem.W.BT.nil PySem.W.BT.nil) PySem.W.BT.nil))))) (@PySem.W.BT.node (@PySem.W.boot_o_5 P) (@PySem.W.BT.node (@PySem.W.boot_o_9 P) (@PySem.W.BT.node (@o54 P) (@PySem.W.BT.node (@o70 P) (@PySem.W.BT.node (@o105 P) (@PySem.W.BT.node (@o171 P) PySem.W.BT.nil PySem.W.BT.nil) (@PySem.W.BT.node (@o237 P) PySem.W.BT.nil PySem.W.BT.nil)) (@PySem.W.BT.node (@o139 P) (@PySem.W.BT.node (@o203 P) PySem.W.BT.nil PySem.W.BT.nil) PySem.W.BT.nil)) (@PySem.W.BT.node (@o89 P) (@PySem.W.BT.node (@o121 P) (@PySem.W.BT.node (@o187 P) PySem.W.BT.nil PySem.W.BT.nil) PySem.W.BT.nil) (@PySem.W.BT.node (@o155 P) (@PySem.W.BT.node (@o221 P) PySem.W.BT.nil PySem.W.BT.nil) PySem.W.BT.nil))) (@PySem.W.BT.node (@o62 P) (@PySem.W.BT.node (@o78 P) (@PySem.W.BT.node (@o113 P) (@PySem.W.BT.node (@o179 P) PySem.W.BT.nil PySem.W.BT.nil) PySem.W.BT.nil) (@PySem.W.BT.node (@o147 P) (@PySem.W.BT.node (@o213 P) PySem.W.BT.nil PySem.W.BT.nil) PySem.W.BT.nil)) (@PySem.W.BT.node (@o97 P) (@PySem.W.BT.node (@o131 P) (@PySem.W.BT.node (@o195 P) PySem.W.BT.nil PySem.W.BT.nil) PySem.W.BT.nil) (@PySem.W.BT.node (@o163 P) (@PySem.W.BT.node (@o229 P) PySem.W.BT.nil PySem.W.BT.nil) PySem.W.BT.nil)))) (@PySem.W.BT.node (@o45 P) (@PySem.W.BT.node (@o58 P) (@PySem.W.BT.node (@o74 P) (@PySem.W.BT.node (@o109 P) (@PySem.W.BT.node (@o175 P) PySem.W.BT.nil PySem.W.BT.nil) (@PySem.W.BT.node (@o241 P) PySem.W.BT.nil PySem.W.BT.nil)) (@PySem.W.BT.node (@o143 P) (@PySem.W.BT.node (@o209 P) PySem.W.BT.nil PySem.W.BT.nil) PySem.W.BT.nil)) (@PySem.W.BT.node (@o93 P) (@PySem.W.BT.node (@o125 P) (@PySem.W.BT.node (@o191 P) PySem.W.BT.nil PySem.W.BT.nil) PySem.W.BT.nil) (@PySem.W.BT.node (@o159 P) (@PySem.W.BT.node (@o225 P) PySem.W.BT.nil PySem.W.BT.nil) PySem.W.BT.nil))) (@PySem.W.BT.node (@o66 P) (@PySem.W.BT.node (@o88 P) (@PySem.W.BT.node (@o117 P) (@PySem.W.BT.node (@o183 P) PySem.W.BT.nil PySem.W.BT.nil) PySem.W.BT.nil) (@PySem.W.BT.node (@o151 P) (@PySem.W.BT.node (@o217 P) PySem.W.BT.nil PySem.W.BT.nil) PySem.W.BT.nil)) (@PySem.W.BT.node (@o101 P) (@PySem.W.BT.node (@o135 P) (@PySem.W.BT.node (@o199 P) PySem.W.BT.nil PySem.W.BT.nil) PySem.W.BT.nil) (@PySem.W.BT.node (@o167 P) (@PySem.W.BT.node (@o233 P) PySem.W.BT.nil PySem.W.BT.nil) PySem.W.BT.nil)))))) (@PySem.W.BT.node (@o49 P) (@PySem.W.BT.node (@PySem.W.boot_o_4 P) (@PySem.W.BT.node (@PySem.W.boot_o_8 P) (@PySem.W.BT.node (@o53 P) (@PySem.W.BT.node (@o69 P) (@PySem.W.BT.node (@o104 P) (@PySem.W.BT.node (@o170 P) PySem.W.BT.nil PySem.W.BT.nil) (@PySem.W.BT.node (@o236 P) PySem.W.BT.nil PySem.W.BT.nil)) (@PySem.W.BT.node (@o138 P) (@PySem.W.BT.node (@o202 P) PySem.W.BT.nil PySem.W.BT.nil) PySem.W.BT.nil)) (@PySem.W.BT.node (@o85 P) (@PySem.W.BT.node (@o120 P) (@PySem.W.BT.node (@o186 P) PySem.W.BT.nil PySem.W.BT.nil) PySem.W.BT.nil) (@PySem.W.BT.node (@o154 P) (@PySem.W.BT.node (@o220 P) PySem.W.BT.nil PySem.W.BT.nil) PySem.W.BT.nil))) (@PySem.W.BT.node (@o61 P) (@PySem.W.BT.node (@o77 P) (@PySem.W.BT.node (@o112 P) (@PySem.W.BT.node (@o178 P) PySem.W.BT.nil PySem.W.BT.nil) PySem.W.BT.nil) (@PySem.W.BT.node (@o146 P) (@PySem.W.BT.node (@o212 P) PySem.W.BT.nil PySem.W.BT.nil) PySem.W.BT.nil)) (@PySem.W.BT.node (@o96 P) (@PySem.W.BT.node (@o128 P) (@PySem.W.BT.node (@o194 P) PySem.W.BT.nil PySem.W.BT.nil) PySem.W.BT.nil) (@PySem.W.BT.node (@o162 P) (@PySem.W.BT.node (@o228 P) PySem.W.BT.nil PySem.W.BT.nil) PySem.W.BT.nil)))) (@PySem.W.BT.node (@o207 P) (@PySem.W.BT.node (@o57 P) (@PySem.W.BT.node (@o73 P) (@PySem.W.BT.node (@o108 P) (@PySem.W.BT.node (@o174 P) PySem.W.BT.nil PySem.W.BT.nil) (@PySem.W.BT.node (@o240 P) PySem.W.BT.nil PySem.W.BT.nil)) (@PySem.W.BT.node (@o142 P) (@PySem.W.BT.node (@o208 P) PySem.W.BT.nil PySem.W.BT.nil) PySem.W.BT.nil)) (@PySem.W.BT.node (@o92 P) (@PySem.W.BT.node (@o124 P) (@PySem.W.BT.node (@o190 P) PySem.W.BT.nil PySem.W.BT.nil) PySem.W.BT.nil) (@PySem.W.BT.node (@o158 P) (@PySem.W.BT.node (@o224 P) PySem.W.BT.nil PySem.W.BT.nil) PySem.W.BT.nil))) (@PySem.W.BT.node (@o65 P) (@PySem.W.BT.node (@o81 P) (@PySem.W.BT.node (@o116 P) (@PySem.W.BT.node (@o182 P) PySem.W.BT.nil PySem.W.BT.nil) PySem.W.BT.nil) (@PySem.W.BT.node (@o150 P) (@PySem.W.BT.node (@o216 P) PySem.W.BT.nil PySem.W.BT.nil) PySem.W.BT.nil)) (@PySem.W.BT.node (@o100 P) (@PySem.W.BT.node (@o134 P) (@PySem.W.BT.node (@o198 P) PySem.W.BT.nil PySem.W.BT.nil) PySem.W.BT.nil) (@PySem.W.BT.node (@o166 P) (@PySem.W.BT.node (@o232 P) PySem.W.BT.nil PySem.W.BT.nil) PySem.W.BT.nil))))) (@PySem.W.BT.node (@PySem.W.boot_o_6 P) (@PySem.W.BT.node (@PySem.W.boot_o_10 P) (@PySem.W.BT.node (@o55 P) (@PySem.W.BT.node (@o71 P) (@PySem.W.BT.node (@o106 P) (@PySem.W.BT.node (@o172 P) PySem.W.BT.nil PySem.W.BT.nil) (@PySem.W.BT.node (@o238 P) PySem.W.BT.nil PySem.W.BT.nil)) (@PySem.W.BT.node (@o140 P) (@PySem.W.BT.node (@o204 P) PySem.W.BT.nil PySem.W.BT.nil) PySem.W.BT.nil)) (@PySem.W.BT.node (@o90 P) (@PySem.W.BT.node (@o122 P) (@PySem.W.BT.node (@o188 P) PySem.W.BT.nil PySem.W.BT.nil) PySem.W.BT.nil) (@PySem.W.BT.node (@o156 P) (@PySem.W.BT.node (@o222 P) PySem.W.BT.nil PySem.W.BT.nil) PySem.W.BT.nil))) (@PySem.W.BT.node (@o63 P) (@PySem.W.BT.node (@o79 P) (@PySem.W.BT.node (@o114 P) (@PySem.W.BT.node (@o180 P) PySem.W.BT.nil PySem.W.BT.nil) PySem.W.BT.nil) (@PySem.W.BT.node (@o148 P) (@PySem.W.BT.node (@o214 P) PySem.W.BT.nil PySem.W.BT.nil) PySem.W.BT.nil)) (@PySem.W.BT.node (@o98 P) (@PySem.W.BT.node (@o132 P) (@PySem.W.BT.node (@o196 P) PySem.W.BT.nil PySem.W.BT.nil) PySem.W.BT.nil) (@PySem.W.BT.node (@o164 P) (@PySem.W.BT.node (@o230 P) PySem.W.BT.nil PySem.W.BT.nil) PySem.W.BT.nil)))) (@PySem.W.BT.node (@o46 P) (@PySem.W.BT.node (@o59 P) (@PySem.W.BT.node (@o75 P) (@PySem.W.BT.node (@o110 P) (@PySem.W.BT.node (@o176 P) PySem.W.BT.nil PySem.W.BT.nil) (@PySem.W.BT.node (@o242 P) PySem.W.BT.nil PySem.W.BT.nil)) (@PySem.W.BT.node (@o144 P) (@PySem.W.BT.node (@o210 P) PySem.W.BT.nil PySem.W.BT.nil) PySem.W.BT.nil)) (@PySem.W.BT.node (@o94 P) (@PySem.W.BT.node (@o126 P) (@PySem.W.BT.node (@o192 P) PySem.W.BT.nil PySem.W.BT.nil) PySem.W.BT.nil) (@PySem.W.BT.node (@o160 P) (@PySem.W.BT.node (@o226 P) PySem.W.BT.nil PySem.W.BT.nil) PySem.W.BT.nil))) (@PySem.W.BT.node (@o67 P) (@PySem.W.BT.node (@o83 P) (@PySem.W.BT.node (@o118 P) (@PySem.W.BT.node (@o184 P) PySem.W.BT.nil PySem.W.BT.nil) PySem.W.BT.nil) (@PySem.W.BT.node (@o152 P) (@PySem.W.BT.node (@o218 P) PySem.W.BT.nil PySem.W.BT.nil) PySem.W.BT.nil)) (@PySem.W.BT.node (@o102 P) (@PySem.W.BT.node (@o136 P) (@PySem.W.BT.node (@o200 P) PySem.W.BT.nil PySem.W.BT.nil) PySem.W.BT.nil) (@PySem.W.BT.node (@o168 P) (@PySem.W.BT.node (@o234 P) PySem.W.BT.nil PySem.W.BT.nil) PySem.W.BT.nil)))))))
noncomputable def o243 (P : Params) : Obj := (@PySem.Obj.mk (@PySem.Value.type "dict") (@Option.none Nat) (@PySem.Data.dict (@List.toArray PySem.DictEntry [(@PySem.DictEntry.mk (@PySem.PyData.keyHash P (@PySem.Str.ofString "__name__")) (@PySem.Value.str (@PySem.Str.ofString "__name__") 165) (@PySem.Value.str (@PySem.Str.ofString "pagebase.store") 440)), (@PySem.DictEntry.mk (@PySem.PyData.keyHash P (@PySem.Str.ofString "__doc__")) (@PySem.Value.str (@PySem.Str.ofString "__doc__") 166) PySem.Value.none), (@PySem.DictEntry.mk (@PySem.PyData.keyHash P (@PySem.Str.ofString "__package__")) (@PySem.Value.str (@PySem.Str.ofString "__package__") 167) PySem.Value.none), (@PySem.DictEntry.mk (@PySem.PyData.keyHash P (@PySem.Str.ofString "__loader__")) (@PySem.Value.str (@PySem.Str.ofString "__loader__") 168) (loaderV P)), (@PySem.DictEntry.mk (@PySem.PyData.keyHash P (@PySem.Str.ofString "__spec__")) (@PySem.Value.str (@PySem.Str.ofString "__spec__") 169) PySem.Value.none), (@PySem.DictEntry.mk (@PySem.PyData.keyHash P (@PySem.Str.ofString "__annotations__")) (@PySem.Value.str (@PySem.Str.ofString "__annotations__") 170) (@PySem.Value.ref 6)), (@PySem.DictEntry.mk (@PySem.PyData.keyHash P (@PySem.Str.ofString "__builtins__")) (@PySem.Value.str (@PySem.Str.ofString "__builtins__") 171) (@PySem.Value.ref 4)), (@PySem.DictEntry.mk (@PySem.PyData.keyHash P (@PySem.Str.ofString "__file__")) (@PySem.Value.str (@PySem.Str.ofString "__file__") 173) (@PySem.Value.str (@PySem.Str.ofString "/claim/cut.py") 172)), (@PySem.DictEntry.mk (@PySem.PyData.keyHash P (@PySem.Str.ofString "__cached__")) (@PySem.Value.str (@PySem.Str.ofString "__cached__") 174) PySem.Value.none), (@PySem.DictEntry.mk (@PySem.PyData.keyHash P (@PySem.Str.ofString "_wall")) (@PySem.Value.str (@PySem.Str.ofString "_wall") 193) (@PySem.Value.ref 21)), (@PySem.DictEntry.mk (@PySem.PyData.keyHash P (@PySem.Str.ofString "CHAIN_HEAD")) (@PySem.Value.str (@PySem.Str.ofString "CHAIN_HEAD") 197) (@PySem.Value.int 4 196)), (@PySem.DictEntry.mk (@PySem.PyData.keyHash P (@PySem.Str.ofString "chain_length")) (@PySem.Value.str (@PySem.Str.ofString "chain_length") 206) (@PySem.Value.ref 28)), (@PySem.DictEntry.mk (@PySem.PyData.keyHash P (@PySem.Str.ofString "PagebaseError")) (@PySem.Value.str (@PySem.Str.ofString "PagebaseError") 237) (@PySem.Value.ref 45)), (@PySem.DictEntry.mk (@PySem.PyData.keyHash P (@PySem.Str.ofString "CorruptError")) (@PySem.Value.str (@PySem.Str.ofString "CorruptError") 253) (@PySem.Value.ref 58)), (@PySem.DictEntry.mk (@PySem.PyData.keyHash P (@PySem.Str.ofString "HEADER_SIZE")) (@PySem.Value.str (@PySem.Str.ofString "HEADER_SIZE") 255) (@PySem.Value.int 32 254)), (@PySem.DictEntry.mk (@PySem.PyData.keyHash P (@PySem.Str.ofString "LEAF_KEYS")) (@PySem.Value.str (@PySem.Str.ofString "LEAF_KEYS") 259) (@PySem.Value.int 10 258)), (@PySem.DictEntry.mk (@PySem.PyData.keyHash P (@PySem.Str.ofString "LEAF_ROWS")) (@PySem.Value.str (@PySem.Str.ofString "LEAF_ROWS") 261) (@PySem.Value.int 13 260)), (@PySem.DictEntry.mk (@PySem.PyData.keyHash P (@PySem.Str.ofString "LEAST_CELL")) (@PySem.Value.str (@PySem.Str.ofString "LEAST_CELL") 263) (@PySem.Value.int 4 262)), (@PySem.DictEntry.mk (@PySem.PyData.keyHash P (@PySem.Str.ofString "two_at")) (@PySem.Value.str (@PySem.Str.ofString "two_at") 271) (@PySem.Value.ref 67)), (@PySem.DictEntry.mk (@PySem.PyData.keyHash P (@PySem.Str.ofString "four_at")) (@PySem.Value.str (@PySem.Str.ofString "four_at") 279) (@PySem.Value.ref 74)), (@PySem.DictEntry.mk (@PySem.PyData.keyHash P (@PySem.Str.ofString "put_two")) (@PySem.Value.str (@PySem.Str.ofString "put_two") 288) (@PySem.Value.ref 81)), (@PySem.DictEntry.mk (@PySem.PyData.keyHash P (@PySem.Str.ofString "put_four")) (@PySem.Value.str (@PySem.Str.ofString "put_four") 297) (@PySem.Value.ref 88)), (@PySem.DictEntry.mk (@PySem.PyData.keyHash P (@PySem.Str.ofString "four_octets")) (@PySem.Value.str (@PySem.Str.ofString "four_octets") 305) (@PySem.Value.ref 95)), (@PySem.DictEntry.mk (@PySem.PyData.keyHash P (@PySem.Str.ofString "is_leaf")) (@PySem.Value.str (@PySem.Str.ofString "is_leaf") 312) (@PySem.Value.ref 102)), (@PySem.DictEntry.mk (@PySem.PyData.keyHash P (@PySem.Str.ofString "head_size")) (@PySem.Value.str (@PySem.Str.ofString "head_size") 319) (@PySem.Value.ref 109)), (@PySem.DictEntry.mk (@PySem.PyData.keyHash P (@PySem.Str.ofString "get_varint")) (@PySem.Value.str (@PySem.Str.ofString "get_varint") 332) (@PySem.Value.ref 116)), (@PySem.DictEntry.mk (@PySem.PyData.keyHash P (@PySem.Str.ofString "POINTER")) (@PySem.Value.str (@PySem.Str.ofString "POINTER") 336) (@PySem.Value.int 2 335)), (@PySem.DictEntry.mk (@PySem.PyData.keyHash P (@PySem.Str.ofString "cost")) (@PySem.Value.str (@PySem.Str.ofString "cost") 343) (@PySem.Value.ref 123)), (@PySem.DictEntry.mk (@PySem.PyData.keyHash P (@PySem.Str.ofString "total")) (@PySem.Value.str (@PySem.Str.ofString "total") 349) (@PySem.Value.ref 128)), (@PySem.DictEntry.mk (@PySem.PyData.keyHash P (@PySem.Str.ofString "base_of")) (@PySem.Value.str (@PySem.Str.ofString "base_of") 356) (@PySem.Value.ref 135)), (@PySem.DictEntry.mk (@PySem.PyData.keyHash P (@PySem.Str.ofString "capacity")) (@PySem.Value.str (@PySem.Str.ofString "capacity") 365) (@PySem.Value.ref 142)), (@PySem.DictEntry.mk (@PySem.PyData.keyHash P (@PySem.Str.ofString "child_of")) (@PySem.Value.str (@PySem.Str.ofString "child_of") 372) (@PySem.Value.ref 149)), (@PySem.DictEntry.mk (@PySem.PyData.keyHash P (@PySem.Str.ofString "with_child")) (@PySem.Value.str (@PySem.Str.ofString "with_child") 380) (@PySem.Value.ref 156)), (@PySem.DictEntry.mk (@PySem.PyData.keyHash P (@PySem.Str.ofString "leaf_rowid")) (@PySem.Value.str (@PySem.Str.ofString "leaf_rowid") 390) (@PySem.Value.ref 163)), (@PySem.DictEntry.mk (@PySem.PyData.keyHash P (@PySem.Str.ofString "Content")) (@PySem.Value.str (@PySem.Str.ofString "Content") 430) (@PySem.Value.ref 187)), (@PySem.DictEntry.mk (@PySem.PyData.keyHash P (@PySem.Str.ofString "fits")) (@PySem.Value.str (@PySem.Str.ofString "fits") 439) (@PySem.Value.ref 198)), (@PySem.DictEntry.mk (@PySem.PyData.keyHash P (@PySem.Str.ofString "PageStore")) (@PySem.Value.str (@PySem.Str.ofString "PageStore") 518) (@PySem.Value.ref 257))]) 37) (@List.toArray (@Option PySem.Value) []))
noncomputable def o244 (P : Params) : Obj := (@PySem.Obj.mk PySem.Value.none (@Option.none Nat) (@PySem.Data.fields (@List.toArray PySem.Value [(@PySem.Value.int 1 0), (@PySem.Value.int 0 0), (@PySem.Value.ref 20), (@PySem.Value.int 6 0), (@PySem.Value.int 0 0), (@PySem.Value.ref 27), (@PySem.Value.int 10 0), (@PySem.Value.int 0 0), (@PySem.Value.ref 34), (@PySem.Value.int 14 0), (@PySem.Value.int 0 0), (@PySem.Value.ref 54), (@PySem.Value.int 21 0), (@PySem.Value.int 0 0), (@PySem.Value.ref 66), (@PySem.Value.int 23 0), (@PySem.Value.int 0 0), (@PySem.Value.ref 73), (@PySem.Value.int 25 0), (@PySem.Value.int 0 0), (@PySem.Value.ref 80), (@PySem.Value.int 28 0), (@PySem.Value.int 0 0), (@PySem.Value.ref 87), (@PySem.Value.int 31 0), (@PySem.Value.int 0 0), (@PySem.Value.ref 94), (@PySem.Value.int 35 0), (@PySem.Value.int 0 0), (@PySem.Value.ref 101), (@PySem.Value.int 37 0), (@PySem.Value.int 0 0), (@PySem.Value.ref 108), (@PySem.Value.int 42 0), (@PySem.Value.int 0 0), (@PySem.Value.ref 115), (@PySem.Value.int 57 0), (@PySem.Value.int 0 0), (@PySem.Value.ref 122), (@PySem.Value.int 59 0), (@PySem.Value.int 0 0), (@PySem.Value.ref 127), (@PySem.Value.int 61 0), (@PySem.Value.int 0 0), (@PySem.Value.ref 134), (@PySem.Value.int 63 0), (@PySem.Value.int 0 0), (@PySem.Value.ref 141), (@PySem.Value.int 65 0), (@PySem.Value.int 0 0), (@PySem.Value.ref 148), (@PySem.Value.int 67 0), (@PySem.Value.int 0 0), (@PySem.Value.ref 155), (@PySem.Value.int 69 0), (@PySem.Value.int 0 0), (@PySem.Value.ref 162), (@PySem.Value.int 73 0), (@PySem.Value.int 0 0), (@PySem.Value.ref 169), (@PySem.Value.int 82 0), (@PySem.Value.int 0 0), (@PySem.Value.ref 197), (@PySem.Value.int 85 0), (@PySem.Value.int 0 0), (@PySem.Value.ref 204)])) (@List.toArray (@Option PySem.Value) []))
noncomputable def o245 (P : Params) : Obj := (@PySem.Obj.mk (@PySem.Value.type "tuple") (@Option.none Nat) (@PySem.Data.seq (@List.toArray PySem.Value []) 0) (@List.toArray (@Option PySem.Value) []))
noncomputable def o246 (P : Params) : Obj := (@PySem.Obj.mk (@PySem.Value.type "builtin_function_or_method") (@Option.none Nat) (@PySem.Data.fields (@List.toArray PySem.Value [(@PySem.Value.builtin "type.__prepare__"), (@PySem.Value.type "type")])) (@List.toArray (@Option PySem.Value) []))
noncomputable def o247 (P : Params) : Obj := (@PySem.Obj.mk (@PySem.Value.type "dict") (@Option.none Nat) (@PySem.Data.dict (@List.toArray PySem.DictEntry [(@PySem.DictEntry.mk (@PySem.PyData.keyHash P (@PySem.Str.ofString "__module__")) (@PySem.Value.str (@PySem.Str.ofString "__module__") 449) (@PySem.Value.str (@PySem.Str.ofString "pagebase.store") 440)), (@PySem.DictEntry.mk (@PySem.PyData.keyHash P (@PySem.Str.ofString "__qualname__")) (@PySem.Value.str (@PySem.Str.ofString "__qualname__") 451) (@PySem.Value.str (@PySem.Str.ofString "PageStore") 450)), (@PySem.DictEntry.mk (@PySem.PyData.keyHash P (@PySem.Str.ofString "__firstlineno__")) (@PySem.Value.str (@PySem.Str.ofString "__firstlineno__") 453) (@PySem.Value.int 85 452)), (@PySem.DictEntry.mk (@PySem.PyData.keyHash P (@PySem.Str.ofString "__init__")) (@PySem.Value.str (@PySem.Str.ofString "__init__") 461) (@PySem.Value.ref 212)), (@PySem.DictEntry.mk (@PySem.PyData.keyHash P (@PySem.Str.ofString "page_count")) (@PySem.Value.str (@PySem.Str.ofString "page_count") 468) (@PySem.Value.ref 219)), (@PySem.DictEntry.mk (@PySem.PyData.keyHash P (@PySem.Str.ofString "read_page")) (@PySem.Value.str (@PySem.Str.ofString "read_page") 476) (@PySem.Value.ref 226)), (@PySem.DictEntry.mk (@PySem.PyData.keyHash P (@PySem.Str.ofString "write_page")) (@PySem.Value.str (@PySem.Str.ofString "write_page") 485) (@PySem.Value.ref 233)), (@PySem.DictEntry.mk (@PySem.PyData.keyHash P (@PySem.Str.ofString "extend")) (@PySem.Value.str (@PySem.Str.ofString "extend") 492) (@PySem.Value.ref 240)), (@PySem.DictEntry.mk (@PySem.PyData.keyHash P (@PySem.Str.ofString "take")) (@PySem.Value.str (@PySem.Str.ofString "take") 499) (@PySem.Value.ref 247)), (@PySem.DictEntry.mk (@PySem.PyData.keyHash P (@PySem.Str.ofString "give")) (@PySem.Value.str (@PySem.Str.ofString "give") 507) (@PySem.Value.ref 254)), (@PySem.DictEntry.mk (@PySem.PyData.keyHash P (@PySem.Str.ofString "__static_attributes__")) (@PySem.Value.str (@PySem.Str.ofString "__static_attributes__") 511) (@PySem.Value.ref 255))]) 11) (@List.toArray (@Option PySem.Value) []))
noncomputable def o248 (P : Params) : Obj := (@PySem.Obj.mk (@PySem.Value.type "tuple") (@Option.none Nat) (@PySem.Data.seq (@List.toArray PySem.Value []) 0) (@List.toArray (@Option PySem.Value) []))
noncomputable def o249 (P : Params) : Obj := (@PySem.Obj.mk PySem.Value.none (@Option.none Nat) (@PySem.Data.fields (@List.toArray PySem.Value [(@PySem.Value.int 87 0), (@PySem.Value.int 4 0), (@PySem.Value.ref 211), (@PySem.Value.int 92 0), (@PySem.Value.int 4 0), (@PySem.Value.ref 218), (@PySem.Value.int 95 0), (@PySem.Value.int 4 0), (@PySem.Value.ref 225), (@PySem.Value.int 98 0), (@PySem.Value.int 4 0), (@PySem.Value.ref 232), (@PySem.Value.int 101 0), (@PySem.Value.int 4 0), (@PySem.Value.ref 239), (@PySem.Value.int 105 0), (@PySem.Value.int 4 0), (@PySem.Value.ref 246), (@PySem.Value.int 110 0), (@PySem.Value.int 4 0), (@PySem.Value.ref 253)])) (@List.toArray (@Option PySem.Value) []))
noncomputable def o250 (P : Params) : Obj := (@PySem.Obj.mk (@PySem.Value.type "code") (@Option.none Nat) (@PySem.Data.fields (@List.toArray PySem.Value [(@PySem.Value.str (@PySem.Str.ofString "PageStore") 444), (@PySem.Value.str (@PySem.Str.ofString "PageStore") 445), (@PySem.Value.str (@PySem.Str.ofString "/claim/cut.py") 446), (@PySem.Value.int 85 0), (@PySem.Value.int 0 0), (@PySem.Value.int 0 0), (@PySem.Value.int 0 0), (@PySem.Value.int 0 0), (@PySem.Value.ref 202), (@PySem.Value.bool Bool.false), (@PySem.Value.int 181 0), (@PySem.Value.ref 203), PySem.Value.none, PySem.Value.none, PySem.Value.none, PySem.Value.none, (@PySem.Value.int 447 0), (@PySem.Value.int 85 0), (@PySem.Value.str (@PySem.Str.ofString "/claim/cut.py") 448)])) (@List.toArray (@Option PySem.Value) []))
noncomputable def o251 (P : Params) : Obj := (@PySem.Obj.mk (@PySem.Value.type "frame") (@Option.none Nat) PySem.Data.plain (@List.toArray (@Option PySem.Value) [(@Option.some PySem.Value (@PySem.Value.ref 204)), (@Option.some PySem.Value (@PySem.Value.ref 3)), (@Option.some PySem.Value (@PySem.Value.ref 201)), (@Option.none PySem.Value), (@Option.some PySem.Value (@PySem.Value.str (@PySem.Str.ofString "pagebase.store") 440)), (@Option.none PySem.Value), (@Option.some PySem.Value (@PySem.Value.ref 0))]))
noncomputable def o252 (P : Params) : Obj := (@PySem.Obj.mk (@PySem.Value.type "tuple") (@Option.none Nat) (@PySem.Data.seq (@List.toArray PySem.Value []) 0) (@List.toArray (@Option PySem.Value) []))
noncomputable def o253 (P : Params) : Obj := (@PySem.Obj.mk PySem.Value.none (@Option.none Nat) (@PySem.Data.fields (@List.toArray PySem.Value [])) (@List.toArray (@Option PySem.Value) []))
noncomputable def o254 (P : Params) : Obj := (@PySem.Obj.mk (@PySem.Value.type "tuple") (@Option.none Nat) (@PySem.Data.seq (@List.toArray PySem.Value [(@PySem.Value.str (@PySem.Str.ofString "self") 457), (@PySem.Value.str (@PySem.Str.ofString "page_size") 458)]) 0) (@List.toArray (@Option PySem.Value) []))
noncomputable def o255 (P : Params) : Obj := (@PySem.Obj.mk (@PySem.Value.type "tuple") (@Option.none Nat) (@PySem.Data.seq (@List.toArray PySem.Value []) 0) (@List.toArray (@Option PySem.Value) []))
noncomputable def o256 (P : Params) : Obj := (@PySem.Obj.mk PySem.Value.none (@Option.none Nat) (@PySem.Data.func (fdOf (stIn 33 0) (@PySem.Str.ofString "PageStore.__init__") 0 [] PySem.Value.none PySem.Value.none PySem.Value.none PySem.Value.none (@Option.none Nat) PySem.Value.none PySem.Value.none 0)) (@List.toArray (@Option PySem.Value) []))
noncomputable def o257 (P : Params) : Obj := (@PySem.Obj.mk (@PySem.Value.type "code") (@Option.none Nat) (@PySem.Data.fields (@List.toArray PySem.Value [(@PySem.Value.str (@PySem.Str.ofString "__init__") 454), (@PySem.Value.str (@PySem.Str.ofString "PageStore.__init__") 455), (@PySem.Value.str (@PySem.Str.ofString "/claim/cut.py") 456), (@PySem.Value.int 87 0), (@PySem.Value.int 2 0), (@PySem.Value.int 0 0), (@PySem.Value.int 0 0), (@PySem.Value.int 3 0), (@PySem.Value.ref 206), (@PySem.Value.bool Bool.true), (@PySem.Value.int 181 0), (@PySem.Value.ref 207), PySem.Value.none, (@PySem.Value.ref 208), (@PySem.Value.ref 209), (@PySem.Value.ref 210), (@PySem.Value.int 459 0), (@PySem.Value.int 87 0), (@PySem.Value.str (@PySem.Str.ofString "/claim/cut.py") 460)])) (@List.toArray (@Option PySem.Value) []))
noncomputable def o258 (P : Params) : Obj := (@PySem.Obj.mk (@PySem.Value.type "function") (@Option.none Nat) (@PySem.Data.func (fdOf (stIn 33 0) (@PySem.Str.ofString "PageStore.__init__") 3 [] PySem.Value.none PySem.Value.none PySem.Value.none (@PySem.Value.str (@PySem.Str.ofString "pagebase.store") 440) (@Option.none Nat) (@PySem.Value.ref 211) PySem.Value.none 0)) (@List.toArray (@Option PySem.Value) []))
noncomputable def o259 (P : Params) : Obj := (@PySem.Obj.mk (@PySem.Value.type "tuple") (@Option.none Nat) (@PySem.Data.seq (@List.toArray PySem.Value []) 0) (@List.toArray (@Option PySem.Value) []))
noncomputable def o260 (P : Params) : Obj := (@PySem.Obj.mk PySem.Value.none (@Option.none Nat) (@PySem.Data.fields (@List.toArray PySem.Value [])) (@List.toArray (@Option PySem.Value) []))
noncomputable def o261 (P : Params) : Obj := (@PySem.Obj.mk (@PySem.Value.type "tuple") (@Option.none Nat) (@PySem.Data.seq (@List.toArray PySem.Value [(@PySem.Value.str (@PySem.Str.ofString "self") 465)]) 0) (@List.toArray (@Option PySem.Value) []))
noncomputable def o262 (P : Params) : Obj := (@PySem.Obj.mk (@PySem.Value.type "tuple") (@Option.none Nat) (@PySem.Data.seq (@List.toArray PySem.Value []) 0) (@List.toArray (@Option PySem.Value) []))
noncomputable def o263 (P : Params) : Obj := (@PySem.Obj.mk PySem.Value.none (@Option.none Nat) (@PySem.Data.func (fdOf (stIn 33 1) (@PySem.Str.ofString "PageStore.page_count") 0 [] PySem.Value.none PySem.Value.none PySem.Value.none PySem.Value.none (@Option.none Nat) PySem.Value.none PySem.Value.none 0)) (@List.toArray (@Option PySem.Value) []))
noncomputable def o264 (P : Params) : Obj := (@PySem.Obj.mk (@PySem.Value.type "code") (@Option.none Nat) (@PySem.Data.fields (@List.toArray PySem.Value [(@PySem.Value.str (@PySem.Str.ofString "page_count") 462), (@PySem.Value.str (@PySem.Str.ofString "PageStore.page_count") 463), (@PySem.Value.str (@PySem.Str.ofString "/claim/cut.py") 464), (@PySem.Value.int 92 0), (@PySem.Value.int 1 0), (@PySem.Value.int 0 0), (@PySem.Value.int 0 0), (@PySem.Value.int 3 0), (@PySem.Value.ref 213), (@PySem.Value.bool Bool.true), (@PySem.Value.int 181 0), (@PySem.Value.ref 214), PySem.Value.none, (@PySem.Value.ref 215), (@PySem.Value.ref 216), (@PySem.Value.ref 217), (@PySem.Value.int 466 0), (@PySem.Value.int 92 0), (@PySem.Value.str (@PySem.Str.ofString "/claim/cut.py") 467)])) (@List.toArray (@Option PySem.Value) []))
noncomputable def o265 (P : Params) : Obj := (@PySem.Obj.mk (@PySem.Value.type "function") (@Option.none Nat) (@PySem.Data.func (fdOf (stIn 33 1) (@PySem.Str.ofString "PageStore.page_count") 3 [] PySem.Value.none PySem.Value.none PySem.Value.none (@PySem.Value.str (@PySem.Str.ofString "pagebase.store") 440) (@Option.none Nat) (@PySem.Value.ref 218) PySem.Value.none 0)) (@List.toArray (@Option PySem.Value) []))
noncomputable def o266 (P : Params) : Obj := (@PySem.Obj.mk (@PySem.Value.type "tuple") (@Option.none Nat) (@PySem.Data.seq (@List.toArray PySem.Value []) 0) (@List.toArray (@Option PySem.Value) []))
noncomputable def o267 (P : Params) : Obj := (@PySem.Obj.mk PySem.Value.none (@Option.none Nat) (@PySem.Data.fields (@List.toArray PySem.Value [])) (@List.toArray (@Option PySem.Value) []))
noncomputable def o268 (P : Params) : Obj := (@PySem.Obj.mk (@PySem.Value.type "tuple") (@Option.none Nat) (@PySem.Data.seq (@List.toArray PySem.Value [(@PySem.Value.str (@PySem.Str.ofString "self") 472), (@PySem.Value.str (@PySem.Str.ofString "page") 473)]) 0) (@List.toArray (@Option PySem.Value) []))
noncomputable def o269 (P : Params) : Obj := (@PySem.Obj.mk (@PySem.Value.type "tuple") (@Option.none Nat) (@PySem.Data.seq (@List.toArray PySem.Value []) 0) (@List.toArray (@Option PySem.Value) []))
noncomputable def o270 (P : Params) : Obj := (@PySem.Obj.mk PySem.Value.none (@Option.none Nat) (@PySem.Data.func (fdOf (stIn 33 2) (@PySem.Str.ofString "PageStore.read_page") 0 [] PySem.Value.none PySem.Value.none PySem.Value.none PySem.Value.none (@Option.none Nat) PySem.Value.none PySem.Value.none 0)) (@List.toArray (@Option PySem.Value) []))
noncomputable def o271 (P : Params) : Obj := (@PySem.Obj.mk (@PySem.Value.type "code") (@Option.none Nat) (@PySem.Data.fields (@List.toArray PySem.Value [(@PySem.Value.str (@PySem.Str.ofString "read_page") 469), (@PySem.Value.str (@PySem.Str.ofString "PageStore.read_page") 470), (@PySem.Value.str (@PySem.Str.ofString "/claim/cut.py") 471), (@PySem.Value.int 95 0), (@PySem.Value.int 2 0), (@PySem.Value.int 0 0), (@PySem.Value.int 0 0), (@PySem.Value.int 3 0), (@PySem.Value.ref 220), (@PySem.Value.bool Bool.true), (@PySem.Value.int 181 0), (@PySem.Value.ref 221), PySem.Value.none, (@PySem.Value.ref 222), (@PySem.Value.ref 223), (@PySem.Value.ref 224), (@PySem.Value.int 474 0), (@PySem.Value.int 95 0), (@PySem.Value.str (@PySem.Str.ofString "/claim/cut.py") 475)])) (@List.toArray (@Option PySem.Value) []))
noncomputable def o272 (P : Params) : Obj := (@PySem.Obj.mk (@PySem.Value.type "function") (@Option.none Nat) (@PySem.Data.func (fdOf (stIn 33 2) (@PySem.Str.ofString "PageStore.read_page") 3 [] PySem.Value.none PySem.Value.none PySem.Value.none (@PySem.Value.str (@PySem.Str.ofString "pagebase.store") 440) (@Option.none Nat) (@PySem.Value.ref 225) PySem.Value.none 0)) (@List.toArray (@Option PySem.Value) []))
noncomputable def o273 (P : Params) : Obj := (@PySem.Obj.mk (@PySem.Value.type "tuple") (@Option.none Nat) (@PySem.Data.seq (@List.toArray PySem.Value []) 0) (@List.toArray (@Option PySem.Value) []))
noncomputable def o274 (P : Params) : Obj := (@PySem.Obj.mk PySem.Value.none (@Option.none Nat) (@PySem.Data.fields (@List.toArray PySem.Value [])) (@List.toArray (@Option PySem.Value) []))
noncomputable def o275 (P : Params) : Obj := (@PySem.Obj.mk (@PySem.Value.type "tuple") (@Option.none Nat) (@PySem.Data.seq (@List.toArray PySem.Value [(@PySem.Value.str (@PySem.Str.ofString "self") 480), (@PySem.Value.str (@PySem.Str.ofString "page") 481), (@PySem.Value.str (@PySem.Str.ofString "octets") 482)]) 0) (@List.toArray (@Option PySem.Value) []))
noncomputable def o276 (P : Params) : Obj := (@PySem.Obj.mk (@PySem.Value.type "tuple") (@Option.none Nat) (@PySem.Data.seq (@List.toArray PySem.Value []) 0) (@List.toArray (@Option PySem.Value) []))
noncomputable def o277 (P : Params) : Obj := (@PySem.Obj.mk PySem.Value.none (@Option.none Nat) (@PySem.Data.func (fdOf (stIn 33 3) (@PySem.Str.ofString "PageStore.write_page") 0 [] PySem.Value.none PySem.Value.none PySem.Value.none PySem.Value.none (@Option.none Nat) PySem.Value.none PySem.Value.none 0)) (@List.toArray (@Option PySem.Value) []))
noncomputable def o278 (P : Params) : Obj := (@PySem.Obj.mk (@PySem.Value.type "code") (@Option.none Nat) (@PySem.Data.fields (@List.toArray PySem.Value [(@PySem.Value.str (@PySem.Str.ofString "write_page") 477), (@PySem.Value.str (@PySem.Str.ofString "PageStore.write_page") 478), (@PySem.Value.str (@PySem.Str.ofString "/claim/cut.py") 479), (@PySem.Value.int 98 0), (@PySem.Value.int 3 0), (@PySem.Value.int 0 0), (@PySem.Value.int 0 0), (@PySem.Value.int 3 0), (@PySem.Value.ref 227), (@PySem.Value.bool Bool.true), (@PySem.Value.int 181 0), (@PySem.Value.ref 228), PySem.Value.none, (@PySem.Value.ref 229), (@PySem.Value.ref 230), (@PySem.Value.ref 231), (@PySem.Value.int 483 0), (@PySem.Value.int 98 0), (@PySem.Value.str (@PySem.Str.ofString "/claim/cut.py") 484)])) (@List.toArray (@Option PySem.Value) []))
noncomputable def o279 (P : Params) : Obj := (@PySem.Obj.mk (@PySem.Value.type "function") (@Option.none Nat) (@PySem.Data.func (fdOf (stIn 33 3) (@PySem.Str.ofString "PageStore.write_page") 3 [] PySem.Value.none PySem.Value.none PySem.Value.none (@PySem.Value.str (@PySem.Str.ofString "pagebase.store") 440) (@Option.none Nat) (@PySem.Value.ref 232) PySem.Value.none 0)) (@List.toArray (@Option PySem.Value) []))
noncomputable def o280 (P : Params) : Obj := (@PySem.Obj.mk (@PySem.Value.type "tuple") (@Option.none Nat) (@PySem.Data.seq (@List.toArray PySem.Value []) 0) (@List.toArray (@Option PySem.Value) []))
noncomputable def o281 (P : Params) : Obj := (@PySem.Obj.mk PySem.Value.none (@Option.none Nat) (@PySem.Data.fields (@List.toArray PySem.Value [])) (@List.toArray (@Option PySem.Value) []))
noncomputable def o282 (P : Params) : Obj := (@PySem.Obj.mk (@PySem.Value.type "tuple") (@Option.none Nat) (@PySem.Data.seq (@List.toArray PySem.Value [(@PySem.Value.str (@PySem.Str.ofString "self") 489)]) 0) (@List.toArray (@Option PySem.Value) []))
noncomputable def o283 (P : Params) : Obj := (@PySem.Obj.mk (@PySem.Value.type "tuple") (@Option.none Nat) (@PySem.Data.seq (@List.toArray PySem.Value []) 0) (@List.toArray (@Option PySem.Value) []))
noncomputable def o284 (P : Params) : Obj := (@PySem.Obj.mk PySem.Value.none (@Option.none Nat) (@PySem.Data.func (fdOf (stIn 33 4) (@PySem.Str.ofString "PageStore.extend") 0 [] PySem.Value.none PySem.Value.none PySem.Value.none PySem.Value.none (@Option.none Nat) PySem.Value.none PySem.Value.none 0)) (@List.toArray (@Option PySem.Value) []))
noncomputable def o285 (P : Params) : Obj := (@PySem.Obj.mk (@PySem.Value.type "code") (@Option.none Nat) (@PySem.Data.fields (@List.toArray PySem.Value [(@PySem.Value.str (@PySem.Str.ofString "extend") 486), (@PySem.Value.str (@PySem.Str.ofString "PageStore.extend") 487), (@PySem.Value.str (@PySem.Str.ofString "/claim/cut.py") 488), (@PySem.Value.int 101 0), (@PySem.Value.int 1 0), (@PySem.Value.int 0 0), (@PySem.Value.int 0 0), (@PySem.Value.int 3 0), (@PySem.Value.ref 234), (@PySem.Value.bool Bool.true), (@PySem.Value.int 181 0), (@PySem.Value.ref 235), PySem.Value.none, (@PySem.Value.ref 236), (@PySem.Value.ref 237), (@PySem.Value.ref 238), (@PySem.Value.int 490 0), (@PySem.Value.int 101 0), (@PySem.Value.str (@PySem.Str.ofString "/claim/cut.py") 491)])) (@List.toArray (@Option PySem.Value) []))
noncomputable def o286 (P : Params) : Obj := (@PySem.Obj.mk (@PySem.Value.type "function") (@Option.none Nat) (@PySem.Data.func (fdOf (stIn 33 4) (@PySem.Str.ofString "PageStore.extend") 3 [] PySem.Value.none PySem.Value.none PySem.Value.none (@PySem.Value.str (@PySem.Str.ofString "pagebase.store") 440) (@Option.none Nat) (@PySem.Value.ref 239) PySem.Value.none 0)) (@List.toArray (@Option PySem.Value) []))
noncomputable def o287 (P : Params) : Obj := (@PySem.Obj.mk (@PySem.Value.type "tuple") (@Option.none Nat) (@PySem.Data.seq (@List.toArray PySem.Value []) 0) (@List.toArray (@Option PySem.Value) []))
noncomputable def o288 (P : Params) : Obj := (@PySem.Obj.mk PySem.Value.none (@Option.none Nat) (@PySem.Data.fields (@List.toArray PySem.Value [])) (@List.toArray (@Option PySem.Value) []))
noncomputable def o289 (P : Params) : Obj := (@PySem.Obj.mk (@PySem.Value.type "tuple") (@Option.none Nat) (@PySem.Data.seq (@List.toArray PySem.Value [(@PySem.Value.str (@PySem.Str.ofString "self") 496)]) 0) (@List.toArray (@Option PySem.Value) []))
noncomputable def o290 (P : Params) : Obj := (@PySem.Obj.mk (@PySem.Value.type "tuple") (@Option.none Nat) (@PySem.Data.seq (@List.toArray PySem.Value []) 0) (@List.toArray (@Option PySem.Value) []))
noncomputable def o291 (P : Params) : Obj := (@PySem.Obj.mk PySem.Value.none (@Option.none Nat) (@PySem.Data.func (fdOf (stIn 33 5) (@PySem.Str.ofString "PageStore.take") 0 [] PySem.Value.none PySem.Value.none PySem.Value.none PySem.Value.none (@Option.none Nat) PySem.Value.none PySem.Value.none 0)) (@List.toArray (@Option PySem.Value) []))
noncomputable def o292 (P : Params) : Obj := (@PySem.Obj.mk (@PySem.Value.type "code") (@Option.none Nat) (@PySem.Data.fields (@List.toArray PySem.Value [(@PySem.Value.str (@PySem.Str.ofString "take") 493), (@PySem.Value.str (@PySem.Str.ofString "PageStore.take") 494), (@PySem.Value.str (@PySem.Str.ofString "/claim/cut.py") 495), (@PySem.Value.int 105 0), (@PySem.Value.int 1 0), (@PySem.Value.int 0 0), (@PySem.Value.int 0 0), (@PySem.Value.int 3 0), (@PySem.Value.ref 241), (@PySem.Value.bool Bool.true), (@PySem.Value.int 181 0), (@PySem.Value.ref 242), PySem.Value.none, (@PySem.Value.ref 243), (@PySem.Value.ref 244), (@PySem.Value.ref 245), (@PySem.Value.int 497 0), (@PySem.Value.int 105 0), (@PySem.Value.str (@PySem.Str.ofString "/claim/cut.py") 498)])) (@List.toArray (@Option PySem.Value) []))
noncomputable def o293 (P : Params) : Obj := (@PySem.Obj.mk (@PySem.Value.type "function") (@Option.none Nat) (@PySem.Data.func (fdOf (stIn 33 5) (@PySem.Str.ofString "PageStore.take") 3 [] PySem.Value.none PySem.Value.none PySem.Value.none (@PySem.Value.str (@PySem.Str.ofString "pagebase.store") 440) (@Option.none Nat) (@PySem.Value.ref 246) PySem.Value.none 0)) (@List.toArray (@Option PySem.Value) []))
noncomputable def o294 (P : Params) : Obj := (@PySem.Obj.mk (@PySem.Value.type "tuple") (@Option.none Nat) (@PySem.Data.seq (@List.toArray PySem.Value []) 0) (@List.toArray (@Option PySem.Value) []))
noncomputable def o295 (P : Params) : Obj := (@PySem.Obj.mk PySem.Value.none (@Option.none Nat) (@PySem.Data.fields (@List.toArray PySem.Value [])) (@List.toArray (@Option PySem.Value) []))
noncomputable def o296 (P : Params) : Obj := (@PySem.Obj.mk (@PySem.Value.type "tuple") (@Option.none Nat) (@PySem.Data.seq (@List.toArray PySem.Value [(@PySem.Value.str (@PySem.Str.ofString "self") 503), (@PySem.Value.str (@PySem.Str.ofString "page") 504)]) 0) (@List.toArray (@Option PySem.Value) []))
noncomputable def o297 (P : Params) : Obj := (@PySem.Obj.mk (@PySem.Value.type "tuple") (@Option.none Nat) (@PySem.Data.seq (@List.toArray PySem.Value []) 0) (@List.toArray (@Option PySem.Value) []))
noncomputable def o298 (P : Params) : Obj := (@PySem.Obj.mk PySem.Value.none (@Option.none Nat) (@PySem.Data.func (fdOf (stIn 33 6) (@PySem.Str.ofString "PageStore.give") 0 [] PySem.Value.none PySem.Value.none PySem.Value.none PySem.Value.none (@Option.none Nat) PySem.Value.none PySem.Value.none 0)) (@List.toArray (@Option PySem.Value) []))
noncomputable def o299 (P : Params) : Obj := (@PySem.Obj.mk (@PySem.Value.type "code") (@Option.none Nat) (@PySem.Data.fields (@List.toArray PySem.Value [(@PySem.Value.str (@PySem.Str.ofString "give") 500), (@PySem.Value.str (@PySem.Str.ofString "PageStore.give") 501), (@PySem.Value.str (@PySem.Str.ofString "/claim/cut.py") 502), (@PySem.Value.int 110 0), (@PySem.Value.int 2 0), (@PySem.Value.int 0 0), (@PySem.Value.int 0 0), (@PySem.Value.int 3 0), (@PySem.Value.ref 248), (@PySem.Value.bool Bool.true), (@PySem.Value.int 181 0), (@PySem.Value.ref 249), PySem.Value.none, (@PySem.Value.ref 250), (@PySem.Value.ref 251), (@PySem.Value.ref 252), (@PySem.Value.int 505 0), (@PySem.Value.int 110 0), (@PySem.Value.str (@PySem.Str.ofString "/claim/cut.py") 506)])) (@List.toArray (@Option PySem.Value) []))
noncomputable def o300 (P : Params) : Obj := (@PySem.Obj.mk (@PySem.Value.type "function") (@Option.none Nat) (@PySem.Data.func (fdOf (stIn 33 6) (@PySem.Str.ofString "PageStore.give") 3 [] PySem.Value.none PySem.Value.none PySem.Value.none (@PySem.Value.str (@PySem.Str.ofString "pagebase.store") 440) (@Option.none Nat) (@PySem.Value.ref 253) PySem.Value.none 0)) (@List.toArray (@Option PySem.Value) []))
noncomputable def o301 (P : Params) : Obj := (@PySem.Obj.mk (@PySem.Value.type "tuple") (@Option.none Nat) (@PySem.Data.seq (@List.toArray PySem.Value [(@PySem.Value.str (@PySem.Str.ofString "page_size") 508), (@PySem.Value.str (@PySem.Str.ofString "pages") 509), (@PySem.Value.str (@PySem.Str.ofString "spare") 510)]) 0) (@List.toArray (@Option PySem.Value) []))
noncomputable def o302 (P : Params) : Obj := (@PySem.Obj.mk (@PySem.Value.type "dict") (@Option.none Nat) (@PySem.Data.dict (@List.toArray PySem.DictEntry [(@PySem.DictEntry.mk (@PySem.PyData.keyHash P (@PySem.Str.ofString "__module__")) (@PySem.Value.str (@PySem.Str.ofString "__module__") 449) (@PySem.Value.str (@PySem.Str.ofString "pagebase.store") 440)), (@PySem.DictEntry.mk (@PySem.PyData.keyHash P (@PySem.Str.ofString "__firstlineno__")) (@PySem.Value.str (@PySem.Str.ofString "__firstlineno__") 453) (@PySem.Value.int 85 452)), (@PySem.DictEntry.mk (@PySem.PyData.keyHash P (@PySem.Str.ofString "__init__")) (@PySem.Value.str (@PySem.Str.ofString "__init__") 461) (@PySem.Value.ref 212)), (@PySem.DictEntry.mk (@PySem.PyData.keyHash P (@PySem.Str.ofString "page_count")) (@PySem.Value.str (@PySem.Str.ofString "page_count") 468) (@PySem.Value.ref 219)), (@PySem.DictEntry.mk (@PySem.PyData.keyHash P (@PySem.Str.ofString "read_page")) (@PySem.Value.str (@PySem.Str.ofString "read_page") 476) (@PySem.Value.ref 226)), (@PySem.DictEntry.mk (@PySem.PyData.keyHash P (@PySem.Str.ofString "write_page")) (@PySem.Value.str (@PySem.Str.ofString "write_page") 485) (@PySem.Value.ref 233)), (@PySem.DictEntry.mk (@PySem.PyData.keyHash P (@PySem.Str.ofString "extend")) (@PySem.Value.str (@PySem.Str.ofString "extend") 492) (@PySem.Value.ref 240)), (@PySem.DictEntry.mk (@PySem.PyData.keyHash P (@PySem.Str.ofString "take")) (@PySem.Value.str (@PySem.Str.ofString "take") 499) (@PySem.Value.ref 247)), (@PySem.DictEntry.mk (@PySem.PyData.keyHash P (@PySem.Str.ofString "give")) (@PySem.Value.str (@PySem.Str.ofString "give") 507) (@PySem.Value.ref 254)), (@PySem.DictEntry.mk (@PySem.PyData.keyHash P (@PySem.Str.ofString "__static_attributes__")) (@PySem.Value.str (@PySem.Str.ofString "__static_attributes__") 511) (@PySem.Value.ref 255)), (@PySem.DictEntry.mk (@PySem.PyData.keyHash P (@PySem.Str.ofString "__dict__")) (@PySem.Value.str (@PySem.Str.ofString "__dict__") 513) (@PySem.Value.ref 258)), (@PySem.DictEntry.mk (@PySem.PyData.keyHash P (@PySem.Str.ofString "__weakref__")) (@PySem.Value.str (@PySem.Str.ofString "__weakref__") 515) (@PySem.Value.ref 259)), (@PySem.DictEntry.mk (@PySem.PyData.keyHash P (@PySem.Str.ofString "__doc__")) (@PySem.Value.str (@PySem.Str.ofString "__doc__") 516) PySem.Value.none)]) 4) (@List.toArray (@Option PySem.Value) []))
noncomputable def o303 (P : Params) : Obj := (@PySem.Obj.mk (@PySem.Value.type "type") (@Option.none Nat) (@PySem.Data.cls (@PySem.ClassData.mk (@PySem.Str.ofString "PageStore") [(@PySem.Value.type "object")] [(@PySem.Value.ref 257), (@PySem.Value.type "object")] 256 (@PySem.Str.ofString "PageStore") Bool.true [] [] Bool.false (@Option.none Bool) Bool.false)) (@List.toArray (@Option PySem.Value) [(@Option.none PySem.Value), (@Option.none PySem.Value), (@Option.some PySem.Value (@PySem.Value.str (@PySem.Str.ofString "PageStore") 442)), (@Option.some PySem.Value (@PySem.Value.str (@PySem.Str.ofString "PageStore") 450)), (@Option.some PySem.Value (@PySem.Value.builtin "object.__new__")), (@Option.some PySem.Value (@PySem.Value.bool Bool.true))]))
noncomputable def o304 (P : Params) : Obj := (@PySem.Obj.mk (@PySem.Value.type "getset_descriptor") (@Option.none Nat) (@PySem.Data.fields (@List.toArray PySem.Value [(@PySem.Value.str (@PySem.Str.ofString "__dict__") 512), (@PySem.Value.ref 257), (@PySem.Value.builtin "function.__dict__"), (@PySem.Value.builtin "function.__dict__#set")])) (@List.toArray (@Option PySem.Value) []))
noncomputable def o305 (P : Params) : Obj := (@PySem.Obj.mk (@PySem.Value.type "getset_descriptor") (@Option.none Nat) (@PySem.Data.fields (@List.toArray PySem.Value [(@PySem.Value.str (@PySem.Str.ofString "__weakref__") 514), (@PySem.Value.ref 257), (@PySem.Value.builtin "ExceptionGroup.__weakref__"), PySem.Value.none])) (@List.toArray (@Option PySem.Value) []))
noncomputable def o306 (P : Params) : Obj := (@PySem.Obj.mk (@PySem.Value.type "super") (@Option.none Nat) (@PySem.Data.fields (@List.toArray PySem.Value [(@PySem.Value.ref 257), (@PySem.Value.ref 257), (@PySem.Value.ref 257)])) (@List.toArray (@Option PySem.Value) []))
noncomputable def o307 (P : Params) : Obj := (@PySem.Obj.mk (@PySem.Value.type "builtin_function_or_method") (@Option.none Nat) (@PySem.Data.fields (@List.toArray PySem.Value [(@PySem.Value.builtin "object.__init_subclass__"), (@PySem.Value.ref 257)])) (@List.toArray (@Option PySem.Value) []))
noncomputable def tree307 (P : Params) : BT := (@PySem.W.BT.node (@PySem.W.boot_o_0 P) (@PySem.W.BT.node (@PySem.W.boot_o_1 P) (@PySem.W.BT.node (@o243 P) (@PySem.W.BT.node (@PySem.W.boot_o_7 P) (@PySem.W.BT.node (@o52 P) (@PySem.W.BT.node (@o68 P) (@PySem.W.BT.node (@o103 P) (@PySem.W.BT.node (@o169 P) (@PySem.W.BT.node (@o301 P) PySem.W.BT.nil PySem.W.BT.nil) PySem.W.BT.nil) (@PySem.W.BT.node (@o235 P) PySem.W.BT.nil PySem.W.BT.nil)) (@PySem.W.BT.node (@o137 P) (@PySem.W.BT.node (@o201 P) PySem.W.BT.nil PySem.W.BT.nil) (@PySem.W.BT.node (@o269 P) PySem.W.BT.nil PySem.W.BT.nil))) (@PySem.W.BT.node (@o84 P) (@PySem.W.BT.node (@o119 P) (@PySem.W.BT.node (@o185 P) PySem.W.BT.nil PySem.W.BT.nil) (@PySem.W.BT.node (@o253 P) PySem.W.BT.nil PySem.W.BT.nil)) (@PySem.W.BT.node (@o153 P) (@PySem.W.BT.node (@o219 P) PySem.W.BT.nil PySem.W.BT.nil) (@PySem.W.BT.node (@o285 P) PySem.W.BT.nil PySem.W.BT.nil)))) (@PySem.W.BT.node (@o60 P) (@PySem.W.BT.node (@o76 P) (@PySem.W.BT.node (@o111 P) (@PySem.W.BT.node (@o177 P) PySem.W.BT.nil PySem.W.BT.nil) (@PySem.W.BT.node (@o245 P) PySem.W.BT.nil PySem.W.BT.nil)) (@PySem.W.BT.node (@o145 P) (@PySem.W.BT.node (@o211 P) PySem.W.BT.nil PySem.W.BT.nil) (@PySem.W.BT.node (@o277 P) PySem.W.BT.nil PySem.W.BT.nil))) (@PySem.W.BT.node (@o95 P) (@PySem.W.BT.node (@o127 P) (@PySem.W.BT.node (@o193 P) PySem.W.BT.nil PySem.W.BT.nil) (@PySem.W.BT.node (@o261 P) PySem.W.BT.nil PySem.W.BT.nil)) (@PySem.W.BT.node (@o161 P) (@PySem.W.BT.node (@o227 P) PySem.W.BT.nil PySem.W.BT.nil) (@PySem.W.BT.node (@o293 P) PySem.W.BT.nil PySem.W.BT.nil))))) (@PySem.W.BT.node (@o43 P) (@PySem.W.BT.node (@o56 P) (@PySem.W.BT.node (@o72 P) (@PySem.W.BT.node (@o107 P) (@PySem.W.BT.node (@o173 P) (@PySem.W.BT.node (@o305 P) PySem.W.BT.nil PySem.W.BT.nil) PySem.W.BT.nil) (@PySem.W.BT.node (@o239 P) PySem.W.BT.nil PySem.W.BT.nil)) (@PySem.W.BT.node (@o141 P) (@PySem.W.BT.node (@o205 P) PySem.W.BT.nil PySem.W.BT.nil) (@PySem.W.BT.node (@o273 P) PySem.W.BT.nil PySem.W.BT.nil))) (@PySem.W.BT.node (@o91 P) (@PySem.W.BT.node (@o123 P) (@PySem.W.BT.node (@o189 P) PySem.W.BT.nil PySem.W.BT.nil) (@PySem.W.BT.node (@o257 P) PySem.W.BT.nil PySem.W.BT.nil)) (@PySem.W.BT.node (@o157 P) (@PySem.W.BT.node (@o223 P) PySem.W.BT.nil PySem.W.BT.nil) (@PySem.W.BT.node (@o289 P) PySem.W.BT.nil PySem.W.BT.nil)))) (@PySem.W.BT.node (@o64 P) (@PySem.W.BT.node (@o80 P) (@PySem.W.BT.node (@o115 P) (@PySem.W.BT.node (@o181 P) PySem.W.BT.nil PySem.W.BT.nil) (@PySem.W.BT.node (@o249 P) PySem.W.BT.nil PySem.W.BT.nil)) (@PySem.W.BT.node (@o149 P) (@PySem.W.BT.node (@o215 P) PySem.W.BT.nil PySem.W.BT.nil) (@PySem.W.BT.node (@o281 P) PySem.W.BT.nil PySem.W.BT.nil))) (@PySem.W.BT.node (@o99 P) (@PySem.W.BT.node (@o133 P) (@PySem.W.BT.node (@o197 P) PySem.W.BT.nil PySem.W.BT.nil) (@PySem.W.BT.node (@o265 P) PySem.W.BT.nil PySem.W.BT.nil)) (@PySem.W.BT.node (@o165 P) (@PySem.W.BT.node (@o231 P) PySem.W.BT.nil PySem.W.BT.nil) (@PySem.W.BT.node (@o297 P) PySem.W.BT.nil PySem.W.BT.nil)))))) (@PySem.W.BT.node (@PySem.W.boot_o_5 P) (@PySem.W.BT.node (@PySem.W.boot_o_9 P) (@PySem.W.BT.node (@o54 P) (@PySem.W.BT.node (@o70 P) (@PySem.W.BT.node (@o105 P) (@PySem.W.BT.node (@o171 P) (@PySem.W.BT.node (@o303 P) PySem.W.BT.nil PySem.W.BT.nil) PySem.W.BT.nil) (@PySem.W.BT.node (@o237 P) PySem.W.BT.nil PySem.W.BT.nil)) (@PySem.W.BT.node (@o139 P) (@PySem.W.BT.node (@o203 P) PySem.W.BT.nil PySem.W.BT.nil) (@PySem.W.BT.node (@o271 P) PySem.W.BT.nil PySem.W.BT.nil))) (@PySem.W.BT.node (@o89 P) (@PySem.W.BT.node (@o121 P) (@PySem.W.BT.node (@o187 P) PySem.W.BT.nil PySem.W.BT.nil) (@PySem.W.BT.node (@o255 P) PySem.W.BT.nil PySem.W.BT.nil)) (@PySem.W.BT.node (@o155 P) (@PySem.W.BT.node (@o221 P) PySem.W.BT.nil PySem.W.BT.nil) (@PySem.W.BT.node (@o287 P) PySem.W.BT.nil PySem.W.BT.nil)))) (@PySem.W.BT.node (@o62 P) (@PySem.W.BT.node (@o78 P) (@PySem.W.BT.node (@o113 P) (@PySem.W.BT.node (@o179 P) PySem.W.BT.nil PySem.W.BT.nil) (@PySem.W.BT.node (@o247 P) PySem.W.BT.nil PySem.W.BT.nil)) (@PySem.W.BT.node (@o147 P) (@PySem.W.BT.node (@o213 P) PySem.W.BT.nil PySem.W.BT.nil) (@PySem.W.BT.node (@o279 P) PySem.W.BT.nil PySem.W.BT.nil))) (@PySem.W.BT.node (@o97 P) (@PySem.W.BT.node (@o131 P) (@PySem.W.BT.node (@o195 P) PySem.W.BT.nil PySem.W.BT.nil) (@PySem.W.BT.node (@o263 P) PySem.W.BT.nil PySem.W.BT.nil)) (@PySem.W.BT.node (@o163 P) (@PySem.W.BT.node (@o229 P) PySem.W.BT.nil PySem.W.BT.nil) (@PySem.W.BT.node (@o295 P) PySem.W.BT.nil PySem.W.BT.nil))))) (@PySem.W.BT.node (@o45 P) (@PySem.W.BT.node (@o58 P) (@PySem.W.BT.node (@o74 P) (@PySem.W.BT.node (@o109 P) (@PySem.W.BT.node (@o175 P) (@PySem.W.BT.node (@o307 P) PySem.W.BT.nil PySem.W.BT.nil) PySem.W.BT.nil) (@PySem.W.BT.node (@o241 P) PySem.W.BT.nil PySem.W.BT.nil)) (@PySem.W.BT.node (@o143 P) (@PySem.W.BT.node (@o209 P) PySem.W.BT.nil PySem.W.BT.nil) (@PySem.W.BT.node (@o275 P) PySem.W.BT.nil PySem.W.BT.nil))) (@PySem.W.BT.node (@o93 P) (@PySem.W.BT.node (@o125 P) (@PySem.W.BT.node (@o191 P) PySem.W.BT.nil PySem.W.BT.nil) (@PySem.W.BT.node (@o259 P) PySem.W.BT.nil PySem.W.BT.nil)) (@PySem.W.BT.node (@o159 P) (@PySem.W.BT.node (@o225 P) PySem.W.BT.nil PySem.W.BT.nil) (@PySem.W.BT.node (@o291 P) PySem.W.BT.nil PySem.W.BT.nil)))) (@PySem.W.BT.node (@o66 P) (@PySem.W.BT.node (@o88 P) (@PySem.W.BT.node (@o117 P) (@PySem.W.BT.node (@o183 P) PySem.W.BT.nil PySem.W.BT.nil) (@PySem.W.BT.node (@o251 P) PySem.W.BT.nil PySem.W.BT.nil)) (@PySem.W.BT.node (@o151 P) (@PySem.W.BT.node (@o217 P) PySem.W.BT.nil PySem.W.BT.nil) (@PySem.W.BT.node (@o283 P) PySem.W.BT.nil PySem.W.BT.nil))) (@PySem.W.BT.node (@o101 P) (@PySem.W.BT.node (@o135 P) (@PySem.W.BT.node (@o199 P) PySem.W.BT.nil PySem.W.BT.nil) (@PySem.W.BT.node (@o267 P) PySem.W.BT.nil PySem.W.BT.nil)) (@PySem.W.BT.node (@o167 P) (@PySem.W.BT.node (@o233 P) PySem.W.BT.nil PySem.W.BT.nil) (@PySem.W.BT.node (@o299 P) PySem.W.BT.nil PySem.W.BT.nil))))))) (@PySem.W.BT.node (@o49 P) (@PySem.W.BT.node (@PySem.W.boot_o_4 P) (@PySem.W.BT.node (@PySem.W.boot_o_8 P) (@PySem.W.BT.node (@o53 P) (@PySem.W.BT.node (@o69 P) (@PySem.W.BT.node (@o104 P) (@PySem.W.BT.node (@o170 P) (@PySem.W.BT.node (@o302 P) PySem.W.BT.nil PySem.W.BT.nil) PySem.W.BT.nil) (@PySem.W.BT.node (@o236 P) PySem.W.BT.nil PySem.W.BT.nil)) (@PySem.W.BT.node (@o138 P) (@PySem.W.BT.node (@o202 P) PySem.W.BT.nil PySem.W.BT.nil) (@PySem.W.BT.node (@o270 P) PySem.W.BT.nil PySem.W.BT.nil))) (@PySem.W.BT.node (@o85 P) (@PySem.W.BT.node (@o120 P) (@PySem.W.BT.node (@o186 P) PySem.W.BT.nil PySem.W.BT.nil) (@PySem.W.BT.node (@o254 P) PySem.W.BT.nil PySem.W.BT.nil)) (@PySem.W.BT.node (@o154 P) (@PySem.W.BT.node (@o220 P) PySem.W.BT.nil PySem.W.BT.nil) (@PySem.W.BT.node (@o286 P) PySem.W.BT.nil PySem.W.BT.nil)))) (@PySem.W.BT.node (@o61 P) (@PySem.W.BT.node (@o77 P) (@PySem.W.BT.node (@o112 P) (@PySem.W.BT.node (@o178 P) PySem.W.BT.nil PySem.W.BT.nil) (@PySem.W.BT.node (@o246 P) PySem.W.BT.nil PySem.W.BT.nil)) (@PySem.W.BT.node (@o146 P) (@PySem.W.BT.node (@o212 P) PySem.W.BT.nil PySem.W.BT.nil) (@PySem.W.BT.node (@o278 P) PySem.W.BT.nil PySem.W.BT.nil))) (@PySem.W.BT.node (@o96 P) (@PySem.W.BT.node (@o128 P) (@PySem.W.BT.node (@o194 P) PySem.W.BT.nil PySem.W.BT.nil) (@PySem.W.BT.node (@o262 P) PySem.W.BT.nil PySem.W.BT.nil)) (@PySem.W.BT.node (@o162 P) (@PySem.W.BT.node (@o228 P) PySem.W.BT.nil PySem.W.BT.nil) (@PySem.W.BT.node (@o294 P) PySem.W.BT.nil PySem.W.BT.nil))))) (@PySem.W.BT.node (@o244 P) (@PySem.W.BT.node (@o57 P) (@PySem.W.BT.node (@o73 P) (@PySem.W.BT.node (@o108 P) (@PySem.W.BT.node (@o174 P) (@PySem.W.BT.node (@o306 P) PySem.W.BT.nil PySem.W.BT.nil) PySem.W.BT.nil) (@PySem.W.BT.node (@o240 P) PySem.W.BT.nil PySem.W.BT.nil)) (@PySem.W.BT.node (@o142 P) (@PySem.W.BT.node (@o208 P) PySem.W.BT.nil PySem.W.BT.nil) (@PySem.W.BT.node (@o274 P) PySem.W.BT.nil PySem.W.BT.nil))) (@PySem.W.BT.node (@o92 P) (@PySem.W.BT.node (@o124 P) (@PySem.W.BT.node (@o190 P) PySem.W.BT.nil PySem.W.BT.nil) (@PySem.W.BT.node (@o258 P) PySem.W.BT.nil PySem.W.BT.nil)) (@PySem.W.BT.node (@o158 P) (@PySem.W.BT.node (@o224 P) PySem.W.BT.nil PySem.W.BT.nil) (@PySem.W.BT.node (@o290 P) PySem.W.BT.nil PySem.W.BT.nil)))) (@PySem.W.BT.node (@o65 P) (@PySem.W.BT.node (@o81 P) (@PySem.W.BT.node (@o116 P) (@PySem.W.BT.node (@o182 P) PySem.W.BT.nil PySem.W.BT.nil) (@PySem.W.BT.node (@o250 P) PySem.W.BT.nil PySem.W.BT.nil)) (@PySem.W.BT.node (@o150 P) (@PySem.W.BT.node (@o216 P) PySem.W.BT.nil PySem.W.BT.nil) (@PySem.W.BT.node (@o282 P) PySem.W.BT.nil PySem.W.BT.nil))) (@PySem.W.BT.node (@o100 P) (@PySem.W.BT.node (@o134 P) (@PySem.W.BT.node (@o198 P) PySem.W.BT.nil PySem.W.BT.nil) (@PySem.W.BT.node (@o266 P) PySem.W.BT.nil PySem.W.BT.nil)) (@PySem.W.BT.node (@o166 P) (@PySem.W.BT.node (@o232 P) PySem.W.BT.nil PySem.W.BT.nil) (@PySem.W.BT.node (@o298 P) PySem.W.BT.nil PySem.W.BT.nil)))))) (@PySem.W.BT.node (@PySem.W.boot_o_6 P) (@PySem.W.BT.node (@PySem.W.boot_o_10 P) (@PySem.W.BT.node (@o55 P) (@PySem.W.BT.node (@o71 P) (@PySem.W.BT.node (@o106 P) (@PySem.W.BT.node (@o172 P) (@PySem.W.BT.node (@o304 P) PySem.W.BT.nil PySem.W.BT.nil) PySem.W.BT.nil) (@PySem.W.BT.node (@o238 P) PySem.W.BT.nil PySem.W.BT.nil)) (@PySem.W.BT.node (@o140 P) (@PySem.W.BT.node (@o204 P) PySem.W.BT.nil PySem.W.BT.nil) (@PySem.W.BT.node (@o272 P) PySem.W.BT.nil PySem.W.BT.nil))) (@PySem.W.BT.node (@o90 P) (@PySem.W.BT.node (@o122 P) (@PySem.W.BT.node (@o188 P) PySem.W.BT.nil PySem.W.BT.nil) (@PySem.W.BT.node (@o256 P) PySem.W.BT.nil PySem.W.BT.nil)) (@PySem.W.BT.node (@o156 P) (@PySem.W.BT.node (@o222 P) PySem.W.BT.nil PySem.W.BT.nil) (@PySem.W.BT.node (@o288 P) PySem.W.BT.nil PySem.W.BT.nil)))) (@PySem.W.BT.node (@o63 P) (@PySem.W.BT.node (@o79 P) (@PySem.W.BT.node (@o114 P) (@PySem.W.BT.node (@o180 P) PySem.W.BT.nil PySem.W.BT.nil) (@PySem.W.BT.node (@o248 P) PySem.W.BT.nil PySem.W.BT.nil)) (@PySem.W.BT.node (@o148 P) (@PySem.W.BT.node (@o214 P) PySem.W.BT.nil PySem.W.BT.nil) (@PySem.W.BT.node (@o280 P) PySem.W.BT.nil PySem.W.BT.nil))) (@PySem.W.BT.node (@o98 P) (@PySem.W.BT.node (@o132 P) (@PySem.W.BT.node (@o196 P) PySem.W.BT.nil PySem.W.BT.nil) (@PySem.W.BT.node (@o264 P) PySem.W.BT.nil PySem.W.BT.nil)) (@PySem.W.BT.node (@o164 P) (@PySem.W.BT.node (@o230 P) PySem.W.BT.nil PySem.W.BT.nil) (@PySem.W.BT.node (@o296 P) PySem.W.BT.nil PySem.W.BT.nil))))) (@PySem.W.BT.node (@o46 P) (@PySem.W.BT.node (@o59 P) (@PySem.W.BT.node (@o75 P) (@PySem.W.BT.node (@o110 P) (@PySem.W.BT.node (@o176 P) PySem.W.BT.nil PySem.W.BT.nil) (@PySem.W.BT.node (@o242 P) PySem.W.BT.nil PySem.W.BT.nil)) (@PySem.W.BT.node (@o144 P) (@PySem.W.BT.node (@o210 P) PySem.W.BT.nil PySem.W.BT.nil) (@PySem.W.BT.node (@o276 P) PySem.W.BT.nil PySem.W.BT.nil))) (@PySem.W.BT.node (@o94 P) (@PySem.W.BT.node (@o126 P) (@PySem.W.BT.node (@o192 P) PySem.W.BT.nil PySem.W.BT.nil) (@PySem.W.BT.node (@o260 P) PySem.W.BT.nil PySem.W.BT.nil)) (@PySem.W.BT.node (@o160 P) (@PySem.W.BT.node (@o226 P) PySem.W.BT.nil PySem.W.BT.nil) (@PySem.W.BT.node (@o292 P) PySem.W.BT.nil PySem.W.BT.nil)))) (@PySem.W.BT.node (@o67 P) (@PySem.W.BT.node (@o83 P) (@PySem.W.BT.node (@o118 P) (@PySem.W.BT.node (@o184 P) PySem.W.BT.nil PySem.W.BT.nil) (@PySem.W.BT.node (@o252 P) PySem.W.BT.nil PySem.W.BT.nil)) (@PySem.W.BT.node (@o152 P) (@PySem.W.BT.node (@o218 P) PySem.W.BT.nil PySem.W.BT.nil) (@PySem.W.BT.node (@o284 P) PySem.W.BT.nil PySem.W.BT.nil))) (@PySem.W.BT.node (@o102 P) (@PySem.W.BT.node (@o136 P) (@PySem.W.BT.node (@o200 P) PySem.W.BT.nil PySem.W.BT.nil) (@PySem.W.BT.node (@o268 P) PySem.W.BT.nil PySem.W.BT.nil)) (@PySem.W.BT.node (@o168 P) (@PySem.W.BT.node (@o234 P) PySem.W.BT.nil PySem.W.BT.nil) (@PySem.W.BT.node (@o300 P) PySem.W.BT.nil PySem.W.BT.nil))))))))
noncomputable def o308 (P : Params) : Obj := (@PySem.Obj.mk (@PySem.Value.type "dict") (@Option.none Nat) (@PySem.Data.dict (@List.toArray PySem.DictEntry [(@PySem.DictEntry.mk (@PySem.PyData.keyHash P (@PySem.Str.ofString "__name__")) (@PySem.Value.str (@PySem.Str.ofString "__name__") 165) (@PySem.Value.str (@PySem.Str.ofString "law_xm0755_01") 567)), (@PySem.DictEntry.mk (@PySem.PyData.keyHash P (@PySem.Str.ofString "__doc__")) (@PySem.Value.str (@PySem.Str.ofString "__doc__") 166) PySem.Value.none), (@PySem.DictEntry.mk (@PySem.PyData.keyHash P (@PySem.Str.ofString "__package__")) (@PySem.Value.str (@PySem.Str.ofString "__package__") 167) PySem.Value.none), (@PySem.DictEntry.mk (@PySem.PyData.keyHash P (@PySem.Str.ofString "__loader__")) (@PySem.Value.str (@PySem.Str.ofString "__loader__") 168) (loaderV P)), (@PySem.DictEntry.mk (@PySem.PyData.keyHash P (@PySem.Str.ofString "__spec__")) (@PySem.Value.str (@PySem.Str.ofString "__spec__") 169) PySem.Value.none), (@PySem.DictEntry.mk (@PySem.PyData.keyHash P (@PySem.Str.ofString "__annotations__")) (@PySem.Value.str (@PySem.Str.ofString "__annotations__") 170) (@PySem.Value.ref 6)), (@PySem.DictEntry.mk (@PySem.PyData.keyHash P (@PySem.Str.ofString "__builtins__")) (@PySem.Value.str (@PySem.Str.ofString "__builtins__") 171) (@PySem.Value.ref 4)), (@PySem.DictEntry.mk (@PySem.PyData.keyHash P (@PySem.Str.ofString "__file__")) (@PySem.Value.str (@PySem.Str.ofString "__file__") 173) (@PySem.Value.str (@PySem.Str.ofString "/claim/cut.py") 172)), (@PySem.DictEntry.mk (@PySem.PyData.keyHash P (@PySem.Str.ofString "__cached__")) (@PySem.Value.str (@PySem.Str.ofString "__cached__") 174) PySem.Value.none), (@PySem.DictEntry.mk (@PySem.PyData.keyHash P (@PySem.Str.ofString "_wall")) (@PySem.Value.str (@PySem.Str.ofString "_wall") 193) (@PySem.Value.ref 21)), (@PySem.DictEntry.mk (@PySem.PyData.keyHash P (@PySem.Str.ofString "CHAIN_HEAD")) (@PySem.Value.str (@PySem.Str.ofString "CHAIN_HEAD") 197) (@PySem.Value.int 4 196)), (@PySem.DictEntry.mk (@PySem.PyData.keyHash P (@PySem.Str.ofString "chain_length")) (@PySem.Value.str (@PySem.Str.ofString "chain_length") 206) (@PySem.Value.ref 28)), (@PySem.DictEntry.mk (@PySem.PyData.keyHash P (@PySem.Str.ofString "PagebaseError")) (@PySem.Value.str (@PySem.Str.ofString "PagebaseError") 237) (@PySem.Value.ref 45)), (@PySem.DictEntry.mk (@PySem.PyData.keyHash P (@PySem.Str.ofString "CorruptError")) (@PySem.Value.str (@PySem.Str.ofString "CorruptError") 253) (@PySem.Value.ref 58)), (@PySem.DictEntry.mk (@PySem.PyData.keyHash P (@PySem.Str.ofString "HEADER_SIZE")) (@PySem.Value.str (@PySem.Str.ofString "HEADER_SIZE") 255) (@PySem.Value.int 32 254)), (@PySem.DictEntry.mk (@PySem.PyData.keyHash P (@PySem.Str.ofString "LEAF_KEYS")) (@PySem.Value.str (@PySem.Str.ofString "LEAF_KEYS") 259) (@PySem.Value.int 10 258)), (@PySem.DictEntry.mk (@PySem.PyData.keyHash P (@PySem.Str.ofString "LEAF_ROWS")) (@PySem.Value.str (@PySem.Str.ofString "LEAF_ROWS") 261) (@PySem.Value.int 13 260)), (@PySem.DictEntry.mk (@PySem.PyData.keyHash P (@PySem.Str.ofString "LEAST_CELL")) (@PySem.Value.str (@PySem.Str.ofString "LEAST_CELL") 263) (@PySem.Value.int 4 262)), (@PySem.DictEntry.mk (@PySem.PyData.keyHash P (@PySem.Str.ofString "two_at")) (@PySem.Value.str (@PySem.Str.ofString "two_at") 271) (@PySem.Value.ref 67)), (@PySem.DictEntry.mk (@PySem.PyData.keyHash P (@PySem.Str.ofString "four_at")) (@PySem.Value.str (@PySem.Str.ofString "four_at") 279) (@PySem.Value.ref 74)), (@PySem.DictEntry.mk (@PySem.PyData.keyHash P (@PySem.Str.ofString "put_two")) (@PySem.Value.str (@PySem.Str.ofString "put_two") 288) (@PySem.Value.ref 81)), (@PySem.DictEntry.mk (@PySem.PyData.keyHash P (@PySem.Str.ofString "put_four")) (@PySem.Value.str (@PySem.Str.ofString "put_four") 297) (@PySem.Value.ref 88)), (@PySem.DictEntry.mk (@PySem.PyData.keyHash P (@PySem.Str.ofString "four_octets")) (@PySem.Value.str (@PySem.Str.ofString "four_octets") 305) (@PySem.Value.ref 95)), (@PySem.DictEntry.mk (@PySem.PyData.keyHash P (@PySem.Str.ofString "is_leaf")) (@PySem.Value.str (@PySem.Str.ofString "is_leaf") 312) (@PySem.Value.ref 102)), (@PySem.DictEntry.mk (@PySem.PyData.keyHash P (@PySem.Str.ofString "head_size")) (@PySem.Value.str (@PySem.Str.ofString "head_size") 319) (@PySem.Value.ref 109)), (@PySem.DictEntry.mk (@PySem.PyData.keyHash P (@PySem.Str.ofString "get_varint")) (@PySem.Value.str (@PySem.Str.ofString "get_varint") 332) (@PySem.Value.ref 116)), (@PySem.DictEntry.mk (@PySem.PyData.keyHash P (@PySem.Str.ofString "POINTER")) (@PySem.Value.str (@PySem.Str.ofString "POINTER") 336) (@PySem.Value.int 2 335)), (@PySem.DictEntry.mk (@PySem.PyData.keyHash P (@PySem.Str.ofString "cost")) (@PySem.Value.str (@PySem.Str.ofString "cost") 343) (@PySem.Value.ref 123)), (@PySem.DictEntry.mk (@PySem.PyData.keyHash P (@PySem.Str.ofString "total")) (@PySem.Value.str (@PySem.Str.ofString "total") 349) (@PySem.Value.ref 128)), (@PySem.DictEntry.mk (@PySem.PyData.keyHash P (@PySem.Str.ofString "base_of")) (@PySem.Value.str (@PySem.Str.ofString "base_of") 356) (@PySem.Value.ref 135)), (@PySem.DictEntry.mk (@PySem.PyData.keyHash P (@PySem.Str.ofString "capacity")) (@PySem.Value.str (@PySem.Str.ofString "capacity") 365) (@PySem.Value.ref 142)), (@PySem.DictEntry.mk (@PySem.PyData.keyHash P (@PySem.Str.ofString "child_of")) (@PySem.Value.str (@PySem.Str.ofString "child_of") 372) (@PySem.Value.ref 149)), (@PySem.DictEntry.mk (@PySem.PyData.keyHash P (@PySem.Str.ofString "with_child")) (@PySem.Value.str (@PySem.Str.ofString "with_child") 380) (@PySem.Value.ref 156)), (@PySem.DictEntry.mk (@PySem.PyData.keyHash P (@PySem.Str.ofString "leaf_rowid")) (@PySem.Value.str (@PySem.Str.ofString "leaf_rowid") 390) (@PySem.Value.ref 163)), (@PySem.DictEntry.mk (@PySem.PyData.keyHash P (@PySem.Str.ofString "Content")) (@PySem.Value.str (@PySem.Str.ofString "Content") 430) (@PySem.Value.ref 187)), (@PySem.DictEntry.mk (@PySem.PyData.keyHash P (@PySem.Str.ofString "fits")) (@PySem.Value.str (@PySem.Str.ofString "fits") 439) (@PySem.Value.ref 198)), (@PySem.DictEntry.mk (@PySem.PyData.keyHash P (@PySem.Str.ofString "PageStore")) (@PySem.Value.str (@PySem.Str.ofString "PageStore") 518) (@PySem.Value.ref 257)), (@PySem.DictEntry.mk (@PySem.PyData.keyHash P (@PySem.Str.ofString "Store")) (@PySem.Value.str (@PySem.Str.ofString "Store") 566) (@PySem.Value.ref 299)), (@PySem.DictEntry.mk (@PySem.PyData.keyHash P (@PySem.Str.ofString "_law_pool")) (@PySem.Value.str (@PySem.Str.ofString "_law_pool") 579) (@PySem.Value.ref 308))]) 39) (@List.toArray (@Option PySem.Value) []))
noncomputable def o309 (P : Params) : Obj := (@PySem.Obj.mk PySem.Value.none (@Option.none Nat) (@PySem.Data.fields (@List.toArray PySem.Value [(@PySem.Value.int 1 0), (@PySem.Value.int 0 0), (@PySem.Value.ref 20), (@PySem.Value.int 6 0), (@PySem.Value.int 0 0), (@PySem.Value.ref 27), (@PySem.Value.int 10 0), (@PySem.Value.int 0 0), (@PySem.Value.ref 34), (@PySem.Value.int 14 0), (@PySem.Value.int 0 0), (@PySem.Value.ref 54), (@PySem.Value.int 21 0), (@PySem.Value.int 0 0), (@PySem.Value.ref 66), (@PySem.Value.int 23 0), (@PySem.Value.int 0 0), (@PySem.Value.ref 73), (@PySem.Value.int 25 0), (@PySem.Value.int 0 0), (@PySem.Value.ref 80), (@PySem.Value.int 28 0), (@PySem.Value.int 0 0), (@PySem.Value.ref 87), (@PySem.Value.int 31 0), (@PySem.Value.int 0 0), (@PySem.Value.ref 94), (@PySem.Value.int 35 0), (@PySem.Value.int 0 0), (@PySem.Value.ref 101), (@PySem.Value.int 37 0), (@PySem.Value.int 0 0), (@PySem.Value.ref 108), (@PySem.Value.int 42 0), (@PySem.Value.int 0 0), (@PySem.Value.ref 115), (@PySem.Value.int 57 0), (@PySem.Value.int 0 0), (@PySem.Value.ref 122), (@PySem.Value.int 59 0), (@PySem.Value.int 0 0), (@PySem.Value.ref 127), (@PySem.Value.int 61 0), (@PySem.Value.int 0 0), (@PySem.Value.ref 134), (@PySem.Value.int 63 0), (@PySem.Value.int 0 0), (@PySem.Value.ref 141), (@PySem.Value.int 65 0), (@PySem.Value.int 0 0), (@PySem.Value.ref 148), (@PySem.Value.int 67 0), (@PySem.Value.int 0 0), (@PySem.Value.ref 155), (@PySem.Value.int 69 0), (@PySem.Value.int 0 0), (@PySem.Value.ref 162), (@PySem.Value.int 73 0), (@PySem.Value.int 0 0), (@PySem.Value.ref 169), (@PySem.Value.int 82 0), (@PySem.Value.int 0 0), (@PySem.Value.ref 197), (@PySem.Value.int 85 0), (@PySem.Value.int 0 0), (@PySem.Value.ref 204), (@PySem.Value.int 112 0), (@PySem.Value.int 0 0), (@PySem.Value.ref 267), (@PySem.Value.int 126 0), (@PySem.Value.int 0 0), (@PySem.Value.ref 307)])) (@List.toArray (@Option PySem.Value) []))
noncomputable def o310 (P : Params) : Obj := (@PySem.Obj.mk (@PySem.Value.type "type") (@Option.none Nat) (@PySem.Data.cls (@PySem.ClassData.mk (@PySem.Str.ofString "PageStore") [(@PySem.Value.type "object")] [(@PySem.Value.ref 257), (@PySem.Value.type "object")] 256 (@PySem.Str.ofString "PageStore") Bool.true [] [(@PySem.Value.ref 299)] Bool.false (@Option.none Bool) Bool.false)) (@List.toArray (@Option PySem.Value) [(@Option.none PySem.Value), (@Option.none PySem.Value), (@Option.some PySem.Value (@PySem.Value.str (@PySem.Str.ofString "PageStore") 442)), (@Option.some PySem.Value (@PySem.Value.str (@PySem.Str.ofString "PageStore") 450)), (@Option.some PySem.Value (@PySem.Value.builtin "object.__new__")), (@Option.some PySem.Value (@PySem.Value.bool Bool.true))]))
noncomputable def o311 (P : Params) : Obj := (@PySem.Obj.mk (@PySem.Value.type "tuple") (@Option.none Nat) (@PySem.Data.seq (@List.toArray PySem.Value [(@PySem.Value.ref 257)]) 0) (@List.toArray (@Option PySem.Value) []))
noncomputable def o312 (P : Params) : Obj := (@PySem.Obj.mk (@PySem.Value.type "builtin_function_or_method") (@Option.none Nat) (@PySem.Data.fields (@List.toArray PySem.Value [(@PySem.Value.builtin "type.__prepare__"), (@PySem.Value.type "type")])) (@List.toArray (@Option PySem.Value) []))
noncomputable def o313 (P : Params) : Obj := (@PySem.Obj.mk (@PySem.Value.type "dict") (@Option.none Nat) (@PySem.Data.dict (@List.toArray PySem.DictEntry [(@PySem.DictEntry.mk (@PySem.PyData.keyHash P (@PySem.Str.ofString "__module__")) (@PySem.Value.str (@PySem.Str.ofString "__module__") 526) (@PySem.Value.str (@PySem.Str.ofString "pagebase.store") 440)), (@PySem.DictEntry.mk (@PySem.PyData.keyHash P (@PySem.Str.ofString "__qualname__")) (@PySem.Value.str (@PySem.Str.ofString "__qualname__") 528) (@PySem.Value.str (@PySem.Str.ofString "Store") 527)), (@PySem.DictEntry.mk (@PySem.PyData.keyHash P (@PySem.Str.ofString "__firstlineno__")) (@PySem.Value.str (@PySem.Str.ofString "__firstlineno__") 530) (@PySem.Value.int 112 529)), (@PySem.DictEntry.mk (@PySem.PyData.keyHash P (@PySem.Str.ofString "write_page")) (@PySem.Value.str (@PySem.Str.ofString "write_page") 539) (@PySem.Value.ref 275)), (@PySem.DictEntry.mk (@PySem.PyData.keyHash P (@PySem.Str.ofString "truncate")) (@PySem.Value.str (@PySem.Str.ofString "truncate") 547) (@PySem.Value.ref 282)), (@PySem.DictEntry.mk (@PySem.PyData.keyHash P (@PySem.Str.ofString "read_header")) (@PySem.Value.str (@PySem.Str.ofString "read_header") 554) (@PySem.Value.ref 289)), (@PySem.DictEntry.mk (@PySem.PyData.keyHash P (@PySem.Str.ofString "write_header")) (@PySem.Value.str (@PySem.Str.ofString "write_header") 562) (@PySem.Value.ref 296)), (@PySem.DictEntry.mk (@PySem.PyData.keyHash P (@PySem.Str.ofString "__static_attributes__")) (@PySem.Value.str (@PySem.Str.ofString "__static_attributes__") 563) (@PySem.Value.ref 297))]) 8) (@List.toArray (@Option PySem.Value) []))
noncomputable def o314 (P : Params) : Obj := (@PySem.Obj.mk (@PySem.Value.type "tuple") (@Option.none Nat) (@PySem.Data.seq (@List.toArray PySem.Value []) 0) (@List.toArray (@Option PySem.Value) []))
noncomputable def o315 (P : Params) : Obj := (@PySem.Obj.mk PySem.Value.none (@Option.none Nat) (@PySem.Data.fields (@List.toArray PySem.Value [(@PySem.Value.int 114 0), (@PySem.Value.int 4 0), (@PySem.Value.ref 274), (@PySem.Value.int 117 0), (@PySem.Value.int 4 0), (@PySem.Value.ref 281), (@PySem.Value.int 120 0), (@PySem.Value.int 4 0), (@PySem.Value.ref 288), (@PySem.Value.int 123 0), (@PySem.Value.int 4 0), (@PySem.Value.ref 295)])) (@List.toArray (@Option PySem.Value) []))
noncomputable def o316 (P : Params) : Obj := (@PySem.Obj.mk (@PySem.Value.type "code") (@Option.none Nat) (@PySem.Data.fields (@List.toArray PySem.Value [(@PySem.Value.str (@PySem.Str.ofString "Store") 521), (@PySem.Value.str (@PySem.Str.ofString "Store") 522), (@PySem.Value.str (@PySem.Str.ofString "/claim/cut.py") 523), (@PySem.Value.int 112 0), (@PySem.Value.int 0 0), (@PySem.Value.int 0 0), (@PySem.Value.int 0 0), (@PySem.Value.int 0 0), (@PySem.Value.ref 265), (@PySem.Value.bool Bool.false), (@PySem.Value.int 181 0), (@PySem.Value.ref 266), PySem.Value.none, PySem.Value.none, PySem.Value.none, PySem.Value.none, (@PySem.Value.int 524 0), (@PySem.Value.int 112 0), (@PySem.Value.str (@PySem.Str.ofString "/claim/cut.py") 525)])) (@List.toArray (@Option PySem.Value) []))
noncomputable def o317 (P : Params) : Obj := (@PySem.Obj.mk (@PySem.Value.type "frame") (@Option.none Nat) PySem.Data.plain (@List.toArray (@Option PySem.Value) [(@Option.some PySem.Value (@PySem.Value.ref 267)), (@Option.some PySem.Value (@PySem.Value.ref 3)), (@Option.some PySem.Value (@PySem.Value.ref 264)), (@Option.none PySem.Value), (@Option.some PySem.Value (@PySem.Value.str (@PySem.Str.ofString "pagebase.store") 440)), (@Option.none PySem.Value), (@Option.some PySem.Value (@PySem.Value.ref 0))]))
noncomputable def o318 (P : Params) : Obj := (@PySem.Obj.mk (@PySem.Value.type "tuple") (@Option.none Nat) (@PySem.Data.seq (@List.toArray PySem.Value []) 0) (@List.toArray (@Option PySem.Value) []))
noncomputable def o319 (P : Params) : Obj := (@PySem.Obj.mk PySem.Value.none (@Option.none Nat) (@PySem.Data.fields (@List.toArray PySem.Value [])) (@List.toArray (@Option PySem.Value) []))
noncomputable def o320 (P : Params) : Obj := (@PySem.Obj.mk (@PySem.Value.type "tuple") (@Option.none Nat) (@PySem.Data.seq (@List.toArray PySem.Value [(@PySem.Value.str (@PySem.Str.ofString "self") 534), (@PySem.Value.str (@PySem.Str.ofString "page") 535), (@PySem.Value.str (@PySem.Str.ofString "octets") 536)]) 0) (@List.toArray (@Option PySem.Value) []))
noncomputable def o321 (P : Params) : Obj := (@PySem.Obj.mk (@PySem.Value.type "tuple") (@Option.none Nat) (@PySem.Data.seq (@List.toArray PySem.Value []) 0) (@List.toArray (@Option PySem.Value) []))
noncomputable def o322 (P : Params) : Obj := (@PySem.Obj.mk PySem.Value.none (@Option.none Nat) (@PySem.Data.func (fdOf (stIn 34 0) (@PySem.Str.ofString "Store.write_page") 0 [] PySem.Value.none PySem.Value.none PySem.Value.none PySem.Value.none (@Option.none Nat) PySem.Value.none PySem.Value.none 0)) (@List.toArray (@Option PySem.Value) []))
noncomputable def o323 (P : Params) : Obj := (@PySem.Obj.mk (@PySem.Value.type "code") (@Option.none Nat) (@PySem.Data.fields (@List.toArray PySem.Value [(@PySem.Value.str (@PySem.Str.ofString "write_page") 531), (@PySem.Value.str (@PySem.Str.ofString "Store.write_page") 532), (@PySem.Value.str (@PySem.Str.ofString "/claim/cut.py") 533), (@PySem.Value.int 114 0), (@PySem.Value.int 3 0), (@PySem.Value.int 0 0), (@PySem.Value.int 0 0), (@PySem.Value.int 3 0), (@PySem.Value.ref 269), (@PySem.Value.bool Bool.true), (@PySem.Value.int 181 0), (@PySem.Value.ref 270), PySem.Value.none, (@PySem.Value.ref 271), (@PySem.Value.ref 272), (@PySem.Value.ref 273), (@PySem.Value.int 537 0), (@PySem.Value.int 114 0), (@PySem.Value.str (@PySem.Str.ofString "/claim/cut.py") 538)])) (@List.toArray (@Option PySem.Value) []))
noncomputable def o324 (P : Params) : Obj := (@PySem.Obj.mk (@PySem.Value.type "function") (@Option.none Nat) (@PySem.Data.func (fdOf (stIn 34 0) (@PySem.Str.ofString "Store.write_page") 3 [] PySem.Value.none PySem.Value.none PySem.Value.none (@PySem.Value.str (@PySem.Str.ofString "pagebase.store") 440) (@Option.none Nat) (@PySem.Value.ref 274) PySem.Value.none 0)) (@List.toArray (@Option PySem.Value) []))
noncomputable def o325 (P : Params) : Obj := (@PySem.Obj.mk (@PySem.Value.type "tuple") (@Option.none Nat) (@PySem.Data.seq (@List.toArray PySem.Value []) 0) (@List.toArray (@Option PySem.Value) []))
noncomputable def o326 (P : Params) : Obj := (@PySem.Obj.mk PySem.Value.none (@Option.none Nat) (@PySem.Data.fields (@List.toArray PySem.Value [])) (@List.toArray (@Option PySem.Value) []))
noncomputable def o327 (P : Params) : Obj := (@PySem.Obj.mk (@PySem.Value.type "tuple") (@Option.none Nat) (@PySem.Data.seq (@List.toArray PySem.Value [(@PySem.Value.str (@PySem.Str.ofString "self") 543), (@PySem.Value.str (@PySem.Str.ofString "count") 544)]) 0) (@List.toArray (@Option PySem.Value) []))
noncomputable def o328 (P : Params) : Obj := (@PySem.Obj.mk (@PySem.Value.type "tuple") (@Option.none Nat) (@PySem.Data.seq (@List.toArray PySem.Value []) 0) (@List.toArray (@Option PySem.Value) []))
noncomputable def o329 (P : Params) : Obj := (@PySem.Obj.mk PySem.Value.none (@Option.none Nat) (@PySem.Data.func (fdOf (stIn 34 1) (@PySem.Str.ofString "Store.truncate") 0 [] PySem.Value.none PySem.Value.none PySem.Value.none PySem.Value.none (@Option.none Nat) PySem.Value.none PySem.Value.none 0)) (@List.toArray (@Option PySem.Value) []))
noncomputable def o330 (P : Params) : Obj := (@PySem.Obj.mk (@PySem.Value.type "code") (@Option.none Nat) (@PySem.Data.fields (@List.toArray PySem.Value [(@PySem.Value.str (@PySem.Str.ofString "truncate") 540), (@PySem.Value.str (@PySem.Str.ofString "Store.truncate") 541), (@PySem.Value.str (@PySem.Str.ofString "/claim/cut.py") 542), (@PySem.Value.int 117 0), (@PySem.Value.int 2 0), (@PySem.Value.int 0 0), (@PySem.Value.int 0 0), (@PySem.Value.int 3 0), (@PySem.Value.ref 276), (@PySem.Value.bool Bool.true), (@PySem.Value.int 181 0), (@PySem.Value.ref 277), PySem.Value.none, (@PySem.Value.ref 278), (@PySem.Value.ref 279), (@PySem.Value.ref 280), (@PySem.Value.int 545 0), (@PySem.Value.int 117 0), (@PySem.Value.str (@PySem.Str.ofString "/claim/cut.py") 546)])) (@List.toArray (@Option PySem.Value) []))
noncomputable def o331 (P : Params) : Obj := (@PySem.Obj.mk (@PySem.Value.type "function") (@Option.none Nat) (@PySem.Data.func (fdOf (stIn 34 1) (@PySem.Str.ofString "Store.truncate") 3 [] PySem.Value.none PySem.Value.none PySem.Value.none (@PySem.Value.str (@PySem.Str.ofString "pagebase.store") 440) (@Option.none Nat) (@PySem.Value.ref 281) PySem.Value.none 0)) (@List.toArray (@Option PySem.Value) []))
noncomputable def o332 (P : Params) : Obj := (@PySem.Obj.mk (@PySem.Value.type "tuple") (@Option.none Nat) (@PySem.Data.seq (@List.toArray PySem.Value []) 0) (@List.toArray (@Option PySem.Value) []))
noncomputable def o333 (P : Params) : Obj := (@PySem.Obj.mk PySem.Value.none (@Option.none Nat) (@PySem.Data.fields (@List.toArray PySem.Value [])) (@List.toArray (@Option PySem.Value) []))
noncomputable def o334 (P : Params) : Obj := (@PySem.Obj.mk (@PySem.Value.type "tuple") (@Option.none Nat) (@PySem.Data.seq (@List.toArray PySem.Value [(@PySem.Value.str (@PySem.Str.ofString "self") 551)]) 0) (@List.toArray (@Option PySem.Value) []))
noncomputable def o335 (P : Params) : Obj := (@PySem.Obj.mk (@PySem.Value.type "tuple") (@Option.none Nat) (@PySem.Data.seq (@List.toArray PySem.Value []) 0) (@List.toArray (@Option PySem.Value) []))
noncomputable def o336 (P : Params) : Obj := (@PySem.Obj.mk PySem.Value.none (@Option.none Nat) (@PySem.Data.func (fdOf (stIn 34 2) (@PySem.Str.ofString "Store.read_header") 0 [] PySem.Value.none PySem.Value.none PySem.Value.none PySem.Value.none (@Option.none Nat) PySem.Value.none PySem.Value.none 0)) (@List.toArray (@Option PySem.Value) []))
noncomputable def o337 (P : Params) : Obj := (@PySem.Obj.mk (@PySem.Value.type "code") (@Option.none Nat) (@PySem.Data.fields (@List.toArray PySem.Value [(@PySem.Value.str (@PySem.Str.ofString "read_header") 548), (@PySem.Value.str (@PySem.Str.ofString "Store.read_header") 549), (@PySem.Value.str (@PySem.Str.ofString "/claim/cut.py") 550), (@PySem.Value.int 120 0), (@PySem.Value.int 1 0), (@PySem.Value.int 0 0), (@PySem.Value.int 0 0), (@PySem.Value.int 3 0), (@PySem.Value.ref 283), (@PySem.Value.bool Bool.true), (@PySem.Value.int 181 0), (@PySem.Value.ref 284), PySem.Value.none, (@PySem.Value.ref 285), (@PySem.Value.ref 286), (@PySem.Value.ref 287), (@PySem.Value.int 552 0), (@PySem.Value.int 120 0), (@PySem.Value.str (@PySem.Str.ofString "/claim/cut.py") 553)])) (@List.toArray (@Option PySem.Value) []))
noncomputable def o338 (P : Params) : Obj := (@PySem.Obj.mk (@PySem.Value.type "function") (@Option.none Nat) (@PySem.Data.func (fdOf (stIn 34 2) (@PySem.Str.ofString "Store.read_header") 3 [] PySem.Value.none PySem.Value.none PySem.Value.none (@PySem.Value.str (@PySem.Str.ofString "pagebase.store") 440) (@Option.none Nat) (@PySem.Value.ref 288) PySem.Value.none 0)) (@List.toArray (@Option PySem.Value) []))
noncomputable def o339 (P : Params) : Obj := (@PySem.Obj.mk (@PySem.Value.type "tuple") (@Option.none Nat) (@PySem.Data.seq (@List.toArray PySem.Value []) 0) (@List.toArray (@Option PySem.Value) []))
noncomputable def o340 (P : Params) : Obj := (@PySem.Obj.mk PySem.Value.none (@Option.none Nat) (@PySem.Data.fields (@List.toArray PySem.Value [])) (@List.toArray (@Option PySem.Value) []))
noncomputable def o341 (P : Params) : Obj := (@PySem.Obj.mk (@PySem.Value.type "tuple") (@Option.none Nat) (@PySem.Data.seq (@List.toArray PySem.Value [(@PySem.Value.str (@PySem.Str.ofString "self") 558), (@PySem.Value.str (@PySem.Str.ofString "header") 559)]) 0) (@List.toArray (@Option PySem.Value) []))
noncomputable def o342 (P : Params) : Obj := (@PySem.Obj.mk (@PySem.Value.type "tuple") (@Option.none Nat) (@PySem.Data.seq (@List.toArray PySem.Value []) 0) (@List.toArray (@Option PySem.Value) []))
noncomputable def o343 (P : Params) : Obj := (@PySem.Obj.mk PySem.Value.none (@Option.none Nat) (@PySem.Data.func (fdOf (stIn 34 3) (@PySem.Str.ofString "Store.write_header") 0 [] PySem.Value.none PySem.Value.none PySem.Value.none PySem.Value.none (@Option.none Nat) PySem.Value.none PySem.Value.none 0)) (@List.toArray (@Option PySem.Value) []))
noncomputable def o344 (P : Params) : Obj := (@PySem.Obj.mk (@PySem.Value.type "code") (@Option.none Nat) (@PySem.Data.fields (@List.toArray PySem.Value [(@PySem.Value.str (@PySem.Str.ofString "write_header") 555), (@PySem.Value.str (@PySem.Str.ofString "Store.write_header") 556), (@PySem.Value.str (@PySem.Str.ofString "/claim/cut.py") 557), (@PySem.Value.int 123 0), (@PySem.Value.int 2 0), (@PySem.Value.int 0 0), (@PySem.Value.int 0 0), (@PySem.Value.int 3 0), (@PySem.Value.ref 290), (@PySem.Value.bool Bool.true), (@PySem.Value.int 181 0), (@PySem.Value.ref 291), PySem.Value.none, (@PySem.Value.ref 292), (@PySem.Value.ref 293), (@PySem.Value.ref 294), (@PySem.Value.int 560 0), (@PySem.Value.int 123 0), (@PySem.Value.str (@PySem.Str.ofString "/claim/cut.py") 561)])) (@List.toArray (@Option PySem.Value) []))
noncomputable def o345 (P : Params) : Obj := (@PySem.Obj.mk (@PySem.Value.type "function") (@Option.none Nat) (@PySem.Data.func (fdOf (stIn 34 3) (@PySem.Str.ofString "Store.write_header") 3 [] PySem.Value.none PySem.Value.none PySem.Value.none (@PySem.Value.str (@PySem.Str.ofString "pagebase.store") 440) (@Option.none Nat) (@PySem.Value.ref 295) PySem.Value.none 0)) (@List.toArray (@Option PySem.Value) []))
noncomputable def o346 (P : Params) : Obj := (@PySem.Obj.mk (@PySem.Value.type "tuple") (@Option.none Nat) (@PySem.Data.seq (@List.toArray PySem.Value []) 0) (@List.toArray (@Option PySem.Value) []))
noncomputable def o347 (P : Params) : Obj := (@PySem.Obj.mk (@PySem.Value.type "dict") (@Option.none Nat) (@PySem.Data.dict (@List.toArray PySem.DictEntry [(@PySem.DictEntry.mk (@PySem.PyData.keyHash P (@PySem.Str.ofString "__module__")) (@PySem.Value.str (@PySem.Str.ofString "__module__") 526) (@PySem.Value.str (@PySem.Str.ofString "pagebase.store") 440)), (@PySem.DictEntry.mk (@PySem.PyData.keyHash P (@PySem.Str.ofString "__firstlineno__")) (@PySem.Value.str (@PySem.Str.ofString "__firstlineno__") 530) (@PySem.Value.int 112 529)), (@PySem.DictEntry.mk (@PySem.PyData.keyHash P (@PySem.Str.ofString "write_page")) (@PySem.Value.str (@PySem.Str.ofString "write_page") 539) (@PySem.Value.ref 275)), (@PySem.DictEntry.mk (@PySem.PyData.keyHash P (@PySem.Str.ofString "truncate")) (@PySem.Value.str (@PySem.Str.ofString "truncate") 547) (@PySem.Value.ref 282)), (@PySem.DictEntry.mk (@PySem.PyData.keyHash P (@PySem.Str.ofString "read_header")) (@PySem.Value.str (@PySem.Str.ofString "read_header") 554) (@PySem.Value.ref 289)), (@PySem.DictEntry.mk (@PySem.PyData.keyHash P (@PySem.Str.ofString "write_header")) (@PySem.Value.str (@PySem.Str.ofString "write_header") 562) (@PySem.Value.ref 296)), (@PySem.DictEntry.mk (@PySem.PyData.keyHash P (@PySem.Str.ofString "__static_attributes__")) (@PySem.Value.str (@PySem.Str.ofString "__static_attributes__") 563) (@PySem.Value.ref 297)), (@PySem.DictEntry.mk (@PySem.PyData.keyHash P (@PySem.Str.ofString "__doc__")) (@PySem.Value.str (@PySem.Str.ofString "__doc__") 564) PySem.Value.none)]) 2) (@List.toArray (@Option PySem.Value) []))
noncomputable def o348 (P : Params) : Obj := (@PySem.Obj.mk (@PySem.Value.type "type") (@Option.none Nat) (@PySem.Data.cls (@PySem.ClassData.mk (@PySem.Str.ofString "Store") [(@PySem.Value.ref 257)] [(@PySem.Value.ref 299), (@PySem.Value.ref 257), (@PySem.Value.type "object")] 298 (@PySem.Str.ofString "Store") Bool.true [] [] Bool.false (@Option.none Bool) Bool.false)) (@List.toArray (@Option PySem.Value) [(@Option.some PySem.Value (@PySem.Value.ref 262)), (@Option.none PySem.Value), (@Option.some PySem.Value (@PySem.Value.str (@PySem.Str.ofString "Store") 519)), (@Option.some PySem.Value (@PySem.Value.str (@PySem.Str.ofString "Store") 527)), (@Option.some PySem.Value (@PySem.Value.builtin "object.__new__")), (@Option.some PySem.Value (@PySem.Value.bool Bool.true))]))
noncomputable def o349 (P : Params) : Obj := (@PySem.Obj.mk (@PySem.Value.type "super") (@Option.none Nat) (@PySem.Data.fields (@List.toArray PySem.Value [(@PySem.Value.ref 299), (@PySem.Value.ref 299), (@PySem.Value.ref 299)])) (@List.toArray (@Option PySem.Value) []))
noncomputable def o350 (P : Params) : Obj := (@PySem.Obj.mk (@PySem.Value.type "builtin_function_or_method") (@Option.none Nat) (@PySem.Data.fields (@List.toArray PySem.Value [(@PySem.Value.builtin "object.__init_subclass__"), (@PySem.Value.ref 299)])) (@List.toArray (@Option PySem.Value) []))
noncomputable def o351 (P : Params) : Obj := (@PySem.Obj.mk (@PySem.Value.type "tuple") (@Option.none Nat) (@PySem.Data.seq (@List.toArray PySem.Value []) 0) (@List.toArray (@Option PySem.Value) []))
noncomputable def o352 (P : Params) : Obj := (@PySem.Obj.mk PySem.Value.none (@Option.none Nat) (@PySem.Data.fields (@List.toArray PySem.Value [])) (@List.toArray (@Option PySem.Value) []))
noncomputable def o353 (P : Params) : Obj := (@PySem.Obj.mk (@PySem.Value.type "tuple") (@Option.none Nat) (@PySem.Data.seq (@List.toArray PySem.Value [(@PySem.Value.str (@PySem.Str.ofString "script") 572), (@PySem.Value.str (@PySem.Str.ofString "k") 573), (@PySem.Value.str (@PySem.Str.ofString "cell") 574), (@PySem.Value.str (@PySem.Str.ofString "big") 575), (@PySem.Value.str (@PySem.Str.ofString "mixed") 576)]) 0) (@List.toArray (@Option PySem.Value) []))
noncomputable def o354 (P : Params) : Obj := (@PySem.Obj.mk (@PySem.Value.type "tuple") (@Option.none Nat) (@PySem.Data.seq (@List.toArray PySem.Value []) 0) (@List.toArray (@Option PySem.Value) []))
noncomputable def o355 (P : Params) : Obj := (@PySem.Obj.mk PySem.Value.none (@Option.none Nat) (@PySem.Data.func (fdOf (stAt 36) (@PySem.Str.ofString "_law_pool") 0 [] PySem.Value.none PySem.Value.none PySem.Value.none PySem.Value.none (@Option.none Nat) PySem.Value.none PySem.Value.none 0)) (@List.toArray (@Option PySem.Value) []))
noncomputable def o356 (P : Params) : Obj := (@PySem.Obj.mk (@PySem.Value.type "code") (@Option.none Nat) (@PySem.Data.fields (@List.toArray PySem.Value [(@PySem.Value.str (@PySem.Str.ofString "_law_pool") 569), (@PySem.Value.str (@PySem.Str.ofString "_law_pool") 570), (@PySem.Value.str (@PySem.Str.ofString "/claim/cut.py") 571), (@PySem.Value.int 126 0), (@PySem.Value.int 2 0), (@PySem.Value.int 0 0), (@PySem.Value.int 0 0), (@PySem.Value.int 3 0), (@PySem.Value.ref 302), (@PySem.Value.bool Bool.true), (@PySem.Value.int 181 0), (@PySem.Value.ref 303), PySem.Value.none, (@PySem.Value.ref 304), (@PySem.Value.ref 305), (@PySem.Value.ref 306), (@PySem.Value.int 577 0), (@PySem.Value.int 126 0), (@PySem.Value.str (@PySem.Str.ofString "/claim/cut.py") 578)])) (@List.toArray (@Option PySem.Value) []))
noncomputable def o357 (P : Params) : Obj := (@PySem.Obj.mk (@PySem.Value.type "function") (@Option.none Nat) (@PySem.Data.func (fdOf (stAt 36) (@PySem.Str.ofString "_law_pool") 3 [] PySem.Value.none PySem.Value.none PySem.Value.none (@PySem.Value.str (@PySem.Str.ofString "law_xm0755_01") 567) (@Option.none Nat) (@PySem.Value.ref 307) PySem.Value.none 0)) (@List.toArray (@Option PySem.Value) []))
noncomputable def tree357 (P : Params) : BT := (@PySem.W.BT.node (@PySem.W.boot_o_0 P) (@PySem.W.BT.node (@PySem.W.boot_o_1 P) (@PySem.W.BT.node (@o308 P) (@PySem.W.BT.node (@PySem.W.boot_o_7 P) (@PySem.W.BT.node (@o52 P) (@PySem.W.BT.node (@o68 P) (@PySem.W.BT.node (@o103 P) (@PySem.W.BT.node (@o169 P) (@PySem.W.BT.node (@o301 P) PySem.W.BT.nil PySem.W.BT.nil) PySem.W.BT.nil) (@PySem.W.BT.node (@o235 P) PySem.W.BT.nil PySem.W.BT.nil)) (@PySem.W.BT.node (@o137 P) (@PySem.W.BT.node (@o201 P) (@PySem.W.BT.node (@o336 P) PySem.W.BT.nil PySem.W.BT.nil) PySem.W.BT.nil) (@PySem.W.BT.node (@o269 P) PySem.W.BT.nil PySem.W.BT.nil))) (@PySem.W.BT.node (@o84 P) (@PySem.W.BT.node (@o119 P) (@PySem.W.BT.node (@o185 P) (@PySem.W.BT.node (@o320 P) PySem.W.BT.nil PySem.W.BT.nil) PySem.W.BT.nil) (@PySem.W.BT.node (@o253 P) PySem.W.BT.nil PySem.W.BT.nil)) (@PySem.W.BT.node (@o153 P) (@PySem.W.BT.node (@o219 P) (@PySem.W.BT.node (@o352 P) PySem.W.BT.nil PySem.W.BT.nil) PySem.W.BT.nil) (@PySem.W.BT.node (@o285 P) PySem.W.BT.nil PySem.W.BT.nil)))) (@PySem.W.BT.node (@o60 P) (@PySem.W.BT.node (@o76 P) (@PySem.W.BT.node (@o111 P) (@PySem.W.BT.node (@o177 P) (@PySem.W.BT.node (@o312 P) PySem.W.BT.nil PySem.W.BT.nil) PySem.W.BT.nil) (@PySem.W.BT.node (@o245 P) PySem.W.BT.nil PySem.W.BT.nil)) (@PySem.W.BT.node (@o145 P) (@PySem.W.BT.node (@o211 P) (@PySem.W.BT.node (@o344 P) PySem.W.BT.nil PySem.W.BT.nil) PySem.W.BT.nil) (@PySem.W.BT.node (@o277 P) PySem.W.BT.nil PySem.W.BT.nil))) (@PySem.W.BT.node (@o95 P) (@PySem.W.BT.node (@o127 P) (@PySem.W.BT.node (@o193 P) (@PySem.W.BT.node (@o328 P) PySem.W.BT.nil PySem.W.BT.nil) PySem.W.BT.nil) (@PySem.W.BT.node (@o261 P) PySem.W.BT.nil PySem.W.BT.nil)) (@PySem.W.BT.node (@o161 P) (@PySem.W.BT.node (@o227 P) PySem.W.BT.nil PySem.W.BT.nil) (@PySem.W.BT.node (@o293 P) PySem.W.BT.nil PySem.W.BT.nil))))) (@PySem.W.BT.node (@o43 P) (@PySem.W.BT.node (@o56 P) (@PySem.W.BT.node (@o72 P) (@PySem.W.BT.node (@o107 P) (@PySem.W.BT.node (@o173 P) (@PySem.W.BT.node (@o305 P) PySem.W.BT.nil PySem.W.BT.nil) PySem.W.BT.nil) (@PySem.W.BT.node (@o239 P) PySem.W.BT.nil PySem.W.BT.nil)) (@PySem.W.BT.node (@o141 P) (@PySem.W.BT.node (@o205 P) (@PySem.W.BT.node (@o340 P) PySem.W.BT.nil PySem.W.BT.nil) PySem.W.BT.nil) (@PySem.W.BT.node (@o273 P) PySem.W.BT.nil PySem.W.BT.nil))) (@PySem.W.BT.node (@o91 P) (@PySem.W.BT.node (@o123 P) (@PySem.W.BT.node (@o189 P) (@PySem.W.BT.node (@o324 P) PySem.W.BT.nil PySem.W.BT.nil) PySem.W.BT.nil) (@PySem.W.BT.node (@o257 P) PySem.W.BT.nil PySem.W.BT.nil)) (@PySem.W.BT.node (@o157 P) (@PySem.W.BT.node (@o223 P) (@PySem.W.BT.node (@o356 P) PySem.W.BT.nil PySem.W.BT.nil) PySem.W.BT.nil) (@PySem.W.BT.node (@o289 P) PySem.W.BT.nil PySem.W.BT.nil)))) (@PySem.W.BT.node (@o64 P) (@PySem.W.BT.node (@o80 P) (@PySem.W.BT.node (@o115 P) (@PySem.W.BT.node (@o181 P) (@PySem.W.BT.node (@o316 P) PySem.W.BT.nil PySem.W.BT.nil) PySem.W.BT.nil) (@PySem.W.BT.node (@o249 P) PySem.W.BT.nil PySem.W.BT.nil)) (@PySem.W.BT.node (@o149 P) (@PySem.W.BT.node (@o215 P) (@PySem.W.BT.node (@o348 P) PySem.W.BT.nil PySem.W.BT.nil) PySem.W.BT.nil) (@PySem.W.BT.node (@o281 P) PySem.W.BT.nil PySem.W.BT.nil))) (@PySem.W.BT.node (@o99 P) (@PySem.W.BT.node (@o133 P) (@PySem.W.BT.node (@o197 P) (@PySem.W.BT.node (@o332 P) PySem.W.BT.nil PySem.W.BT.nil) PySem.W.BT.nil) (@PySem.W.BT.node (@o265 P) PySem.W.BT.nil PySem.W.BT.nil)) (@PySem.W.BT.node (@o165 P) (@PySem.W.BT.node (@o231 P) PySem.W.BT.nil PySem.W.BT.nil) (@PySem.W.BT.node (@o297 P) PySem.W.BT.nil PySem.W.BT.nil)))))) (@PySem.W.BT.node (@PySem.W.boot_o_5 P) (@PySem.W.BT.node (@PySem.W.boot_o_9 P) (@PySem.W.BT.node (@o54 P) (@PySem.W.BT.node (@o70 P) (@PySem.W.BT.node (@o105 P) (@PySem.W.BT.node (@o171 P) (@PySem.W.BT.node (@o310 P) PySem.W.BT.nil PySem.W.BT.nil) PySem.W.BT.nil) (@PySem.W.BT.node (@o237 P) PySem.W.BT.nil PySem.W.BT.nil)) (@PySem.W.BT.node (@o139 P) (@PySem.W.BT.node (@o203 P) (@PySem.W.BT.node (@o338 P) PySem.W.BT.nil PySem.W.BT.nil) PySem.W.BT.nil) (@PySem.W.BT.node (@o271 P) PySem.W.BT.nil PySem.W.BT.nil))) (@PySem.W.BT.node (@o89 P) (@PySem.W.BT.node (@o121 P) (@PySem.W.BT.node (@o187 P) (@PySem.W.BT.node (@o322 P) PySem.W.BT.nil PySem.W.BT.nil) PySem.W.BT.nil) (@PySem.W.BT.node (@o255 P) PySem.W.BT.nil PySem.W.BT.nil)) (@PySem.W.BT.node (@o155 P) (@PySem.W.BT.node (@o221 P) (@PySem.W.BT.node (@o354 P) PySem.W.BT.nil PySem.W.BT.nil) PySem.W.BT.nil) (@PySem.W.BT.node (@o287 P) PySem.W.BT.nil PySem.W.BT.nil)))) (@PySem.W.BT.node (@o62 P) (@PySem.W.BT.node (@o78 P) (@PySem.W.BT.node (@o113 P) (@PySem.W.BT.node (@o179 P) (@PySem.W.BT.node (@o314 P) PySem.W.BT.nil PySem.W.BT.nil) PySem.W.BT.nil) (@PySem.W.BT.node (@o247 P) PySem.W.BT.nil PySem.W.BT.nil)) (@PySem.W.BT.node (@o147 P) (@PySem.W.BT.node (@o213 P) (@PySem.W.BT.node (@o346 P) PySem.W.BT.nil PySem.W.BT.nil) PySem.W.BT.nil) (@PySem.W.BT.node (@o279 P) PySem.W.BT.nil PySem.W.BT.nil))) (@PySem.W.BT.node (@o97 P) (@PySem.W.BT.node (@o131 P) (@PySem.W.BT.node (@o195 P) (@PySem.W.BT.node (@o330 P) PySem.W.BT.nil PySem.W.BT.nil) PySem.W.BT.nil) (@PySem.W.BT.node (@o263 P) PySem.W.BT.nil PySem.W.BT.nil)) (@PySem.W.BT.node (@o163 P) (@PySem.W.BT.node (@o229 P) PySem.W.BT.nil PySem.W.BT.nil) (@PySem.W.BT.node (@o295 P) PySem.W.BT.nil PySem.W.BT.nil))))) (@PySem.W.BT.node (@o45 P) (@PySem.W.BT.node (@o58 P) (@PySem.W.BT.node (@o74 P) (@PySem.W.BT.node (@o109 P) (@PySem.W.BT.node (@o175 P) (@PySem.W.BT.node (@o307 P) PySem.W.BT.nil PySem.W.BT.nil) PySem.W.BT.nil) (@PySem.W.BT.node (@o241 P) PySem.W.BT.nil PySem.W.BT.nil)) (@PySem.W.BT.node (@o143 P) (@PySem.W.BT.node (@o209 P) (@PySem.W.BT.node (@o342 P) PySem.W.BT.nil PySem.W.BT.nil) PySem.W.BT.nil) (@PySem.W.BT.node (@o275 P) PySem.W.BT.nil PySem.W.BT.nil))) (@PySem.W.BT.node (@o93 P) (@PySem.W.BT.node (@o125 P) (@PySem.W.BT.node (@o191 P) (@PySem.W.BT.node (@o326 P) PySem.W.BT.nil PySem.W.BT.nil) PySem.W.BT.nil) (@PySem.W.BT.node (@o259 P) PySem.W.BT.nil PySem.W.BT.nil)) (@PySem.W.BT.node (@o159 P) (@PySem.W.BT.node (@o225 P) PySem.W.BT.nil PySem.W.BT.nil) (@PySem.W.BT.node (@o291 P) PySem.W.BT.nil PySem.W.BT.nil)))) (@PySem.W.BT.node (@o66 P) (@PySem.W.BT.node (@o88 P) (@PySem.W.BT.node (@o117 P) (@PySem.W.BT.node (@o183 P) (@PySem.W.BT.node (@o318 P) PySem.W.BT.nil PySem.W.BT.nil) PySem.W.BT.nil) (@PySem.W.BT.node (@o251 P) PySem.W.BT.nil PySem.W.BT.nil)) (@PySem.W.BT.node (@o151 P) (@PySem.W.BT.node (@o217 P) (@PySem.W.BT.node (@o350 P) PySem.W.BT.nil PySem.W.BT.nil) PySem.W.BT.nil) (@PySem.W.BT.node (@o283 P) PySem.W.BT.nil PySem.W.BT.nil))) (@PySem.W.BT.node (@o101 P) (@PySem.W.BT.node (@o135 P) (@PySem.W.BT.node (@o199 P) (@PySem.W.BT.node (@o334 P) PySem.W.BT.nil PySem.W.BT.nil) PySem.W.BT.nil) (@PySem.W.BT.node (@o267 P) PySem.W.BT.nil PySem.W.BT.nil)) (@PySem.W.BT.node (@o167 P) (@PySem.W.BT.node (@o233 P) PySem.W.BT.nil PySem.W.BT.nil) (@PySem.W.BT.node (@o299 P) PySem.W.BT.nil PySem.W.BT.nil))))))) (@PySem.W.BT.node (@o49 P) (@PySem.W.BT.node (@PySem.W.boot_o_4 P) (@PySem.W.BT.node (@PySem.W.boot_o_8 P) (@PySem.W.BT.node (@o53 P) (@PySem.W.BT.node (@o69 P) (@PySem.W.BT.node (@o104 P) (@PySem.W.BT.node (@o170 P) (@PySem.W.BT.node (@o302 P) PySem.W.BT.nil PySem.W.BT.nil) PySem.W.BT.nil) (@PySem.W.BT.node (@o236 P) PySem.W.BT.nil PySem.W.BT.nil)) (@PySem.W.BT.node (@o138 P) (@PySem.W.BT.node (@o202 P) (@PySem.W.BT.node (@o337 P) PySem.W.BT.nil PySem.W.BT.nil) PySem.W.BT.nil) (@PySem.W.BT.node (@o270 P) PySem.W.BT.nil PySem.W.BT.nil))) (@PySem.W.BT.node (@o85 P) (@PySem.W.BT.node (@o120 P) (@PySem.W.BT.node (@o186 P) (@PySem.W.BT.node (@o321 P) PySem.W.BT.nil PySem.W.BT.nil) PySem.W.BT.nil) (@PySem.W.BT.node (@o254 P) PySem.W.BT.nil PySem.W.BT.nil)) (@PySem.W.BT.node (@o154 P) (@PySem.W.BT.node (@o220 P) (@PySem.W.BT.node (@o353 P) PySem.W.BT.nil PySem.W.BT.nil) PySem.W.BT.nil) (@PySem.W.BT.node (@o286 P) PySem.W.BT.nil PySem.W.BT.nil)))) (@PySem.W.BT.node (@o61 P) (@PySem.W.BT.node (@o77 P) (@PySem.W.BT.node (@o112 P) (@PySem.W.BT.node (@o178 P) (@PySem.W.BT.node (@o313 P) PySem.W.BT.nil PySem.W.BT.nil) PySem.W.BT.nil) (@PySem.W.BT.node (@o246 P) PySem.W.BT.nil PySem.W.BT.nil)) (@PySem.W.BT.node (@o146 P) (@PySem.W.BT.node (@o212 P) (@PySem.W.BT.node (@o345 P) PySem.W.BT.nil PySem.W.BT.nil) PySem.W.BT.nil) (@PySem.W.BT.node (@o278 P) PySem.W.BT.nil PySem.W.BT.nil))) (@PySem.W.BT.node (@o96 P) (@PySem.W.BT.node (@o128 P) (@PySem.W.BT.node (@o194 P) (@PySem.W.BT.node (@o329 P) PySem.W.BT.nil PySem.W.BT.nil) PySem.W.BT.nil) (@PySem.W.BT.node (@o262 P) PySem.W.BT.nil PySem.W.BT.nil)) (@PySem.W.BT.node (@o162 P) (@PySem.W.BT.node (@o228 P) PySem.W.BT.nil PySem.W.BT.nil) (@PySem.W.BT.node (@o294 P) PySem.W.BT.nil PySem.W.BT.nil))))) (@PySem.W.BT.node (@o309 P) (@PySem.W.BT.node (@o57 P) (@PySem.W.BT.node (@o73 P) (@PySem.W.BT.node (@o108 P) (@PySem.W.BT.node (@o174 P) (@PySem.W.BT.node (@o306 P) PySem.W.BT.nil PySem.W.BT.nil) PySem.W.BT.nil) (@PySem.W.BT.node (@o240 P) PySem.W.BT.nil PySem.W.BT.nil)) (@PySem.W.BT.node (@o142 P) (@PySem.W.BT.node (@o208 P) (@PySem.W.BT.node (@o341 P) PySem.W.BT.nil PySem.W.BT.nil) PySem.W.BT.nil) (@PySem.W.BT.node (@o274 P) PySem.W.BT.nil PySem.W.BT.nil))) (@PySem.W.BT.node (@o92 P) (@PySem.W.BT.node (@o124 P) (@PySem.W.BT.node (@o190 P) (@PySem.W.BT.node (@o325 P) PySem.W.BT.nil PySem.W.BT.nil) PySem.W.BT.nil) (@PySem.W.BT.node (@o258 P) PySem.W.BT.nil PySem.W.BT.nil)) (@PySem.W.BT.node (@o158 P) (@PySem.W.BT.node (@o224 P) (@PySem.W.BT.node (@o357 P) PySem.W.BT.nil PySem.W.BT.nil) PySem.W.BT.nil) (@PySem.W.BT.node (@o290 P) PySem.W.BT.nil PySem.W.BT.nil)))) (@PySem.W.BT.node (@o65 P) (@PySem.W.BT.node (@o81 P) (@PySem.W.BT.node (@o116 P) (@PySem.W.BT.node (@o182 P) (@PySem.W.BT.node (@o317 P) PySem.W.BT.nil PySem.W.BT.nil) PySem.W.BT.nil) (@PySem.W.BT.node (@o250 P) PySem.W.BT.nil PySem.W.BT.nil)) (@PySem.W.BT.node (@o150 P) (@PySem.W.BT.node (@o216 P) (@PySem.W.BT.node (@o349 P) PySem.W.BT.nil PySem.W.BT.nil) PySem.W.BT.nil) (@PySem.W.BT.node (@o282 P) PySem.W.BT.nil PySem.W.BT.nil))) (@PySem.W.BT.node (@o100 P) (@PySem.W.BT.node (@o134 P) (@PySem.W.BT.node (@o198 P) (@PySem.W.BT.node (@o333 P) PySem.W.BT.nil PySem.W.BT.nil) PySem.W.BT.nil) (@PySem.W.BT.node (@o266 P) PySem.W.BT.nil PySem.W.BT.nil)) (@PySem.W.BT.node (@o166 P) (@PySem.W.BT.node (@o232 P) PySem.W.BT.nil PySem.W.BT.nil) (@PySem.W.BT.node (@o298 P) PySem.W.BT.nil PySem.W.BT.nil)))))) (@PySem.W.BT.node (@PySem.W.boot_o_6 P) (@PySem.W.BT.node (@PySem.W.boot_o_10 P) (@PySem.W.BT.node (@o55 P) (@PySem.W.BT.node (@o71 P) (@PySem.W.BT.node (@o106 P) (@PySem.W.BT.node (@o172 P) (@PySem.W.BT.node (@o304 P) PySem.W.BT.nil PySem.W.BT.nil) PySem.W.BT.nil) (@PySem.W.BT.node (@o238 P) PySem.W.BT.nil PySem.W.BT.nil)) (@PySem.W.BT.node (@o140 P) (@PySem.W.BT.node (@o204 P) (@PySem.W.BT.node (@o339 P) PySem.W.BT.nil PySem.W.BT.nil) PySem.W.BT.nil) (@PySem.W.BT.node (@o272 P) PySem.W.BT.nil PySem.W.BT.nil))) (@PySem.W.BT.node (@o90 P) (@PySem.W.BT.node (@o122 P) (@PySem.W.BT.node (@o188 P) (@PySem.W.BT.node (@o323 P) PySem.W.BT.nil PySem.W.BT.nil) PySem.W.BT.nil) (@PySem.W.BT.node (@o256 P) PySem.W.BT.nil PySem.W.BT.nil)) (@PySem.W.BT.node (@o156 P) (@PySem.W.BT.node (@o222 P) (@PySem.W.BT.node (@o355 P) PySem.W.BT.nil PySem.W.BT.nil) PySem.W.BT.nil) (@PySem.W.BT.node (@o288 P) PySem.W.BT.nil PySem.W.BT.nil)))) (@PySem.W.BT.node (@o63 P) (@PySem.W.BT.node (@o79 P) (@PySem.W.BT.node (@o114 P) (@PySem.W.BT.node (@o180 P) (@PySem.W.BT.node (@o315 P) PySem.W.BT.nil PySem.W.BT.nil) PySem.W.BT.nil) (@PySem.W.BT.node (@o248 P) PySem.W.BT.nil PySem.W.BT.nil)) (@PySem.W.BT.node (@o148 P) (@PySem.W.BT.node (@o214 P) (@PySem.W.BT.node (@o347 P) PySem.W.BT.nil PySem.W.BT.nil) PySem.W.BT.nil) (@PySem.W.BT.node (@o280 P) PySem.W.BT.nil PySem.W.BT.nil))) (@PySem.W.BT.node (@o98 P) (@PySem.W.BT.node (@o132 P) (@PySem.W.BT.node (@o196 P) (@PySem.W.BT.node (@o331 P) PySem.W.BT.nil PySem.W.BT.nil) PySem.W.BT.nil) (@PySem.W.BT.node (@o264 P) PySem.W.BT.nil PySem.W.BT.nil)) (@PySem.W.BT.node (@o164 P) (@PySem.W.BT.node (@o230 P) PySem.W.BT.nil PySem.W.BT.nil) (@PySem.W.BT.node (@o296 P) PySem.W.BT.nil PySem.W.BT.nil))))) (@PySem.W.BT.node (@o46 P) (@PySem.W.BT.node (@o59 P) (@PySem.W.BT.node (@o75 P) (@PySem.W.BT.node (@o110 P) (@PySem.W.BT.node (@o176 P) (@PySem.W.BT.node (@o311 P) PySem.W.BT.nil PySem.W.BT.nil) PySem.W.BT.nil) (@PySem.W.BT.node (@o242 P) PySem.W.BT.nil PySem.W.BT.nil)) (@PySem.W.BT.node (@o144 P) (@PySem.W.BT.node (@o210 P) (@PySem.W.BT.node (@o343 P) PySem.W.BT.nil PySem.W.BT.nil) PySem.W.BT.nil) (@PySem.W.BT.node (@o276 P) PySem.W.BT.nil PySem.W.BT.nil))) (@PySem.W.BT.node (@o94 P) (@PySem.W.BT.node (@o126 P) (@PySem.W.BT.node (@o192 P) (@PySem.W.BT.node (@o327 P) PySem.W.BT.nil PySem.W.BT.nil) PySem.W.BT.nil) (@PySem.W.BT.node (@o260 P) PySem.W.BT.nil PySem.W.BT.nil)) (@PySem.W.BT.node (@o160 P) (@PySem.W.BT.node (@o226 P) PySem.W.BT.nil PySem.W.BT.nil) (@PySem.W.BT.node (@o292 P) PySem.W.BT.nil PySem.W.BT.nil)))) (@PySem.W.BT.node (@o67 P) (@PySem.W.BT.node (@o83 P) (@PySem.W.BT.node (@o118 P) (@PySem.W.BT.node (@o184 P) (@PySem.W.BT.node (@o319 P) PySem.W.BT.nil PySem.W.BT.nil) PySem.W.BT.nil) (@PySem.W.BT.node (@o252 P) PySem.W.BT.nil PySem.W.BT.nil)) (@PySem.W.BT.node (@o152 P) (@PySem.W.BT.node (@o218 P) (@PySem.W.BT.node (@o351 P) PySem.W.BT.nil PySem.W.BT.nil) PySem.W.BT.nil) (@PySem.W.BT.node (@o284 P) PySem.W.BT.nil PySem.W.BT.nil))) (@PySem.W.BT.node (@o102 P) (@PySem.W.BT.node (@o136 P) (@PySem.W.BT.node (@o200 P) (@PySem.W.BT.node (@o335 P) PySem.W.BT.nil PySem.W.BT.nil) PySem.W.BT.nil) (@PySem.W.BT.node (@o268 P) PySem.W.BT.nil PySem.W.BT.nil)) (@PySem.W.BT.node (@o168 P) (@PySem.W.BT.node (@o234 P) PySem.W.BT.nil PySem.W.BT.nil) (@PySem.W.BT.node (@o300 P) PySem.W.BT.nil PySem.W.BT.nil))))))))
noncomputable def o358 (P : Params) : Obj := (@PySem.Obj.mk (@PySem.Value.type "dict") (@Option.none Nat) (@PySem.Data.dict (@List.toArray PySem.DictEntry [(@PySem.DictEntry.mk (@PySem.PyData.keyHash P (@PySem.Str.ofString "__name__")) (@PySem.Value.str (@PySem.Str.ofString "__name__") 165) (@PySem.Value.str (@PySem.Str.ofString "law_xm0755_01") 567)), (@PySem.DictEntry.mk (@PySem.PyData.keyHash P (@PySem.Str.ofString "__doc__")) (@PySem.Value.str (@PySem.Str.ofString "__doc__") 166) PySem.Value.none), (@PySem.DictEntry.mk (@PySem.PyData.keyHash P (@PySem.Str.ofString "__package__")) (@PySem.Value.str (@PySem.Str.ofString "__package__") 167) PySem.Value.none), (@PySem.DictEntry.mk (@PySem.PyData.keyHash P (@PySem.Str.ofString "__loader__")) (@PySem.Value.str (@PySem.Str.ofString "__loader__") 168) (loaderV P)), (@PySem.DictEntry.mk (@PySem.PyData.keyHash P (@PySem.Str.ofString "__spec__")) (@PySem.Value.str (@PySem.Str.ofString "__spec__") 169) PySem.Value.none), (@PySem.DictEntry.mk (@PySem.PyData.keyHash P (@PySem.Str.ofString "__annotations__")) (@PySem.Value.str (@PySem.Str.ofString "__annotations__") 170) (@PySem.Value.ref 6)), (@PySem.DictEntry.mk (@PySem.PyData.keyHash P (@PySem.Str.ofString "__builtins__")) (@PySem.Value.str (@PySem.Str.ofString "__builtins__") 171) (@PySem.Value.ref 4)), (@PySem.DictEntry.mk (@PySem.PyData.keyHash P (@PySem.Str.ofString "__file__")) (@PySem.Value.str (@PySem.Str.ofString "__file__") 173) (@PySem.Value.str (@PySem.Str.ofString "/claim/cut.py") 172)), (@PySem.DictEntry.mk (@PySem.PyData.keyHash P (@PySem.Str.ofString "__cached__")) (@PySem.Value.str (@PySem.Str.ofString "__cached__") 174) PySem.Value.none), (@PySem.DictEntry.mk (@PySem.PyData.keyHash P (@PySem.Str.ofString "_wall")) (@PySem.Value.str (@PySem.Str.ofString "_wall") 193) (@PySem.Value.ref 21)), (@PySem.DictEntry.mk (@PySem.PyData.keyHash P (@PySem.Str.ofString "CHAIN_HEAD")) (@PySem.Value.str (@PySem.Str.ofString "CHAIN_HEAD") 197) (@PySem.Value.int 4 196)), (@PySem.DictEntry.mk (@PySem.PyData.keyHash P (@PySem.Str.ofString "chain_length")) (@PySem.Value.str (@PySem.Str.ofString "chain_length") 206) (@PySem.Value.ref 28)), (@PySem.DictEntry.mk (@PySem.PyData.keyHash P (@PySem.Str.ofString "PagebaseError")) (@PySem.Value.str (@PySem.Str.ofString "PagebaseError") 237) (@PySem.Value.ref 45)), (@PySem.DictEntry.mk (@PySem.PyData.keyHash P (@PySem.Str.ofString "CorruptError")) (@PySem.Value.str (@PySem.Str.ofString "CorruptError") 253) (@PySem.Value.ref 58)), (@PySem.DictEntry.mk (@PySem.PyData.keyHash P (@PySem.Str.ofString "HEADER_SIZE")) (@PySem.Value.str (@PySem.Str.ofString "HEADER_SIZE") 255) (@PySem.Value.int 32 254)), (@PySem.DictEntry.mk (@PySem.PyData.keyHash P (@PySem.Str.ofString "LEAF_KEYS")) (@PySem.Value.str (@PySem.Str.ofString "LEAF_KEYS") 259) (@PySem.Value.int 10 258)), (@PySem.DictEntry.mk (@PySem.PyData.keyHash P (@PySem.Str.ofString "LEAF_ROWS")) (@PySem.Value.str (@PySem.Str.ofString "LEAF_ROWS") 261) (@PySem.Value.int 13 260)), (@PySem.DictEntry.mk (@PySem.PyData.keyHash P (@PySem.Str.ofString "LEAST_CELL")) (@PySem.Value.str (@PySem.Str.ofString "LEAST_CELL") 263) (@PySem.Value.int 4 262)), (@PySem.DictEntry.mk (@PySem.PyData.keyHash P (@PySem.Str.ofString "two_at")) (@PySem.Value.str (@PySem.Str.ofString "two_at") 271) (@PySem.Value.ref 67)), (@PySem.DictEntry.mk (@PySem.PyData.keyHash P (@PySem.Str.ofString "four_at")) (@PySem.Value.str (@PySem.Str.ofString "four_at") 279) (@PySem.Value.ref 74)), (@PySem.DictEntry.mk (@PySem.PyData.keyHash P (@PySem.Str.ofString "put_two")) (@PySem.Value.str (@PySem.Str.ofString "put_two") 288) (@PySem.Value.ref 81)), (@PySem.DictEntry.mk (@PySem.PyData.keyHash P (@PySem.Str.ofString "put_four")) (@PySem.Value.str (@PySem.Str.ofString "put_four") 297) (@PySem.Value.ref 88)), (@PySem.DictEntry.mk (@PySem.PyData.keyHash P (@PySem.Str.ofString "four_octets")) (@PySem.Value.str (@PySem.Str.ofString "four_octets") 305) (@PySem.Value.ref 95)), (@PySem.DictEntry.mk (@PySem.PyData.keyHash P (@PySem.Str.ofString "is_leaf")) (@PySem.Value.str (@PySem.Str.ofString "is_leaf") 312) (@PySem.Value.ref 102)), (@PySem.DictEntry.mk (@PySem.PyData.keyHash P (@PySem.Str.ofString "head_size")) (@PySem.Value.str (@PySem.Str.ofString "head_size") 319) (@PySem.Value.ref 109)), (@PySem.DictEntry.mk (@PySem.PyData.keyHash P (@PySem.Str.ofString "get_varint")) (@PySem.Value.str (@PySem.Str.ofString "get_varint") 332) (@PySem.Value.ref 116)), (@PySem.DictEntry.mk (@PySem.PyData.keyHash P (@PySem.Str.ofString "POINTER")) (@PySem.Value.str (@PySem.Str.ofString "POINTER") 336) (@PySem.Value.int 2 335)), (@PySem.DictEntry.mk (@PySem.PyData.keyHash P (@PySem.Str.ofString "cost")) (@PySem.Value.str (@PySem.Str.ofString "cost") 343) (@PySem.Value.ref 123)), (@PySem.DictEntry.mk (@PySem.PyData.keyHash P (@PySem.Str.ofString "total")) (@PySem.Value.str (@PySem.Str.ofString "total") 349) (@PySem.Value.ref 128)), (@PySem.DictEntry.mk (@PySem.PyData.keyHash P (@PySem.Str.ofString "base_of")) (@PySem.Value.str (@PySem.Str.ofString "base_of") 356) (@PySem.Value.ref 135)), (@PySem.DictEntry.mk (@PySem.PyData.keyHash P (@PySem.Str.ofString "capacity")) (@PySem.Value.str (@PySem.Str.ofString "capacity") 365) (@PySem.Value.ref 142)), (@PySem.DictEntry.mk (@PySem.PyData.keyHash P (@PySem.Str.ofString "child_of")) (@PySem.Value.str (@PySem.Str.ofString "child_of") 372) (@PySem.Value.ref 149)), (@PySem.DictEntry.mk (@PySem.PyData.keyHash P (@PySem.Str.ofString "with_child")) (@PySem.Value.str (@PySem.Str.ofString "with_child") 380) (@PySem.Value.ref 156)), (@PySem.DictEntry.mk (@PySem.PyData.keyHash P (@PySem.Str.ofString "leaf_rowid")) (@PySem.Value.str (@PySem.Str.ofString "leaf_rowid") 390) (@PySem.Value.ref 163)), (@PySem.DictEntry.mk (@PySem.PyData.keyHash P (@PySem.Str.ofString "Content")) (@PySem.Value.str (@PySem.Str.ofString "Content") 430) (@PySem.Value.ref 187)), (@PySem.DictEntry.mk (@PySem.PyData.keyHash P (@PySem.Str.ofString "fits")) (@PySem.Value.str (@PySem.Str.ofString "fits") 439) (@PySem.Value.ref 198)), (@PySem.DictEntry.mk (@PySem.PyData.keyHash P (@PySem.Str.ofString "PageStore")) (@PySem.Value.str (@PySem.Str.ofString "PageStore") 518) (@PySem.Value.ref 257)), (@PySem.DictEntry.mk (@PySem.PyData.keyHash P (@PySem.Str.ofString "Store")) (@PySem.Value.str (@PySem.Str.ofString "Store") 566) (@PySem.Value.ref 299)), (@PySem.DictEntry.mk (@PySem.PyData.keyHash P (@PySem.Str.ofString "_law_pool")) (@PySem.Value.str (@PySem.Str.ofString "_law_pool") 579) (@PySem.Value.ref 308)), (@PySem.DictEntry.mk (@PySem.PyData.keyHash P (@PySem.Str.ofString "_law_take")) (@PySem.Value.str (@PySem.Str.ofString "_law_take") 588) (@PySem.Value.ref 315)), (@PySem.DictEntry.mk (@PySem.PyData.keyHash P (@PySem.Str.ofString "_law_one")) (@PySem.Value.str (@PySem.Str.ofString "_law_one") 596) (@PySem.Value.ref 322)), (@PySem.DictEntry.mk (@PySem.PyData.keyHash P (@PySem.Str.ofString "_law_varint")) (@PySem.Value.str (@PySem.Str.ofString "_law_varint") 602) (@PySem.Value.ref 327)), (@PySem.DictEntry.mk (@PySem.PyData.keyHash P (@PySem.Str.ofString "_law_chain_right")) (@PySem.Value.str (@PySem.Str.ofString "_law_chain_right") 613) (@PySem.Value.ref 334)), (@PySem.DictEntry.mk (@PySem.PyData.keyHash P (@PySem.Str.ofString "_law_room_right")) (@PySem.Value.str (@PySem.Str.ofString "_law_room_right") 619) (@PySem.Value.ref 339)), (@PySem.DictEntry.mk (@PySem.PyData.keyHash P (@PySem.Str.ofString "_law_child_right")) (@PySem.Value.str (@PySem.Str.ofString "_law_child_right") 625) (@PySem.Value.ref 344)), (@PySem.DictEntry.mk (@PySem.PyData.keyHash P (@PySem.Str.ofString "_law_rowid_right")) (@PySem.Value.str (@PySem.Str.ofString "_law_rowid_right") 631) (@PySem.Value.ref 349)), (@PySem.DictEntry.mk (@PySem.PyData.keyHash P (@PySem.Str.ofString "law")) (@PySem.Value.str (@PySem.Str.ofString "law") 641) (@PySem.Value.ref 356))]) 47) (@List.toArray (@Option PySem.Value) []))
noncomputable def o359 (P : Params) : Obj := (@PySem.Obj.mk PySem.Value.none (@Option.none Nat) (@PySem.Data.fields (@List.toArray PySem.Value [(@PySem.Value.int 1 0), (@PySem.Value.int 0 0), (@PySem.Value.ref 20), (@PySem.Value.int 6 0), (@PySem.Value.int 0 0), (@PySem.Value.ref 27), (@PySem.Value.int 10 0), (@PySem.Value.int 0 0), (@PySem.Value.ref 34), (@PySem.Value.int 14 0), (@PySem.Value.int 0 0), (@PySem.Value.ref 54), (@PySem.Value.int 21 0), (@PySem.Value.int 0 0), (@PySem.Value.ref 66), (@PySem.Value.int 23 0), (@PySem.Value.int 0 0), (@PySem.Value.ref 73), (@PySem.Value.int 25 0), (@PySem.Value.int 0 0), (@PySem.Value.ref 80), (@PySem.Value.int 28 0), (@PySem.Value.int 0 0), (@PySem.Value.ref 87), (@PySem.Value.int 31 0), (@PySem.Value.int 0 0), (@PySem.Value.ref 94), (@PySem.Value.int 35 0), (@PySem.Value.int 0 0), (@PySem.Value.ref 101), (@PySem.Value.int 37 0), (@PySem.Value.int 0 0), (@PySem.Value.ref 108), (@PySem.Value.int 42 0), (@PySem.Value.int 0 0), (@PySem.Value.ref 115), (@PySem.Value.int 57 0), (@PySem.Value.int 0 0), (@PySem.Value.ref 122), (@PySem.Value.int 59 0), (@PySem.Value.int 0 0), (@PySem.Value.ref 127), (@PySem.Value.int 61 0), (@PySem.Value.int 0 0), (@PySem.Value.ref 134), (@PySem.Value.int 63 0), (@PySem.Value.int 0 0), (@PySem.Value.ref 141), (@PySem.Value.int 65 0), (@PySem.Value.int 0 0), (@PySem.Value.ref 148), (@PySem.Value.int 67 0), (@PySem.Value.int 0 0), (@PySem.Value.ref 155), (@PySem.Value.int 69 0), (@PySem.Value.int 0 0), (@PySem.Value.ref 162), (@PySem.Value.int 73 0), (@PySem.Value.int 0 0), (@PySem.Value.ref 169), (@PySem.Value.int 82 0), (@PySem.Value.int 0 0), (@PySem.Value.ref 197), (@PySem.Value.int 85 0), (@PySem.Value.int 0 0), (@PySem.Value.ref 204), (@PySem.Value.int 112 0), (@PySem.Value.int 0 0), (@PySem.Value.ref 267), (@PySem.Value.int 126 0), (@PySem.Value.int 0 0), (@PySem.Value.ref 307), (@PySem.Value.int 133 0), (@PySem.Value.int 0 0), (@PySem.Value.ref 314), (@PySem.Value.int 140 0), (@PySem.Value.int 0 0), (@PySem.Value.ref 321), (@PySem.Value.int 142 0), (@PySem.Value.int 0 0), (@PySem.Value.ref 326), (@PySem.Value.int 150 0), (@PySem.Value.int 0 0), (@PySem.Value.ref 333), (@PySem.Value.int 155 0), (@PySem.Value.int 0 0), (@PySem.Value.ref 338), (@PySem.Value.int 168 0), (@PySem.Value.int 0 0), (@PySem.Value.ref 343), (@PySem.Value.int 176 0), (@PySem.Value.int 0 0), (@PySem.Value.ref 348), (@PySem.Value.int 181 0), (@PySem.Value.int 0 0), (@PySem.Value.ref 355)])) (@List.toArray (@Option PySem.Value) []))
noncomputable def o360 (P : Params) : Obj := (@PySem.Obj.mk (@PySem.Value.type "tuple") (@Option.none Nat) (@PySem.Data.seq (@List.toArray PySem.Value []) 0) (@List.toArray (@Option PySem.Value) []))
noncomputable def o361 (P : Params) : Obj := (@PySem.Obj.mk PySem.Value.none (@Option.none Nat) (@PySem.Data.fields (@List.toArray PySem.Value [])) (@List.toArray (@Option PySem.Value) []))
noncomputable def o362 (P : Params) : Obj := (@PySem.Obj.mk (@PySem.Value.type "tuple") (@Option.none Nat) (@PySem.Data.seq (@List.toArray PySem.Value [(@PySem.Value.str (@PySem.Str.ofString "source") 583), (@PySem.Value.str (@PySem.Str.ofString "top") 584), (@PySem.Value.str (@PySem.Str.ofString "digit") 585)]) 0) (@List.toArray (@Option PySem.Value) []))
noncomputable def o363 (P : Params) : Obj := (@PySem.Obj.mk (@PySem.Value.type "tuple") (@Option.none Nat) (@PySem.Data.seq (@List.toArray PySem.Value []) 0) (@List.toArray (@Option PySem.Value) []))
noncomputable def o364 (P : Params) : Obj := (@PySem.Obj.mk PySem.Value.none (@Option.none Nat) (@PySem.Data.func (fdOf (stAt 37) (@PySem.Str.ofString "_law_take") 0 [] PySem.Value.none PySem.Value.none PySem.Value.none PySem.Value.none (@Option.none Nat) PySem.Value.none PySem.Value.none 0)) (@List.toArray (@Option PySem.Value) []))
noncomputable def o365 (P : Params) : Obj := (@PySem.Obj.mk (@PySem.Value.type "code") (@Option.none Nat) (@PySem.Data.fields (@List.toArray PySem.Value [(@PySem.Value.str (@PySem.Str.ofString "_law_take") 580), (@PySem.Value.str (@PySem.Str.ofString "_law_take") 581), (@PySem.Value.str (@PySem.Str.ofString "/claim/cut.py") 582), (@PySem.Value.int 133 0), (@PySem.Value.int 2 0), (@PySem.Value.int 0 0), (@PySem.Value.int 0 0), (@PySem.Value.int 3 0), (@PySem.Value.ref 309), (@PySem.Value.bool Bool.true), (@PySem.Value.int 181 0), (@PySem.Value.ref 310), PySem.Value.none, (@PySem.Value.ref 311), (@PySem.Value.ref 312), (@PySem.Value.ref 313), (@PySem.Value.int 586 0), (@PySem.Value.int 133 0), (@PySem.Value.str (@PySem.Str.ofString "/claim/cut.py") 587)])) (@List.toArray (@Option PySem.Value) []))
noncomputable def o366 (P : Params) : Obj := (@PySem.Obj.mk (@PySem.Value.type "function") (@Option.none Nat) (@PySem.Data.func (fdOf (stAt 37) (@PySem.Str.ofString "_law_take") 3 [] PySem.Value.none PySem.Value.none PySem.Value.none (@PySem.Value.str (@PySem.Str.ofString "law_xm0755_01") 567) (@Option.none Nat) (@PySem.Value.ref 314) PySem.Value.none 0)) (@List.toArray (@Option PySem.Value) []))
noncomputable def o367 (P : Params) : Obj := (@PySem.Obj.mk (@PySem.Value.type "tuple") (@Option.none Nat) (@PySem.Data.seq (@List.toArray PySem.Value []) 0) (@List.toArray (@Option PySem.Value) []))
noncomputable def o368 (P : Params) : Obj := (@PySem.Obj.mk PySem.Value.none (@Option.none Nat) (@PySem.Data.fields (@List.toArray PySem.Value [])) (@List.toArray (@Option PySem.Value) []))
noncomputable def o369 (P : Params) : Obj := (@PySem.Obj.mk (@PySem.Value.type "tuple") (@Option.none Nat) (@PySem.Data.seq (@List.toArray PySem.Value [(@PySem.Value.str (@PySem.Str.ofString "source") 592), (@PySem.Value.str (@PySem.Str.ofString "things") 593)]) 0) (@List.toArray (@Option PySem.Value) []))
noncomputable def o370 (P : Params) : Obj := (@PySem.Obj.mk (@PySem.Value.type "tuple") (@Option.none Nat) (@PySem.Data.seq (@List.toArray PySem.Value []) 0) (@List.toArray (@Option PySem.Value) []))
noncomputable def o371 (P : Params) : Obj := (@PySem.Obj.mk PySem.Value.none (@Option.none Nat) (@PySem.Data.func (fdOf (stAt 38) (@PySem.Str.ofString "_law_one") 0 [] PySem.Value.none PySem.Value.none PySem.Value.none PySem.Value.none (@Option.none Nat) PySem.Value.none PySem.Value.none 0)) (@List.toArray (@Option PySem.Value) []))
noncomputable def o372 (P : Params) : Obj := (@PySem.Obj.mk (@PySem.Value.type "code") (@Option.none Nat) (@PySem.Data.fields (@List.toArray PySem.Value [(@PySem.Value.str (@PySem.Str.ofString "_law_one") 589), (@PySem.Value.str (@PySem.Str.ofString "_law_one") 590), (@PySem.Value.str (@PySem.Str.ofString "/claim/cut.py") 591), (@PySem.Value.int 140 0), (@PySem.Value.int 2 0), (@PySem.Value.int 0 0), (@PySem.Value.int 0 0), (@PySem.Value.int 3 0), (@PySem.Value.ref 316), (@PySem.Value.bool Bool.true), (@PySem.Value.int 181 0), (@PySem.Value.ref 317), PySem.Value.none, (@PySem.Value.ref 318), (@PySem.Value.ref 319), (@PySem.Value.ref 320), (@PySem.Value.int 594 0), (@PySem.Value.int 140 0), (@PySem.Value.str (@PySem.Str.ofString "/claim/cut.py") 595)])) (@List.toArray (@Option PySem.Value) []))
noncomputable def o373 (P : Params) : Obj := (@PySem.Obj.mk (@PySem.Value.type "function") (@Option.none Nat) (@PySem.Data.func (fdOf (stAt 38) (@PySem.Str.ofString "_law_one") 3 [] PySem.Value.none PySem.Value.none PySem.Value.none (@PySem.Value.str (@PySem.Str.ofString "law_xm0755_01") 567) (@Option.none Nat) (@PySem.Value.ref 321) PySem.Value.none 0)) (@List.toArray (@Option PySem.Value) []))
noncomputable def o374 (P : Params) : Obj := (@PySem.Obj.mk (@PySem.Value.type "tuple") (@Option.none Nat) (@PySem.Data.seq (@List.toArray PySem.Value []) 0) (@List.toArray (@Option PySem.Value) []))
noncomputable def o375 (P : Params) : Obj := (@PySem.Obj.mk PySem.Value.none (@Option.none Nat) (@PySem.Data.fields (@List.toArray PySem.Value [])) (@List.toArray (@Option PySem.Value) []))
noncomputable def o376 (P : Params) : Obj := (@PySem.Obj.mk PySem.Value.none (@Option.none Nat) (@PySem.Data.func (fdOf (stAt 39) (@PySem.Str.ofString "_law_varint") 0 [] PySem.Value.none PySem.Value.none PySem.Value.none PySem.Value.none (@Option.none Nat) PySem.Value.none PySem.Value.none 0)) (@List.toArray (@Option PySem.Value) []))
noncomputable def o377 (P : Params) : Obj := (@PySem.Obj.mk (@PySem.Value.type "code") (@Option.none Nat) (@PySem.Data.fields (@List.toArray PySem.Value [(@PySem.Value.str (@PySem.Str.ofString "_law_varint") 597), (@PySem.Value.str (@PySem.Str.ofString "_law_varint") 598), (@PySem.Value.str (@PySem.Str.ofString "/claim/cut.py") 599), (@PySem.Value.int 142 0), (@PySem.Value.int 1 0), (@PySem.Value.int 0 0), (@PySem.Value.int 0 0), (@PySem.Value.int 3 0), (@PySem.Value.ref 323), (@PySem.Value.bool Bool.true), (@PySem.Value.int 181 0), (@PySem.Value.ref 324), PySem.Value.none, PySem.Value.none, PySem.Value.none, (@PySem.Value.ref 325), (@PySem.Value.int 600 0), (@PySem.Value.int 142 0), (@PySem.Value.str (@PySem.Str.ofString "/claim/cut.py") 601)])) (@List.toArray (@Option PySem.Value) []))
noncomputable def o378 (P : Params) : Obj := (@PySem.Obj.mk (@PySem.Value.type "function") (@Option.none Nat) (@PySem.Data.func (fdOf (stAt 39) (@PySem.Str.ofString "_law_varint") 3 [] PySem.Value.none PySem.Value.none PySem.Value.none (@PySem.Value.str (@PySem.Str.ofString "law_xm0755_01") 567) (@Option.none Nat) (@PySem.Value.ref 326) PySem.Value.none 0)) (@List.toArray (@Option PySem.Value) []))
noncomputable def o379 (P : Params) : Obj := (@PySem.Obj.mk (@PySem.Value.type "tuple") (@Option.none Nat) (@PySem.Data.seq (@List.toArray PySem.Value []) 0) (@List.toArray (@Option PySem.Value) []))
noncomputable def o380 (P : Params) : Obj := (@PySem.Obj.mk PySem.Value.none (@Option.none Nat) (@PySem.Data.fields (@List.toArray PySem.Value [])) (@List.toArray (@Option PySem.Value) []))
noncomputable def o381 (P : Params) : Obj := (@PySem.Obj.mk (@PySem.Value.type "tuple") (@Option.none Nat) (@PySem.Data.seq (@List.toArray PySem.Value [(@PySem.Value.str (@PySem.Str.ofString "source") 606), (@PySem.Value.str (@PySem.Str.ofString "page_size") 607), (@PySem.Value.str (@PySem.Str.ofString "room") 608), (@PySem.Value.str (@PySem.Str.ofString "size") 609), (@PySem.Value.str (@PySem.Str.ofString "many") 610)]) 0) (@List.toArray (@Option PySem.Value) []))
noncomputable def o382 (P : Params) : Obj := (@PySem.Obj.mk (@PySem.Value.type "tuple") (@Option.none Nat) (@PySem.Data.seq (@List.toArray PySem.Value []) 0) (@List.toArray (@Option PySem.Value) []))
noncomputable def o383 (P : Params) : Obj := (@PySem.Obj.mk PySem.Value.none (@Option.none Nat) (@PySem.Data.func (fdOf (stAt 40) (@PySem.Str.ofString "_law_chain_right") 0 [] PySem.Value.none PySem.Value.none PySem.Value.none PySem.Value.none (@Option.none Nat) PySem.Value.none PySem.Value.none 0)) (@List.toArray (@Option PySem.Value) []))
noncomputable def o384 (P : Params) : Obj := (@PySem.Obj.mk (@PySem.Value.type "code") (@Option.none Nat) (@PySem.Data.fields (@List.toArray PySem.Value [(@PySem.Value.str (@PySem.Str.ofString "_law_chain_right") 603), (@PySem.Value.str (@PySem.Str.ofString "_law_chain_right") 604), (@PySem.Value.str (@PySem.Str.ofString "/claim/cut.py") 605), (@PySem.Value.int 150 0), (@PySem.Value.int 2 0), (@PySem.Value.int 0 0), (@PySem.Value.int 0 0), (@PySem.Value.int 3 0), (@PySem.Value.ref 328), (@PySem.Value.bool Bool.true), (@PySem.Value.int 181 0), (@PySem.Value.ref 329), PySem.Value.none, (@PySem.Value.ref 330), (@PySem.Value.ref 331), (@PySem.Value.ref 332), (@PySem.Value.int 611 0), (@PySem.Value.int 150 0), (@PySem.Value.str (@PySem.Str.ofString "/claim/cut.py") 612)])) (@List.toArray (@Option PySem.Value) []))
noncomputable def o385 (P : Params) : Obj := (@PySem.Obj.mk (@PySem.Value.type "function") (@Option.none Nat) (@PySem.Data.func (fdOf (stAt 40) (@PySem.Str.ofString "_law_chain_right") 3 [] PySem.Value.none PySem.Value.none PySem.Value.none (@PySem.Value.str (@PySem.Str.ofString "law_xm0755_01") 567) (@Option.none Nat) (@PySem.Value.ref 333) PySem.Value.none 0)) (@List.toArray (@Option PySem.Value) []))
noncomputable def o386 (P : Params) : Obj := (@PySem.Obj.mk (@PySem.Value.type "tuple") (@Option.none Nat) (@PySem.Data.seq (@List.toArray PySem.Value []) 0) (@List.toArray (@Option PySem.Value) []))
noncomputable def o387 (P : Params) : Obj := (@PySem.Obj.mk PySem.Value.none (@Option.none Nat) (@PySem.Data.fields (@List.toArray PySem.Value [])) (@List.toArray (@Option PySem.Value) []))
noncomputable def o388 (P : Params) : Obj := (@PySem.Obj.mk PySem.Value.none (@Option.none Nat) (@PySem.Data.func (fdOf (stAt 41) (@PySem.Str.ofString "_law_room_right") 0 [] PySem.Value.none PySem.Value.none PySem.Value.none PySem.Value.none (@Option.none Nat) PySem.Value.none PySem.Value.none 0)) (@List.toArray (@Option PySem.Value) []))
noncomputable def o389 (P : Params) : Obj := (@PySem.Obj.mk (@PySem.Value.type "code") (@Option.none Nat) (@PySem.Data.fields (@List.toArray PySem.Value [(@PySem.Value.str (@PySem.Str.ofString "_law_room_right") 614), (@PySem.Value.str (@PySem.Str.ofString "_law_room_right") 615), (@PySem.Value.str (@PySem.Str.ofString "/claim/cut.py") 616), (@PySem.Value.int 155 0), (@PySem.Value.int 2 0), (@PySem.Value.int 0 0), (@PySem.Value.int 0 0), (@PySem.Value.int 3 0), (@PySem.Value.ref 335), (@PySem.Value.bool Bool.true), (@PySem.Value.int 181 0), (@PySem.Value.ref 336), PySem.Value.none, PySem.Value.none, PySem.Value.none, (@PySem.Value.ref 337), (@PySem.Value.int 617 0), (@PySem.Value.int 155 0), (@PySem.Value.str (@PySem.Str.ofString "/claim/cut.py") 618)])) (@List.toArray (@Option PySem.Value) []))
noncomputable def o390 (P : Params) : Obj := (@PySem.Obj.mk (@PySem.Value.type "function") (@Option.none Nat) (@PySem.Data.func (fdOf (stAt 41) (@PySem.Str.ofString "_law_room_right") 3 [] PySem.Value.none PySem.Value.none PySem.Value.none (@PySem.Value.str (@PySem.Str.ofString "law_xm0755_01") 567) (@Option.none Nat) (@PySem.Value.ref 338) PySem.Value.none 0)) (@List.toArray (@Option PySem.Value) []))
noncomputable def o391 (P : Params) : Obj := (@PySem.Obj.mk (@PySem.Value.type "tuple") (@Option.none Nat) (@PySem.Data.seq (@List.toArray PySem.Value []) 0) (@List.toArray (@Option PySem.Value) []))
noncomputable def o392 (P : Params) : Obj := (@PySem.Obj.mk PySem.Value.none (@Option.none Nat) (@PySem.Data.fields (@List.toArray PySem.Value [])) (@List.toArray (@Option PySem.Value) []))
noncomputable def o393 (P : Params) : Obj := (@PySem.Obj.mk PySem.Value.none (@Option.none Nat) (@PySem.Data.func (fdOf (stAt 42) (@PySem.Str.ofString "_law_child_right") 0 [] PySem.Value.none PySem.Value.none PySem.Value.none PySem.Value.none (@Option.none Nat) PySem.Value.none PySem.Value.none 0)) (@List.toArray (@Option PySem.Value) []))
noncomputable def o394 (P : Params) : Obj := (@PySem.Obj.mk (@PySem.Value.type "code") (@Option.none Nat) (@PySem.Data.fields (@List.toArray PySem.Value [(@PySem.Value.str (@PySem.Str.ofString "_law_child_right") 620), (@PySem.Value.str (@PySem.Str.ofString "_law_child_right") 621), (@PySem.Value.str (@PySem.Str.ofString "/claim/cut.py") 622), (@PySem.Value.int 168 0), (@PySem.Value.int 1 0), (@PySem.Value.int 0 0), (@PySem.Value.int 0 0), (@PySem.Value.int 3 0), (@PySem.Value.ref 340), (@PySem.Value.bool Bool.true), (@PySem.Value.int 181 0), (@PySem.Value.ref 341), PySem.Value.none, PySem.Value.none, PySem.Value.none, (@PySem.Value.ref 342), (@PySem.Value.int 623 0), (@PySem.Value.int 168 0), (@PySem.Value.str (@PySem.Str.ofString "/claim/cut.py") 624)])) (@List.toArray (@Option PySem.Value) []))
noncomputable def o395 (P : Params) : Obj := (@PySem.Obj.mk (@PySem.Value.type "function") (@Option.none Nat) (@PySem.Data.func (fdOf (stAt 42) (@PySem.Str.ofString "_law_child_right") 3 [] PySem.Value.none PySem.Value.none PySem.Value.none (@PySem.Value.str (@PySem.Str.ofString "law_xm0755_01") 567) (@Option.none Nat) (@PySem.Value.ref 343) PySem.Value.none 0)) (@List.toArray (@Option PySem.Value) []))
noncomputable def o396 (P : Params) : Obj := (@PySem.Obj.mk (@PySem.Value.type "tuple") (@Option.none Nat) (@PySem.Data.seq (@List.toArray PySem.Value []) 0) (@List.toArray (@Option PySem.Value) []))
noncomputable def o397 (P : Params) : Obj := (@PySem.Obj.mk PySem.Value.none (@Option.none Nat) (@PySem.Data.fields (@List.toArray PySem.Value [])) (@List.toArray (@Option PySem.Value) []))
noncomputable def o398 (P : Params) : Obj := (@PySem.Obj.mk PySem.Value.none (@Option.none Nat) (@PySem.Data.func (fdOf (stAt 43) (@PySem.Str.ofString "_law_rowid_right") 0 [] PySem.Value.none PySem.Value.none PySem.Value.none PySem.Value.none (@Option.none Nat) PySem.Value.none PySem.Value.none 0)) (@List.toArray (@Option PySem.Value) []))
noncomputable def o399 (P : Params) : Obj := (@PySem.Obj.mk (@PySem.Value.type "code") (@Option.none Nat) (@PySem.Data.fields (@List.toArray PySem.Value [(@PySem.Value.str (@PySem.Str.ofString "_law_rowid_right") 626), (@PySem.Value.str (@PySem.Str.ofString "_law_rowid_right") 627), (@PySem.Value.str (@PySem.Str.ofString "/claim/cut.py") 628), (@PySem.Value.int 176 0), (@PySem.Value.int 1 0), (@PySem.Value.int 0 0), (@PySem.Value.int 0 0), (@PySem.Value.int 3 0), (@PySem.Value.ref 345), (@PySem.Value.bool Bool.true), (@PySem.Value.int 181 0), (@PySem.Value.ref 346), PySem.Value.none, PySem.Value.none, PySem.Value.none, (@PySem.Value.ref 347), (@PySem.Value.int 629 0), (@PySem.Value.int 176 0), (@PySem.Value.str (@PySem.Str.ofString "/claim/cut.py") 630)])) (@List.toArray (@Option PySem.Value) []))
noncomputable def o400 (P : Params) : Obj := (@PySem.Obj.mk (@PySem.Value.type "function") (@Option.none Nat) (@PySem.Data.func (fdOf (stAt 43) (@PySem.Str.ofString "_law_rowid_right") 3 [] PySem.Value.none PySem.Value.none PySem.Value.none (@PySem.Value.str (@PySem.Str.ofString "law_xm0755_01") 567) (@Option.none Nat) (@PySem.Value.ref 348) PySem.Value.none 0)) (@List.toArray (@Option PySem.Value) []))
noncomputable def o401 (P : Params) : Obj := (@PySem.Obj.mk (@PySem.Value.type "tuple") (@Option.none Nat) (@PySem.Data.seq (@List.toArray PySem.Value []) 0) (@List.toArray (@Option PySem.Value) []))
noncomputable def o402 (P : Params) : Obj := (@PySem.Obj.mk PySem.Value.none (@Option.none Nat) (@PySem.Data.fields (@List.toArray PySem.Value [])) (@List.toArray (@Option PySem.Value) []))
noncomputable def o403 (P : Params) : Obj := (@PySem.Obj.mk (@PySem.Value.type "tuple") (@Option.none Nat) (@PySem.Data.seq (@List.toArray PySem.Value [(@PySem.Value.str (@PySem.Str.ofString "script") 635), (@PySem.Value.str (@PySem.Str.ofString "k") 636), (@PySem.Value.str (@PySem.Str.ofString "source") 637), (@PySem.Value.str (@PySem.Str.ofString "page_size") 638)]) 0) (@List.toArray (@Option PySem.Value) []))
noncomputable def o404 (P : Params) : Obj := (@PySem.Obj.mk (@PySem.Value.type "tuple") (@Option.none Nat) (@PySem.Data.seq (@List.toArray PySem.Value []) 0) (@List.toArray (@Option PySem.Value) []))
noncomputable def o405 (P : Params) : Obj := (@PySem.Obj.mk PySem.Value.none (@Option.none Nat) (@PySem.Data.func (fdOf (stAt 44) (@PySem.Str.ofString "law") 0 [] PySem.Value.none PySem.Value.none PySem.Value.none PySem.Value.none (@Option.none Nat) PySem.Value.none PySem.Value.none 0)) (@List.toArray (@Option PySem.Value) []))
noncomputable def o406 (P : Params) : Obj := (@PySem.Obj.mk (@PySem.Value.type "code") (@Option.none Nat) (@PySem.Data.fields (@List.toArray PySem.Value [(@PySem.Value.str (@PySem.Str.ofString "law") 632), (@PySem.Value.str (@PySem.Str.ofString "law") 633), (@PySem.Value.str (@PySem.Str.ofString "/claim/cut.py") 634), (@PySem.Value.int 181 0), (@PySem.Value.int 1 0), (@PySem.Value.int 0 0), (@PySem.Value.int 0 0), (@PySem.Value.int 3 0), (@PySem.Value.ref 350), (@PySem.Value.bool Bool.true), (@PySem.Value.int 181 0), (@PySem.Value.ref 351), PySem.Value.none, (@PySem.Value.ref 352), (@PySem.Value.ref 353), (@PySem.Value.ref 354), (@PySem.Value.int 639 0), (@PySem.Value.int 181 0), (@PySem.Value.str (@PySem.Str.ofString "/claim/cut.py") 640)])) (@List.toArray (@Option PySem.Value) []))
noncomputable def o407 (P : Params) : Obj := (@PySem.Obj.mk (@PySem.Value.type "function") (@Option.none Nat) (@PySem.Data.func (fdOf (stAt 44) (@PySem.Str.ofString "law") 3 [] PySem.Value.none PySem.Value.none PySem.Value.none (@PySem.Value.str (@PySem.Str.ofString "law_xm0755_01") 567) (@Option.none Nat) (@PySem.Value.ref 355) PySem.Value.none 0)) (@List.toArray (@Option PySem.Value) []))
noncomputable def tree407 (P : Params) : BT := (@PySem.W.BT.node (@PySem.W.boot_o_0 P) (@PySem.W.BT.node (@PySem.W.boot_o_1 P) (@PySem.W.BT.node (@o358 P) (@PySem.W.BT.node (@PySem.W.boot_o_7 P) (@PySem.W.BT.node (@o52 P) (@PySem.W.BT.node (@o68 P) (@PySem.W.BT.node (@o103 P) (@PySem.W.BT.node (@o169 P) (@PySem.W.BT.node (@o301 P) PySem.W.BT.nil PySem.W.BT.nil) PySem.W.BT.nil) (@PySem.W.BT.node (@o235 P) (@PySem.W.BT.node (@o370 P) PySem.W.BT.nil PySem.W.BT.nil) PySem.W.BT.nil)) (@PySem.W.BT.node (@o137 P) (@PySem.W.BT.node (@o201 P) (@PySem.W.BT.node (@o336 P) PySem.W.BT.nil PySem.W.BT.nil) PySem.W.BT.nil) (@PySem.W.BT.node (@o269 P) (@PySem.W.BT.node (@o402 P) PySem.W.BT.nil PySem.W.BT.nil) PySem.W.BT.nil))) (@PySem.W.BT.node (@o84 P) (@PySem.W.BT.node (@o119 P) (@PySem.W.BT.node (@o185 P) (@PySem.W.BT.node (@o320 P) PySem.W.BT.nil PySem.W.BT.nil) PySem.W.BT.nil) (@PySem.W.BT.node (@o253 P) (@PySem.W.BT.node (@o386 P) PySem.W.BT.nil PySem.W.BT.nil) PySem.W.BT.nil)) (@PySem.W.BT.node (@o153 P) (@PySem.W.BT.node (@o219 P) (@PySem.W.BT.node (@o352 P) PySem.W.BT.nil PySem.W.BT.nil) PySem.W.BT.nil) (@PySem.W.BT.node (@o285 P) PySem.W.BT.nil PySem.W.BT.nil)))) (@PySem.W.BT.node (@o60 P) (@PySem.W.BT.node (@o76 P) (@PySem.W.BT.node (@o111 P) (@PySem.W.BT.node (@o177 P) (@PySem.W.BT.node (@o312 P) PySem.W.BT.nil PySem.W.BT.nil) PySem.W.BT.nil) (@PySem.W.BT.node (@o245 P) (@PySem.W.BT.node (@o378 P) PySem.W.BT.nil PySem.W.BT.nil) PySem.W.BT.nil)) (@PySem.W.BT.node (@o145 P) (@PySem.W.BT.node (@o211 P) (@PySem.W.BT.node (@o344 P) PySem.W.BT.nil PySem.W.BT.nil) PySem.W.BT.nil) (@PySem.W.BT.node (@o277 P) PySem.W.BT.nil PySem.W.BT.nil))) (@PySem.W.BT.node (@o95 P) (@PySem.W.BT.node (@o127 P) (@PySem.W.BT.node (@o193 P) (@PySem.W.BT.node (@o328 P) PySem.W.BT.nil PySem.W.BT.nil) PySem.W.BT.nil) (@PySem.W.BT.node (@o261 P) (@PySem.W.BT.node (@o394 P) PySem.W.BT.nil PySem.W.BT.nil) PySem.W.BT.nil)) (@PySem.W.BT.node (@o161 P) (@PySem.W.BT.node (@o227 P) (@PySem.W.BT.node (@o362 P) PySem.W.BT.nil PySem.W.BT.nil) PySem.W.BT.nil) (@PySem.W.BT.node (@o293 P) PySem.W.BT.nil PySem.W.BT.nil))))) (@PySem.W.BT.node (@o43 P) (@PySem.W.BT.node (@o56 P) (@PySem.W.BT.node (@o72 P) (@PySem.W.BT.node (@o107 P) (@PySem.W.BT.node (@o173 P) (@PySem.W.BT.node (@o305 P) PySem.W.BT.nil PySem.W.BT.nil) PySem.W.BT.nil) (@PySem.W.BT.node (@o239 P) (@PySem.W.BT.node (@o374 P) PySem.W.BT.nil PySem.W.BT.nil) PySem.W.BT.nil)) (@PySem.W.BT.node (@o141 P) (@PySem.W.BT.node (@o205 P) (@PySem.W.BT.node (@o340 P) PySem.W.BT.nil PySem.W.BT.nil) PySem.W.BT.nil) (@PySem.W.BT.node (@o273 P) (@PySem.W.BT.node (@o406 P) PySem.W.BT.nil PySem.W.BT.nil) PySem.W.BT.nil))) (@PySem.W.BT.node (@o91 P) (@PySem.W.BT.node (@o123 P) (@PySem.W.BT.node (@o189 P) (@PySem.W.BT.node (@o324 P) PySem.W.BT.nil PySem.W.BT.nil) PySem.W.BT.nil) (@PySem.W.BT.node (@o257 P) (@PySem.W.BT.node (@o390 P) PySem.W.BT.nil PySem.W.BT.nil) PySem.W.BT.nil)) (@PySem.W.BT.node (@o157 P) (@PySem.W.BT.node (@o223 P) (@PySem.W.BT.node (@o356 P) PySem.W.BT.nil PySem.W.BT.nil) PySem.W.BT.nil) (@PySem.W.BT.node (@o289 P) PySem.W.BT.nil PySem.W.BT.nil)))) (@PySem.W.BT.node (@o64 P) (@PySem.W.BT.node (@o80 P) (@PySem.W.BT.node (@o115 P) (@PySem.W.BT.node (@o181 P) (@PySem.W.BT.node (@o316 P) PySem.W.BT.nil PySem.W.BT.nil) PySem.W.BT.nil) (@PySem.W.BT.node (@o249 P) (@PySem.W.BT.node (@o382 P) PySem.W.BT.nil PySem.W.BT.nil) PySem.W.BT.nil)) (@PySem.W.BT.node (@o149 P) (@PySem.W.BT.node (@o215 P) (@PySem.W.BT.node (@o348 P) PySem.W.BT.nil PySem.W.BT.nil) PySem.W.BT.nil) (@PySem.W.BT.node (@o281 P) PySem.W.BT.nil PySem.W.BT.nil))) (@PySem.W.BT.node (@o99 P) (@PySem.W.BT.node (@o133 P) (@PySem.W.BT.node (@o197 P) (@PySem.W.BT.node (@o332 P) PySem.W.BT.nil PySem.W.BT.nil) PySem.W.BT.nil) (@PySem.W.BT.node (@o265 P) (@PySem.W.BT.node (@o398 P) PySem.W.BT.nil PySem.W.BT.nil) PySem.W.BT.nil)) (@PySem.W.BT.node (@o165 P) (@PySem.W.BT.node (@o231 P) (@PySem.W.BT.node (@o366 P) PySem.W.BT.nil PySem.W.BT.nil) PySem.W.BT.nil) (@PySem.W.BT.node (@o297 P) PySem.W.BT.nil PySem.W.BT.nil)))))) (@PySem.W.BT.node (@PySem.W.boot_o_5 P) (@PySem.W.BT.node (@PySem.W.boot_o_9 P) (@PySem.W.BT.node (@o54 P) (@PySem.W.BT.node (@o70 P) (@PySem.W.BT.node (@o105 P) (@PySem.W.BT.node (@o171 P) (@PySem.W.BT.node (@o310 P) PySem.W.BT.nil PySem.W.BT.nil) PySem.W.BT.nil) (@PySem.W.BT.node (@o237 P) (@PySem.W.BT.node (@o372 P) PySem.W.BT.nil PySem.W.BT.nil) PySem.W.BT.nil)) (@PySem.W.BT.node (@o139 P) (@PySem.W.BT.node (@o203 P) (@PySem.W.BT.node (@o338 P) PySem.W.BT.nil PySem.W.BT.nil) PySem.W.BT.nil) (@PySem.W.BT.node (@o271 P) (@PySem.W.BT.node (@o404 P) PySem.W.BT.nil PySem.W.BT.nil) PySem.W.BT.nil))) (@PySem.W.BT.node (@o89 P) (@PySem.W.BT.node (@o121 P) (@PySem.W.BT.node (@o187 P) (@PySem.W.BT.node (@o322 P) PySem.W.BT.nil PySem.W.BT.nil) PySem.W.BT.nil) (@PySem.W.BT.node (@o255 P) (@PySem.W.BT.node (@o388 P) PySem.W.BT.nil PySem.W.BT.nil) PySem.W.BT.nil)) (@PySem.W.BT.node (@o155 P) (@PySem.W.BT.node (@o221 P) (@PySem.W.BT.node (@o354 P) PySem.W.BT.nil PySem.W.BT.nil) PySem.W.BT.nil) (@PySem.W.BT.node (@o287 P) PySem.W.BT.nil PySem.W.BT.nil)))) (@PySem.W.BT.node (@o62 P) (@PySem.W.BT.node (@o78 P) (@PySem.W.BT.node (@o113 P) (@PySem.W.BT.node (@o179 P) (@PySem.W.BT.node (@o314 P) PySem.W.BT.nil PySem.W.BT.nil) PySem.W.BT.nil) (@PySem.W.BT.node (@o247 P) (@PySem.W.BT.node (@o380 P) PySem.W.BT.nil PySem.W.BT.nil) PySem.W.BT.nil)) (@PySem.W.BT.node (@o147 P) (@PySem.W.BT.node (@o213 P) (@PySem.W.BT.node (@o346 P) PySem.W.BT.nil PySem.W.BT.nil) PySem.W.BT.nil) (@PySem.W.BT.node (@o279 P) PySem.W.BT.nil PySem.W.BT.nil))) (@PySem.W.BT.node (@o97 P) (@PySem.W.BT.node (@o131 P) (@PySem.W.BT.node (@o195 P) (@PySem.W.BT.node (@o330 P) PySem.W.BT.nil PySem.W.BT.nil) PySem.W.BT.nil) (@PySem.W.BT.node (@o263 P) (@PySem.W.BT.node (@o396 P) PySem.W.BT.nil PySem.W.BT.nil) PySem.W.BT.nil)) (@PySem.W.BT.node (@o163 P) (@PySem.W.BT.node (@o229 P) (@PySem.W.BT.node (@o364 P) PySem.W.BT.nil PySem.W.BT.nil) PySem.W.BT.nil) (@PySem.W.BT.node (@o295 P) PySem.W.BT.nil PySem.W.BT.nil))))) (@PySem.W.BT.node (@o45 P) (@PySem.W.BT.node (@o58 P) (@PySem.W.BT.node (@o74 P) (@PySem.W.BT.node (@o109 P) (@PySem.W.BT.node (@o175 P) (@PySem.W.BT.node (@o307 P) PySem.W.BT.nil PySem.W.BT.nil) PySem.W.BT.nil) (@PySem.W.BT.node (@o241 P) (@PySem.W.BT.node (@o376 P) PySem.W.BT.nil PySem.W.BT.nil) PySem.W.BT.nil)) (@PySem.W.BT.node (@o143 P) (@PySem.W.BT.node (@o209 P) (@PySem.W.BT.node (@o342 P) PySem.W.BT.nil PySem.W.BT.nil) PySem.W.BT.nil) (@PySem.W.BT.node (@o275 P) PySem.W.BT.nil PySem.W.BT.nil))) (@PySem.W.BT.node (@o93 P) (@PySem.W.BT.node (@o125 P) (@PySem.W.BT.node (@o191 P) (@PySem.W.BT.node (@o326 P) PySem.W.BT.nil PySem.W.BT.nil) PySem.W.BT.nil) (@PySem.W.BT.node (@o259 P) (@PySem.W.BT.node (@o392 P) PySem.W.BT.nil PySem.W.BT.nil) PySem.W.BT.nil)) (@PySem.W.BT.node (@o159 P) (@PySem.W.BT.node (@o225 P) (@PySem.W.BT.node (@o360 P) PySem.W.BT.nil PySem.W.BT.nil) PySem.W.BT.nil) (@PySem.W.BT.node (@o291 P) PySem.W.BT.nil PySem.W.BT.nil)))) (@PySem.W.BT.node (@o66 P) (@PySem.W.BT.node (@o88 P) (@PySem.W.BT.node (@o117 P) (@PySem.W.BT.node (@o183 P) (@PySem.W.BT.node (@o318 P) PySem.W.BT.nil PySem.W.BT.nil) PySem.W.BT.nil) (@PySem.W.BT.node (@o251 P) (@PySem.W.BT.node (@o384 P) PySem.W.BT.nil PySem.W.BT.nil) PySem.W.BT.nil)) (@PySem.W.BT.node (@o151 P) (@PySem.W.BT.node (@o217 P) (@PySem.W.BT.node (@o350 P) PySem.W.BT.nil PySem.W.BT.nil) PySem.W.BT.nil) (@PySem.W.BT.node (@o283 P) PySem.W.BT.nil PySem.W.BT.nil))) (@PySem.W.BT.node (@o101 P) (@PySem.W.BT.node (@o135 P) (@PySem.W.BT.node (@o199 P) (@PySem.W.BT.node (@o334 P) PySem.W.BT.nil PySem.W.BT.nil) PySem.W.BT.nil) (@PySem.W.BT.node (@o267 P) (@PySem.W.BT.node (@o400 P) PySem.W.BT.nil PySem.W.BT.nil) PySem.W.BT.nil)) (@PySem.W.BT.node (@o167 P) (@PySem.W.BT.node (@o233 P) (@PySem.W.BT.node (@o368 P) PySem.W.BT.nil PySem.W.BT.nil) PySem.W.BT.nil) (@PySem.W.BT.node (@o299 P) PySem.W.BT.nil PySem.W.BT.nil))))))) (@PySem.W.BT.node (@o49 P) (@PySem.W.BT.node (@PySem.W.boot_o_4 P) (@PySem.W.BT.node (@PySem.W.boot_o_8 P) (@PySem.W.BT.node (@o53 P) (@PySem.W.BT.node (@o69 P) (@PySem.W.BT.node (@o104 P) (@PySem.W.BT.node (@o170 P) (@PySem.W.BT.node (@o302 P) PySem.W.BT.nil PySem.W.BT.nil) PySem.W.BT.nil) (@PySem.W.BT.node (@o236 P) (@PySem.W.BT.node (@o371 P) PySem.W.BT.nil PySem.W.BT.nil) PySem.W.BT.nil)) (@PySem.W.BT.node (@o138 P) (@PySem.W.BT.node (@o202 P) (@PySem.W.BT.node (@o337 P) PySem.W.BT.nil PySem.W.BT.nil) PySem.W.BT.nil) (@PySem.W.BT.node (@o270 P) (@PySem.W.BT.node (@o403 P) PySem.W.BT.nil PySem.W.BT.nil) PySem.W.BT.nil))) (@PySem.W.BT.node (@o85 P) (@PySem.W.BT.node (@o120 P) (@PySem.W.BT.node (@o186 P) (@PySem.W.BT.node (@o321 P) PySem.W.BT.nil PySem.W.BT.nil) PySem.W.BT.nil) (@PySem.W.BT.node (@o254 P) (@PySem.W.BT.node (@o387 P) PySem.W.BT.nil PySem.W.BT.nil) PySem.W.BT.nil)) (@PySem.W.BT.node (@o154 P) (@PySem.W.BT.node (@o220 P) (@PySem.W.BT.node (@o353 P) PySem.W.BT.nil PySem.W.BT.nil) PySem.W.BT.nil) (@PySem.W.BT.node (@o286 P) PySem.W.BT.nil PySem.W.BT.nil)))) (@PySem.W.BT.node (@o61 P) (@PySem.W.BT.node (@o77 P) (@PySem.W.BT.node (@o112 P) (@PySem.W.BT.node (@o178 P) (@PySem.W.BT.node (@o313 P) PySem.W.BT.nil PySem.W.BT.nil) PySem.W.BT.nil) (@PySem.W.BT.node (@o246 P) (@PySem.W.BT.node (@o379 P) PySem.W.BT.nil PySem.W.BT.nil) PySem.W.BT.nil)) (@PySem.W.BT.node (@o146 P) (@PySem.W.BT.node (@o212 P) (@PySem.W.BT.node (@o345 P) PySem.W.BT.nil PySem.W.BT.nil) PySem.W.BT.nil) (@PySem.W.BT.node (@o278 P) PySem.W.BT.nil PySem.W.BT.nil))) (@PySem.W.BT.node (@o96 P) (@PySem.W.BT.node (@o128 P) (@PySem.W.BT.node (@o194 P) (@PySem.W.BT.node (@o329 P) PySem.W.BT.nil PySem.W.BT.nil) PySem.W.BT.nil) (@PySem.W.BT.node (@o262 P) (@PySem.W.BT.node (@o395 P) PySem.W.BT.nil PySem.W.BT.nil) PySem.W.BT.nil)) (@PySem.W.BT.node (@o162 P) (@PySem.W.BT.node (@o228 P) (@PySem.W.BT.node (@o363 P) PySem.W.BT.nil PySem.W.BT.nil) PySem.W.BT.nil) (@PySem.W.BT.node (@o294 P) PySem.W.BT.nil PySem.W.BT.nil))))) (@PySem.W.BT.node (@o359 P) (@PySem.W.BT.node (@o57 P) (@PySem.W.BT.node (@o73 P) (@PySem.W.BT.node (@o108 P) (@PySem.W.BT.node (@o174 P) (@PySem.W.BT.node (@o306 P) PySem.W.BT.nil PySem.W.BT.nil) PySem.W.BT.nil) (@PySem.W.BT.node (@o240 P) (@PySem.W.BT.node (@o375 P) PySem.W.BT.nil PySem.W.BT.nil) PySem.W.BT.nil)) (@PySem.W.BT.node (@o142 P) (@PySem.W.BT.node (@o208 P) (@PySem.W.BT.node (@o341 P) PySem.W.BT.nil PySem.W.BT.nil) PySem.W.BT.nil) (@PySem.W.BT.node (@o274 P) (@PySem.W.BT.node (@o407 P) PySem.W.BT.nil PySem.W.BT.nil) PySem.W.BT.nil))) (@PySem.W.BT.node (@o92 P) (@PySem.W.BT.node (@o124 P) (@PySem.W.BT.node (@o190 P) (@PySem.W.BT.node (@o325 P) PySem.W.BT.nil PySem.W.BT.nil) PySem.W.BT.nil) (@PySem.W.BT.node (@o258 P) (@PySem.W.BT.node (@o391 P) PySem.W.BT.nil PySem.W.BT.nil) PySem.W.BT.nil)) (@PySem.W.BT.node (@o158 P) (@PySem.W.BT.node (@o224 P) (@PySem.W.BT.node (@o357 P) PySem.W.BT.nil PySem.W.BT.nil) PySem.W.BT.nil) (@PySem.W.BT.node (@o290 P) PySem.W.BT.nil PySem.W.BT.nil)))) (@PySem.W.BT.node (@o65 P) (@PySem.W.BT.node (@o81 P) (@PySem.W.BT.node (@o116 P) (@PySem.W.BT.node (@o182 P) (@PySem.W.BT.node (@o317 P) PySem.W.BT.nil PySem.W.BT.nil) PySem.W.BT.nil) (@PySem.W.BT.node (@o250 P) (@PySem.W.BT.node (@o383 P) PySem.W.BT.nil PySem.W.BT.nil) PySem.W.BT.nil)) (@PySem.W.BT.node (@o150 P) (@PySem.W.BT.node (@o216 P) (@PySem.W.BT.node (@o349 P) PySem.W.BT.nil PySem.W.BT.nil) PySem.W.BT.nil) (@PySem.W.BT.node (@o282 P) PySem.W.BT.nil PySem.W.BT.nil))) (@PySem.W.BT.node (@o100 P) (@PySem.W.BT.node (@o134 P) (@PySem.W.BT.node (@o198 P) (@PySem.W.BT.node (@o333 P) PySem.W.BT.nil PySem.W.BT.nil) PySem.W.BT.nil) (@PySem.W.BT.node (@o266 P) (@PySem.W.BT.node (@o399 P) PySem.W.BT.nil PySem.W.BT.nil) PySem.W.BT.nil)) (@PySem.W.BT.node (@o166 P) (@PySem.W.BT.node (@o232 P) (@PySem.W.BT.node (@o367 P) PySem.W.BT.nil PySem.W.BT.nil) PySem.W.BT.nil) (@PySem.W.BT.node (@o298 P) PySem.W.BT.nil PySem.W.BT.nil)))))) (@PySem.W.BT.node (@PySem.W.boot_o_6 P) (@PySem.W.BT.node (@PySem.W.boot_o_10 P) (@PySem.W.BT.node (@o55 P) (@PySem.W.BT.node (@o71 P) (@PySem.W.BT.node (@o106 P) (@PySem.W.BT.node (@o172 P) (@PySem.W.BT.node (@o304 P) PySem.W.BT.nil PySem.W.BT.nil) PySem.W.BT.nil) (@PySem.W.BT.node (@o238 P) (@PySem.W.BT.node (@o373 P) PySem.W.BT.nil PySem.W.BT.nil) PySem.W.BT.nil)) (@PySem.W.BT.node (@o140 P) (@PySem.W.BT.node (@o204 P) (@PySem.W.BT.node (@o339 P) PySem.W.BT.nil PySem.W.BT.nil) PySem.W.BT.nil) (@PySem.W.BT.node (@o272 P) (@PySem.W.BT.node (@o405 P) PySem.W.BT.nil PySem.W.BT.nil) PySem.W.BT.nil))) (@PySem.W.BT.node (@o90 P) (@PySem.W.BT.node (@o122 P) (@PySem.W.BT.node (@o188 P) (@PySem.W.BT.node (@o323 P) PySem.W.BT.nil PySem.W.BT.nil) PySem.W.BT.nil) (@PySem.W.BT.node (@o256 P) (@PySem.W.BT.node (@o389 P) PySem.W.BT.nil PySem.W.BT.nil) PySem.W.BT.nil)) (@PySem.W.BT.node (@o156 P) (@PySem.W.BT.node (@o222 P) (@PySem.W.BT.node (@o355 P) PySem.W.BT.nil PySem.W.BT.nil) PySem.W.BT.nil) (@PySem.W.BT.node (@o288 P) PySem.W.BT.nil PySem.W.BT.nil)))) (@PySem.W.BT.node (@o63 P) (@PySem.W.BT.node (@o79 P) (@PySem.W.BT.node (@o114 P) (@PySem.W.BT.node (@o180 P) (@PySem.W.BT.node (@o315 P) PySem.W.BT.nil PySem.W.BT.nil) PySem.W.BT.nil) (@PySem.W.BT.node (@o248 P) (@PySem.W.BT.node (@o381 P) PySem.W.BT.nil PySem.W.BT.nil) PySem.W.BT.nil)) (@PySem.W.BT.node (@o148 P) (@PySem.W.BT.node (@o214 P) (@PySem.W.BT.node (@o347 P) PySem.W.BT.nil PySem.W.BT.nil) PySem.W.BT.nil) (@PySem.W.BT.node (@o280 P) PySem.W.BT.nil PySem.W.BT.nil))) (@PySem.W.BT.node (@o98 P) (@PySem.W.BT.node (@o132 P) (@PySem.W.BT.node (@o196 P) (@PySem.W.BT.node (@o331 P) PySem.W.BT.nil PySem.W.BT.nil) PySem.W.BT.nil) (@PySem.W.BT.node (@o264 P) (@PySem.W.BT.node (@o397 P) PySem.W.BT.nil PySem.W.BT.nil) PySem.W.BT.nil)) (@PySem.W.BT.node (@o164 P) (@PySem.W.BT.node (@o230 P) (@PySem.W.BT.node (@o365 P) PySem.W.BT.nil PySem.W.BT.nil) PySem.W.BT.nil) (@PySem.W.BT.node (@o296 P) PySem.W.BT.nil PySem.W.BT.nil))))) (@PySem.W.BT.node (@o46 P) (@PySem.W.BT.node (@o59 P) (@PySem.W.BT.node (@o75 P) (@PySem.W.BT.node (@o110 P) (@PySem.W.BT.node (@o176 P) (@PySem.W.BT.node (@o311 P) PySem.W.BT.nil PySem.W.BT.nil) PySem.W.BT.nil) (@PySem.W.BT.node (@o242 P) (@PySem.W.BT.node (@o377 P) PySem.W.BT.nil PySem.W.BT.nil) PySem.W.BT.nil)) (@PySem.W.BT.node (@o144 P) (@PySem.W.BT.node (@o210 P) (@PySem.W.BT.node (@o343 P) PySem.W.BT.nil PySem.W.BT.nil) PySem.W.BT.nil) (@PySem.W.BT.node (@o276 P) PySem.W.BT.nil PySem.W.BT.nil))) (@PySem.W.BT.node (@o94 P) (@PySem.W.BT.node (@o126 P) (@PySem.W.BT.node (@o192 P) (@PySem.W.BT.node (@o327 P) PySem.W.BT.nil PySem.W.BT.nil) PySem.W.BT.nil) (@PySem.W.BT.node (@o260 P) (@PySem.W.BT.node (@o393 P) PySem.W.BT.nil PySem.W.BT.nil) PySem.W.BT.nil)) (@PySem.W.BT.node (@o160 P) (@PySem.W.BT.node (@o226 P) (@PySem.W.BT.node (@o361 P) PySem.W.BT.nil PySem.W.BT.nil) PySem.W.BT.nil) (@PySem.W.BT.node (@o292 P) PySem.W.BT.nil PySem.W.BT.nil)))) (@PySem.W.BT.node (@o67 P) (@PySem.W.BT.node (@o83 P) (@PySem.W.BT.node (@o118 P) (@PySem.W.BT.node (@o184 P) (@PySem.W.BT.node (@o319 P) PySem.W.BT.nil PySem.W.BT.nil) PySem.W.BT.nil) (@PySem.W.BT.node (@o252 P) (@PySem.W.BT.node (@o385 P) PySem.W.BT.nil PySem.W.BT.nil) PySem.W.BT.nil)) (@PySem.W.BT.node (@o152 P) (@PySem.W.BT.node (@o218 P) (@PySem.W.BT.node (@o351 P) PySem.W.BT.nil PySem.W.BT.nil) PySem.W.BT.nil) (@PySem.W.BT.node (@o284 P) PySem.W.BT.nil PySem.W.BT.nil))) (@PySem.W.BT.node (@o102 P) (@PySem.W.BT.node (@o136 P) (@PySem.W.BT.node (@o200 P) (@PySem.W.BT.node (@o335 P) PySem.W.BT.nil PySem.W.BT.nil) PySem.W.BT.nil) (@PySem.W.BT.node (@o268 P) (@PySem.W.BT.node (@o401 P) PySem.W.BT.nil PySem.W.BT.nil) PySem.W.BT.nil)) (@PySem.W.BT.node (@o168 P) (@PySem.W.BT.node (@o234 P) (@PySem.W.BT.node (@o369 P) PySem.W.BT.nil PySem.W.BT.nil) PySem.W.BT.nil) (@PySem.W.BT.node (@o300 P) PySem.W.BT.nil PySem.W.BT.nil))))))))
noncomputable def heap408 (P : Params) : Heap := (@PySem.Heap.mk (@Array.mk PySem.Obj [(@PySem.W.boot_o_0 P), (@PySem.W.boot_o_1 P), (@o49 P), (@o358 P), (@PySem.W.boot_o_4 P), (@PySem.W.boot_o_5 P), (@PySem.W.boot_o_6 P), (@PySem.W.boot_o_7 P), (@PySem.W.boot_o_8 P), (@PySem.W.boot_o_9 P), (@PySem.W.boot_o_10 P), (@o43 P), (@o359 P), (@o45 P), (@o46 P), (@o52 P), (@o53 P), (@o54 P), (@o55 P), (@o56 P), (@o57 P), (@o58 P), (@o59 P), (@o60 P), (@o61 P), (@o62 P), (@o63 P), (@o64 P), (@o65 P), (@o66 P), (@o67 P), (@o68 P), (@o69 P), (@o70 P), (@o71 P), (@o72 P), (@o73 P), (@o74 P), (@o75 P), (@o76 P), (@o77 P), (@o78 P), (@o79 P), (@o80 P), (@o81 P), (@o88 P), (@o83 P), (@o84 P), (@o85 P), (@o89 P), (@o90 P), (@o91 P), (@o92 P), (@o93 P), (@o94 P), (@o95 P), (@o96 P), (@o97 P), (@o98 P), (@o99 P), (@o100 P), (@o101 P), (@o102 P), (@o103 P), (@o104 P), (@o105 P), (@o106 P), (@o107 P), (@o108 P), (@o109 P), (@o110 P), (@o111 P), (@o112 P), (@o113 P), (@o114 P), (@o115 P), (@o116 P), (@o117 P), (@o118 P), (@o119 P), (@o120 P), (@o121 P), (@o122 P), (@o123 P), (@o124 P), (@o125 P), (@o126 P), (@o127 P), (@o128 P), (@o131 P), (@o132 P), (@o133 P), (@o134 P), (@o135 P), (@o136 P), (@o137 P), (@o138 P), (@o139 P), (@o140 P), (@o141 P), (@o142 P), (@o143 P), (@o144 P), (@o145 P), (@o146 P), (@o147 P), (@o148 P), (@o149 P), (@o150 P), (@o151 P), (@o152 P), (@o153 P), (@o154 P), (@o155 P), (@o156 P), (@o157 P), (@o158 P), (@o159 P), (@o160 P), (@o161 P), (@o162 P), (@o163 P), (@o164 P), (@o165 P), (@o166 P), (@o167 P), (@o168 P), (@o169 P), (@o170 P), (@o171 P), (@o172 P), (@o173 P), (@o174 P), (@o175 P), (@o176 P), (@o177 P), (@o178 P), (@o179 P), (@o180 P), (@o181 P), (@o182 P), (@o183 P), (@o184 P), (@o185 P), (@o186 P), (@o187 P), (@o188 P), (@o189 P), (@o190 P), (@o191 P), (@o192 P), (@o193 P), (@o194 P), (@o195 P), (@o196 P), (@o197 P), (@o198 P), (@o199 P), (@o200 P), (@o201 P), (@o202 P), (@o203 P), (@o204 P), (@o205 P), (@o208 P), (@o209 P), (@o210 P), (@o211 P), (@o212 P), (@o213 P), (@o214 P), (@o215 P), (@o216 P), (@o217 P), (@o218 P), (@o219 P), (@o220 P), (@o221 P), (@o222 P), (@o223 P), (@o224 P), (@o225 P), (@o226 P), (@o227 P), (@o228 P), (@o229 P), (@o230 P), (@o231 P), (@o232 P), (@o233 P), (@o234 P), (@o235 P), (@o236 P), (@o237 P), (@o238 P), (@o239 P), (@o240 P), (@o241 P), (@o242 P), (@o245 P), (@o246 P), (@o247 P), (@o248 P), (@o249 P), (@o250 P), (@o251 P), (@o252 P), (@o253 P), (@o254 P), (@o255 P), (@o256 P), (@o257 P), (@o258 P), (@o259 P), (@o260 P), (@o261 P), (@o262 P), (@o263 P), (@o264 P), (@o265 P), (@o266 P), (@o267 P), (@o268 P), (@o269 P), (@o270 P), (@o271 P), (@o272 P), (@o273 P), (@o274 P), (@o275 P), (@o276 P), (@o277 P), (@o278 P), (@o279 P), (@o280 P), (@o281 P), (@o282 P), (@o283 P), (@o284 P), (@o285 P), (@o286 P), (@o287 P), (@o288 P), (@o289 P), (@o290 P), (@o291 P), (@o292 P), (@o293 P), (@o294 P), (@o295 P), (@o296 P), (@o297 P), (@o298 P), (@o299 P), (@o300 P), (@o301 P), (@o302 P), (@o310 P), (@o304 P), (@o305 P), (@o306 P), (@o307 P), (@o311 P), (@o312 P), (@o313 P), (@o314 P), (@o315 P), (@o316 P), (@o317 P), (@o318 P), (@o319 P), (@o320 P), (@o321 P), (@o322 P), (@o323 P), (@o324 P), (@o325 P), (@o326 P), (@o327 P), (@o328 P), (@o329 P), (@o330 P), (@o331 P), (@o332 P), (@o333 P), (@o334 P), (@o335 P), (@o336 P), (@o337 P), (@o338 P), (@o339 P), (@o340 P), (@o341 P), (@o342 P), (@o343 P), (@o344 P), (@o345 P), (@o346 P), (@o347 P), (@o348 P), (@o349 P), (@o350 P), (@o351 P), (@o352 P), (@o353 P), (@o354 P), (@o355 P), (@o356 P), (@o357 P), (@o360 P), (@o361 P), (@o362 P), (@o363 P), (@o364 P), (@o365 P), (@o366 P), (@o367 P), (@o368 P), (@o369 P), (@o370 P), (@o371 P), (@o372 P), (@o373 P), (@o374 P), (@o375 P), (@o376 P), (@o377 P), (@o378 P), (@o379 P), (@o380 P), (@o381 P), (@o382 P), (@o383 P), (@o384 P), (@o385 P), (@o386 P), (@o387 P), (@o388 P), (@o389 P), (@o390 P), (@o391 P), (@o392 P), (@o393 P), (@o394 P), (@o395 P), (@o396 P), (@o397 P), (@o398 P), (@o399 P), (@o400 P), (@o401 P), (@o402 P), (@o403 P), (@o404 P), (@o405 P), (@o406 P), (@o407 P)]) (@PySem.Life.mk [] [] [] 0 [] [] Bool.false (@List.toArray Nat []) [] 0 Bool.false Bool.false Bool.false 0 [2000, 10, 10] Bool.false 0 Bool.true [] [] 0 Bool.false))


noncomputable def envT : Env := Env.mk PySem.Challenge.pw_xm0755_01.main.scope mainNs mainNs [] Str.empty none (.ref 13) (some 14) 0
noncomputable def cd : Code := .body (behindTheImports PySem.Challenge.pw_xm0755_01) envT
noncomputable def fr : List Frame := [topFrame ⟨0, 0, 0, 0⟩]
theorem seg_quick {p : Program} {w : World} {n₀ : Nat} {ann : Option Value} {b n : Nat} {s : SharedT} {t : Thread} {r : Option (Flow × SharedT × Code × Pos)} (h : PySem.W.Fast.tw10110043849684766642 PySem.W.Fast.tw14364793385576792824 p w n₀ ann b n s t = r) : segRunT treeTable p w n₀ ann b n s t = r := by
  rw [PySem.W.Fast.te10110043849684766642, PySem.W.Fast.te14364793385576792824]; exact h

noncomputable def sts0 : List Stmt := [stAt 0, stAt 1, stAt 2, stAt 3, stAt 4, stAt 5]
noncomputable def sts1 : List Stmt := [stAt 6, stAt 7, stAt 8, stAt 9, stAt 10, stAt 11, stAt 12, stAt 13, stAt 14, stAt 15]
noncomputable def sts2 : List Stmt := [stAt 16, stAt 17, stAt 18, stAt 19, stAt 20, stAt 21, stAt 22, stAt 23, stAt 24, stAt 25, stAt 26, stAt 27, stAt 28, stAt 29]
noncomputable def sts3 : List Stmt := [stAt 30, stAt 31, stAt 32]
noncomputable def sts4 : List Stmt := [stAt 33]
noncomputable def sts5 : List Stmt := [stAt 34, stAt 35, stAt 36]
noncomputable def sts6 : List Stmt := [stAt 37, stAt 38, stAt 39, stAt 40, stAt 41, stAt 42, stAt 43, stAt 44]
noncomputable def rest7 : List Stmt := []
noncomputable def rest6 : List Stmt := sts6 ++ rest7
noncomputable def rest5 : List Stmt := sts5 ++ rest6
noncomputable def rest4 : List Stmt := sts4 ++ rest5
noncomputable def rest3 : List Stmt := sts3 ++ rest4
noncomputable def rest2 : List Stmt := sts2 ++ rest3
noncomputable def rest1 : List Stmt := sts1 ++ rest2
noncomputable def rest0 : List Stmt := sts0 ++ rest1
theorem body_eq : behindTheImports PySem.Challenge.pw_xm0755_01 = rest0 := by kernel_rfl
theorem quick0 (w : World) (os : OsState) : PySem.W.Fast.tw10110043849684766642 PySem.W.Fast.tw14364793385576792824 PySem.Challenge.pw_xm0755_01 w 11 (some (.ref 6)) 1 316 (SharedT.mk (tree47 w.params) 15 {} (Array.mk []) ⟨0, 0, 0, 0⟩ 187 os) (piecesOf sts0 envT cd ⟨0, 0, 0, 0⟩ fr) = some (.next, (SharedT.mk (tree85 w.params) 49 {} (Array.mk []) ⟨0, 0, 0, 0⟩ 238 os), cd, ⟨10, 0, 13, 30⟩) := by kernel_rfl
theorem piece0 (w : World) (os : OsState) : segRun treeTable PySem.Challenge.pw_xm0755_01 w 11 (some (.ref 6)) 1 316 (SharedT.mk (tree47 w.params) 15 {} (Array.mk []) ⟨0, 0, 0, 0⟩ 187 os).abs (piecesOf sts0 envT cd ⟨0, 0, 0, 0⟩ fr) = some (.next, (SharedT.mk (tree85 w.params) 49 {} (Array.mk []) ⟨0, 0, 0, 0⟩ 238 os).abs, cd, ⟨10, 0, 13, 30⟩) := segRun_of (seg_quick (quick0 w os))
theorem quick1 (w : World) (os : OsState) : PySem.W.Fast.tw10110043849684766642 PySem.W.Fast.tw14364793385576792824 PySem.Challenge.pw_xm0755_01 w 11 (some (.ref 6)) 1 381 (SharedT.mk (tree85 w.params) 49 {} (Array.mk []) ⟨0, 0, 0, 0⟩ 238 os) (piecesOf sts1 envT cd ⟨10, 0, 13, 30⟩ fr) = some (.next, (SharedT.mk (tree128 w.params) 89 {} (Array.mk []) ⟨0, 0, 0, 0⟩ 298 os), cd, ⟨28, 0, 30, 43⟩) := by kernel_rfl
theorem piece1 (w : World) (os : OsState) : segRun treeTable PySem.Challenge.pw_xm0755_01 w 11 (some (.ref 6)) 1 381 (SharedT.mk (tree85 w.params) 49 {} (Array.mk []) ⟨0, 0, 0, 0⟩ 238 os).abs (piecesOf sts1 envT cd ⟨10, 0, 13, 30⟩ fr) = some (.next, (SharedT.mk (tree128 w.params) 89 {} (Array.mk []) ⟨0, 0, 0, 0⟩ 298 os).abs, cd, ⟨28, 0, 30, 43⟩) := segRun_of (seg_quick (quick1 w os))
theorem quick2 (w : World) (os : OsState) : PySem.W.Fast.tw10110043849684766642 PySem.W.Fast.tw14364793385576792824 PySem.Challenge.pw_xm0755_01 w 11 (some (.ref 6)) 1 355 (SharedT.mk (tree128 w.params) 89 {} (Array.mk []) ⟨0, 0, 0, 0⟩ 298 os) (piecesOf sts2 envT cd ⟨28, 0, 30, 43⟩ fr) = some (.next, (SharedT.mk (tree205 w.params) 164 {} (Array.mk []) ⟨0, 0, 0, 0⟩ 391 os), cd, ⟨69, 0, 72, 16⟩) := by kernel_rfl
theorem piece2 (w : World) (os : OsState) : segRun treeTable PySem.Challenge.pw_xm0755_01 w 11 (some (.ref 6)) 1 355 (SharedT.mk (tree128 w.params) 89 {} (Array.mk []) ⟨0, 0, 0, 0⟩ 298 os).abs (piecesOf sts2 envT cd ⟨28, 0, 30, 43⟩ fr) = some (.next, (SharedT.mk (tree205 w.params) 164 {} (Array.mk []) ⟨0, 0, 0, 0⟩ 391 os).abs, cd, ⟨69, 0, 72, 16⟩) := segRun_of (seg_quick (quick2 w os))
theorem quick3 (w : World) (os : OsState) : PySem.W.Fast.tw10110043849684766642 PySem.W.Fast.tw14364793385576792824 PySem.Challenge.pw_xm0755_01 w 11 (some (.ref 6)) 1 298 (SharedT.mk (tree205 w.params) 164 {} (Array.mk []) ⟨0, 0, 0, 0⟩ 391 os) (piecesOf sts3 envT cd ⟨69, 0, 72, 16⟩ fr) = some (.next, (SharedT.mk (tree242 w.params) 199 {} (Array.mk []) ⟨0, 0, 0, 0⟩ 442 os), cd, ⟨84, 0, 84, 8⟩) := by kernel_rfl
theorem piece3 (w : World) (os : OsState) : segRun treeTable PySem.Challenge.pw_xm0755_01 w 11 (some (.ref 6)) 1 298 (SharedT.mk (tree205 w.params) 164 {} (Array.mk []) ⟨0, 0, 0, 0⟩ 391 os).abs (piecesOf sts3 envT cd ⟨69, 0, 72, 16⟩ fr) = some (.next, (SharedT.mk (tree242 w.params) 199 {} (Array.mk []) ⟨0, 0, 0, 0⟩ 442 os).abs, cd, ⟨84, 0, 84, 8⟩) := segRun_of (seg_quick (quick3 w os))
theorem quick4 (w : World) (os : OsState) : PySem.W.Fast.tw10110043849684766642 PySem.W.Fast.tw14364793385576792824 PySem.Challenge.pw_xm0755_01 w 11 (some (.ref 6)) 1 415 (SharedT.mk (tree242 w.params) 199 {} (Array.mk []) ⟨0, 0, 0, 0⟩ 442 os) (piecesOf sts4 envT cd ⟨84, 0, 84, 8⟩ fr) = some (.next, (SharedT.mk (tree307 w.params) 262 {} (Array.mk []) ⟨0, 0, 0, 0⟩ 519 os), cd, ⟨85, 0, 111, 16⟩) := by kernel_rfl
theorem piece4 (w : World) (os : OsState) : segRun treeTable PySem.Challenge.pw_xm0755_01 w 11 (some (.ref 6)) 1 415 (SharedT.mk (tree242 w.params) 199 {} (Array.mk []) ⟨0, 0, 0, 0⟩ 442 os).abs (piecesOf sts4 envT cd ⟨84, 0, 84, 8⟩ fr) = some (.next, (SharedT.mk (tree307 w.params) 262 {} (Array.mk []) ⟨0, 0, 0, 0⟩ 519 os).abs, cd, ⟨85, 0, 111, 16⟩) := segRun_of (seg_quick (quick4 w os))
theorem quick5 (w : World) (os : OsState) : PySem.W.Fast.tw10110043849684766642 PySem.W.Fast.tw14364793385576792824 PySem.Challenge.pw_xm0755_01 w 11 (some (.ref 6)) 1 383 (SharedT.mk (tree307 w.params) 262 {} (Array.mk []) ⟨0, 0, 0, 0⟩ 519 os) (piecesOf sts5 envT cd ⟨85, 0, 111, 16⟩ fr) = some (.next, (SharedT.mk (tree357 w.params) 309 {} (Array.mk []) ⟨0, 0, 0, 0⟩ 580 os), cd, ⟨126, 0, 132, 46⟩) := by kernel_rfl
theorem piece5 (w : World) (os : OsState) : segRun treeTable PySem.Challenge.pw_xm0755_01 w 11 (some (.ref 6)) 1 383 (SharedT.mk (tree307 w.params) 262 {} (Array.mk []) ⟨0, 0, 0, 0⟩ 519 os).abs (piecesOf sts5 envT cd ⟨85, 0, 111, 16⟩ fr) = some (.next, (SharedT.mk (tree357 w.params) 309 {} (Array.mk []) ⟨0, 0, 0, 0⟩ 580 os).abs, cd, ⟨126, 0, 132, 46⟩) := segRun_of (seg_quick (quick5 w os))
theorem quick6 (w : World) (os : OsState) : PySem.W.Fast.tw10110043849684766642 PySem.W.Fast.tw14364793385576792824 PySem.Challenge.pw_xm0755_01 w 11 (some (.ref 6)) 1 231 (SharedT.mk (tree357 w.params) 309 {} (Array.mk []) ⟨0, 0, 0, 0⟩ 580 os) (piecesOf sts6 envT cd ⟨126, 0, 132, 46⟩ fr) = some (.next, (SharedT.mk (tree407 w.params) 357 {} (Array.mk []) ⟨0, 0, 0, 0⟩ 642 os), cd, ⟨181, 0, 195, 15⟩) := by kernel_rfl
theorem piece6 (w : World) (os : OsState) : segRun treeTable PySem.Challenge.pw_xm0755_01 w 11 (some (.ref 6)) 1 231 (SharedT.mk (tree357 w.params) 309 {} (Array.mk []) ⟨0, 0, 0, 0⟩ 580 os).abs (piecesOf sts6 envT cd ⟨126, 0, 132, 46⟩ fr) = some (.next, (SharedT.mk (tree407 w.params) 357 {} (Array.mk []) ⟨0, 0, 0, 0⟩ 642 os).abs, cd, ⟨181, 0, 195, 15⟩) := segRun_of (seg_quick (quick6 w os))
noncomputable def S0 (w : World) (os : OsState) : Shared := ⟨boot_heap w.params, Array.mk [], boot_drawn, boot_toks, os⟩
noncomputable def Sa (w : World) (os : OsState) : Shared := ⟨heap46 w.params, Array.mk [], ⟨0, 0, 0, 0⟩, 187, os⟩
noncomputable def S1 (w : World) (os : OsState) : Shared := ⟨heap408 w.params, Array.mk [], ⟨0, 0, 0, 0⟩, 642, os⟩
theorem pre (w : World) (os : OsState) : topGo treeTable PySem.Challenge.pw_xm0755_01 w 11 (some (.ref 6)) 12 (S0 w os) (topStub PySem.Challenge.pw_xm0755_01) = some (Sa w os, ⟨denote treeTable (.body (behindTheImports PySem.Challenge.pw_xm0755_01) envT), cd, ⟨0, 0, 0, 0⟩, [topFrame ⟨0, 0, 0, 0⟩]⟩) := by kernel_rfl
theorem block (w : World) (os : OsState) : segRun treeTable PySem.Challenge.pw_xm0755_01 w 11 (some (.ref 6)) 1 1 (Sa w os) (blockOf (behindTheImports PySem.Challenge.pw_xm0755_01) envT cd ⟨0, 0, 0, 0⟩ [topFrame ⟨0, 0, 0, 0⟩]) = some (.next, (SharedT.mk (tree47 w.params) 15 {} (Array.mk []) ⟨0, 0, 0, 0⟩ 187 os).abs, cd, ⟨0, 0, 0, 0⟩) := by kernel_rfl
theorem fin (w : World) (os : OsState) : topRun treeTable PySem.Challenge.pw_xm0755_01 w 11 (some (.ref 6)) 2 (SharedT.mk (tree407 w.params) 357 {} (Array.mk []) ⟨0, 0, 0, 0⟩ 642 os).abs ⟨doneF .next, cd, ⟨181, 0, 195, 15⟩, [topFrame ⟨0, 0, 0, 0⟩]⟩ = some (S1 w os) := by kernel_rfl
theorem from7 (w : World) (os : OsState) : topRun treeTable PySem.Challenge.pw_xm0755_01 w 11 (some (.ref 6)) 2 (SharedT.mk (tree407 w.params) 357 {} (Array.mk []) ⟨0, 0, 0, 0⟩ 642 os).abs (restOf rest7 envT cd ⟨181, 0, 195, 15⟩ [topFrame ⟨0, 0, 0, 0⟩]) = some (S1 w os) := piece_nil (fin w os)
theorem from6 (w : World) (os : OsState) : topRun treeTable PySem.Challenge.pw_xm0755_01 w 11 (some (.ref 6)) (231 + 2) (SharedT.mk (tree357 w.params) 309 {} (Array.mk []) ⟨0, 0, 0, 0⟩ 580 os).abs (restOf rest6 envT cd ⟨126, 0, 132, 46⟩ [topFrame ⟨0, 0, 0, 0⟩]) = some (S1 w os) := piece_app (piece6 w os) (from7 w os)
theorem from5 (w : World) (os : OsState) : topRun treeTable PySem.Challenge.pw_xm0755_01 w 11 (some (.ref 6)) (383 + (231 + 2)) (SharedT.mk (tree307 w.params) 262 {} (Array.mk []) ⟨0, 0, 0, 0⟩ 519 os).abs (restOf rest5 envT cd ⟨85, 0, 111, 16⟩ [topFrame ⟨0, 0, 0, 0⟩]) = some (S1 w os) := piece_app (piece5 w os) (from6 w os)
theorem from4 (w : World) (os : OsState) : topRun treeTable PySem.Challenge.pw_xm0755_01 w 11 (some (.ref 6)) (415 + (383 + (231 + 2))) (SharedT.mk (tree242 w.params) 199 {} (Array.mk []) ⟨0, 0, 0, 0⟩ 442 os).abs (restOf rest4 envT cd ⟨84, 0, 84, 8⟩ [topFrame ⟨0, 0, 0, 0⟩]) = some (S1 w os) := piece_app (piece4 w os) (from5 w os)
theorem from3 (w : World) (os : OsState) : topRun treeTable PySem.Challenge.pw_xm0755_01 w 11 (some (.ref 6)) (298 + (415 + (383 + (231 + 2)))) (SharedT.mk (tree205 w.params) 164 {} (Array.mk []) ⟨0, 0, 0, 0⟩ 391 os).abs (restOf rest3 envT cd ⟨69, 0, 72, 16⟩ [topFrame ⟨0, 0, 0, 0⟩]) = some (S1 w os) := piece_app (piece3 w os) (from4 w os)
theorem from2 (w : World) (os : OsState) : topRun treeTable PySem.Challenge.pw_xm0755_01 w 11 (some (.ref 6)) (355 + (298 + (415 + (383 + (231 + 2))))) (SharedT.mk (tree128 w.params) 89 {} (Array.mk []) ⟨0, 0, 0, 0⟩ 298 os).abs (restOf rest2 envT cd ⟨28, 0, 30, 43⟩ [topFrame ⟨0, 0, 0, 0⟩]) = some (S1 w os) := piece_app (piece2 w os) (from3 w os)
theorem from1 (w : World) (os : OsState) : topRun treeTable PySem.Challenge.pw_xm0755_01 w 11 (some (.ref 6)) (381 + (355 + (298 + (415 + (383 + (231 + 2)))))) (SharedT.mk (tree85 w.params) 49 {} (Array.mk []) ⟨0, 0, 0, 0⟩ 238 os).abs (restOf rest1 envT cd ⟨10, 0, 13, 30⟩ [topFrame ⟨0, 0, 0, 0⟩]) = some (S1 w os) := piece_app (piece1 w os) (from2 w os)
theorem from0 (w : World) (os : OsState) : topRun treeTable PySem.Challenge.pw_xm0755_01 w 11 (some (.ref 6)) (316 + (381 + (355 + (298 + (415 + (383 + (231 + 2))))))) (SharedT.mk (tree47 w.params) 15 {} (Array.mk []) ⟨0, 0, 0, 0⟩ 187 os).abs (restOf rest0 envT cd ⟨0, 0, 0, 0⟩ [topFrame ⟨0, 0, 0, 0⟩]) = some (S1 w os) := piece_app (piece0 w os) (from1 w os)
theorem run (w : World) (os : OsState) : topRun treeTable PySem.Challenge.pw_xm0755_01 w 11 (some (.ref 6)) (12 + (1 + (316 + (381 + (355 + (298 + (415 + (383 + (231 + 2))))))))) (S0 w os) (topStub PySem.Challenge.pw_xm0755_01) = some (S1 w os) :=
  go_top (pre w os) (piece_block (block w os) (by rw [body_eq]; exact from0 w os))
theorem opens (w : World) : (fencedOpening treeTable PySem.Challenge.pw_xm0755_01 w 2500).map (fun s => (s.heap, s.gens, s.drawn, s.toks)) = some (boot_heap w.params, Array.mk [], boot_drawn, boot_toks) :=
  boot_open (by kernel_rfl) (by decide) (fun s => by kernel_rfl) w
theorem size (w : World) : ((boot_heap w.params).isNs mainGlobals && (Array.mk [] : Array GenState).size == 0, (boot_heap w.params).objs.size, (boot_heap w.params).nsMap mainGlobals "__annotations__") = (true, 11, some (Value.ref 6)) := by kernel_rfl
theorem still (w : World) (os : OsState) : (staticsOk (importedModules PySem.Challenge.pw_xm0755_01.main.body) (boot_heap w.params) (heap408 w.params) && namesBound PySem.Challenge.pw_xm0755_01 (heap408 w.params) && gensDone (S1 w os) && laidKept (boot_heap w.params) (heap408 w.params)) = true := by kernel_rfl
theorem look0 (w : World) (os : OsState) : seen ((recsOf seenTop).map (·.name)) (ownsOf seenTop) [] { S1 w os with gens := #[] } = expectedOf seenTop := by kernel_rfl
theorem look1 (w : World) (os : OsState) : (S1 w os).heap.bltView = bltViewBooted := by kernel_rfl
theorem look2 (w : World) (os : OsState) : ((S1 w os).heap.keysOk (looseW seenTop []) ((recsOf seenTop).map (·.name)) ((litsOf seenTop).map (·.1)) ((clssOf seenTop (looseW seenTop [])).map (·.name)) && (S1 w os).heap.accountedOkI (importedModules PySem.Challenge.pw_xm0755_01.main.body) && (S1 w os).heap.isNs mainGlobals && (S1 w os).heap.isNs builtinsNs && tablesOk seenTop (S1 w os).heap && (fun s => xlAt seenTop [] s && recOk [] s) (S1 w os) && (if true then (S1 w os).gens.size == 0 else !leftWithCleanup (S1 w os).gens)) = true := by kernel_rfl
theorem look3 (w : World) (os : OsState) : tabsOk seenTop (S1 w os) = true := by kernel_rfl
theorem look4 (w : World) (os : OsState) : pinSeenD seenTop (drecsOf seenTop) (S1 w os) = pinGoodD (drecsOf seenTop) := by kernel_rfl
theorem look5 (w : World) (os : OsState) : plainSeenE seenTop (looseW seenTop []) (S1 w os) = plainGoodE seenTop (looseW seenTop []) := by kernel_rfl
theorem look6 (w : World) (os : OsState) : plainSeenD seenTop [] (S1 w os) = plainGoodD seenTop [] := by kernel_rfl
theorem look7 (w : World) (os : OsState) : wideSeen seenTop (S1 w os) = wideGood seenTop := by kernel_rfl
theorem look8 (w : World) (os : OsState) : clsSeenW seenTop [] (S1 w os) = clsGoodW seenTop [] := by kernel_rfl
theorem looks (w : World) (os : OsState) : openSeen seenTop [] (importedModules PySem.Challenge.pw_xm0755_01.main.body) (fun s => xlAt seenTop [] s && recOk [] s) true (S1 w os) = openGood seenTop [] := by
  unfold openSeen openGood
  exact looks_pair (look0 w os) (looks_pair (look1 w os) (looks_pair (look2 w os) (looks_pair (look3 w os) (looks_pair (look4 w os) (looks_pair (look5 w os) (looks_pair (look6 w os) (looks_pair (look7 w os) (look8 w os))))))))
theorem left_of {α : Type} {Yf : Shared → α} {Ya : World → α} (h : ∀ w os, Yf (S1 w os) = Ya w) : LeftO PySem.Challenge.pw_xm0755_01 seenTop [] (fun s => xlAt seenTop [] s && recOk [] s) Yf Ya 2500 :=
  LeftO.of_pieces opens size run (by decide) fun w => funext fun os => looks_pair (still w os) (looks_pair (looks w os) (h w os))
end Head
/- the head: the kit's o_head with the view and the run above -/
local macro_rules
  | `(tactic| o_head $H) => `(tactic| (
    refine Mine.PySem.W.holds_open (q := Mine.seenTop) (loose := []) (Xt := fun s => xlAt Mine.seenTop [] s && recOk [] s) (XP := XL Mine.seenTop []) (Yf := Hook.obs $H) (Ya := Hook.val $H) (YP := Hook.says $H) (N := 2500) ?hl (Hook.of $H) (Hook.keeps $H)
      (fun s e => xl_of s (Bool.and_eq_true_iff.mp e).1) XL.keeps (by rfl) (by rfl) (by rfl) (fun s e => recFacts_of (Bool.and_eq_true_iff.mp e).2) (by rfl) (by first | assumption | decide +kernel) (by decide +kernel) ⟨rfl, rfl, rfl, rfl, rfl, by decide +kernel⟩ ?hw ?hc
    (case hl => exact Mine.Head.left_of (fun w os => by kernel_rfl))))
set_option maxHeartbeats 8000000 in
open_top hd for PySem.Challenge.rw_xm0755_01
theorem fill_all : (fun (_ : OpenLaw) (_ : Params → Frag) => True) PySem.Challenge.rw_xm0755_01 Mine.hd.heap_39 := by k_fill; trivial
theorem low {α : Type} {M : Model} {A A' : Around} {t : Sem α} {Q : α → Shared → Prop} {E : Value → Shared → Prop} {s : Shared} (h : wpAny M A t Q E s)
    (h1 : A'.handled = A.handled) (h2 : A'.depth ≤ A.depth) (h3 : A.frames = A'.frames) (h4 : A.guards = A'.guards) (h5 : A'.units ≤ A.units) : wpAny M A' t Q E s :=
  fun Γ p hΓ => h Γ p ⟨hΓ.1.trans h1, Nat.le_trans hΓ.2.1 h2, fun l hl => hΓ.2.2.1 l (h3 ▸ hl), fun g hg => hΓ.2.2.2.1 g (h4 ▸ hg), Nat.le_trans hΓ.2.2.2.2 h5⟩

/-- what the call of a def of the text does, over any caller: D frames, U units at most; what is handed back, and the ledger behind it -/
def Does (w : World) (D U : Nat) (f : Addr) (vs : List Value) (news : List (Addr × Obj)) (R : Value → List (Addr × Obj) → Prop) : Prop :=
  ∀ (p : Program) (loose : List Str) (mean : ExcName → Option Value) (mg mb : Str → Option Value) (dp un : Nat) (gd : Option (List Code)) (cn : Str) (cs : Scope) (a : Addr) (ccd : Value) (cl : List (Str × Addr)) (outer : List Env)
    (A₀ : Around) (base h₀ : Heap) (L : Addr) (m : Str → Option Value) (s : Shared) (Q E : Value → Shared → Prop),
    Below A₀ base outer h₀ → Fr h₀ L s.heap m → (Mine.hd.heap_39 w.params).In h₀ → News h₀ L s.heap news → Top p loose mean mg mb h₀ → cs.kind = .function → dp ≤ D → un ≤ U →
    (∀ r news' h' tk', Fr h₀ L h' m → News h₀ L h' news' → R r news' → Q r { s with heap := h', toks := tk' }) →
    wpAny (model PySem.Challenge.rw_xm0755_01.row.prog w) (ktrTop dp un gd cn cs L a ccd cl outer) (call (.ref f) vs) Q E s

theorem does_of {w : World} {D U : Nat} {f : Addr} {vs : List Value} {news : List (Addr × Obj)} {R : Value → List (Addr × Obj) → Prop}
    (h : ∀ (p : Program) (loose : List Str) (mean : ExcName → Option Value) (mg mb : Str → Option Value) (gd : Option (List Code)) (cn : Str) (cs : Scope) (a : Addr) (ccd : Value) (cl : List (Str × Addr)) (outer : List Env)
    (A₀ : Around) (base h₀ : Heap) (L : Addr) (m : Str → Option Value) (s : Shared) (Q E : Value → Shared → Prop),
    Below A₀ base outer h₀ → Fr h₀ L s.heap m → (Mine.hd.heap_39 w.params).In h₀ → News h₀ L s.heap news → Top p loose mean mg mb h₀ → cs.kind = .function →
    (∀ r news' h' tk', Fr h₀ L h' m → News h₀ L h' news' → R r news' → Q r { s with heap := h', toks := tk' }) →
    wpAny (model PySem.Challenge.rw_xm0755_01.row.prog w) (ktrTop D U gd cn cs L a ccd cl outer) (call (.ref f) vs) Q E s) : Does w D U f vs news R :=
  fun p loose mean mg mb _ _ gd cn cs a ccd cl outer A₀ base h₀ L m s Q E B F X N T hk hd hu ret =>
    low (h p loose mean mg mb gd cn cs a ccd cl outer A₀ base h₀ L m s Q E B F X N T hk ret) rfl hd rfl rfl hu

theorem Does.use {w : World} {D U : Nat} {f : Addr} {vs : List Value} {news : List (Addr × Obj)} {R : Value → List (Addr × Obj) → Prop} (c : Does w D U f vs news R)
    {p : Program} {loose : List Str} {mean : ExcName → Option Value} {mg mb : Str → Option Value} {dp un : Nat} {gd : Option (List Code)} {cn : Str} {cs : Scope} {a : Addr} {ccd : Value} {cl : List (Str × Addr)} {outer : List Env}
    {A₀ : Around} {base h₀ : Heap} {L : Addr} {m : Str → Option Value} {s : Shared} {Q E : Value → Shared → Prop}
    (B : Below A₀ base outer h₀) (F : Fr h₀ L s.heap m) (X : (Mine.hd.heap_39 w.params).In h₀) (N : News h₀ L s.heap news) (T : Top p loose mean mg mb h₀) (hk : cs.kind = .function) (hd : dp ≤ D) (hu : un ≤ U)
    (ret : ∀ r news' h' tk', Fr h₀ L h' m → News h₀ L h' news' → R r news' → Q r { s with heap := h', toks := tk' }) :
    wpAny (model PySem.Challenge.rw_xm0755_01.row.prog w) (ktrTop dp un gd cn cs L a ccd cl outer) (call (.ref f) vs) Q E s :=
  c p loose mean mg mb dp un gd cn cs a ccd cl outer A₀ base h₀ L m s Q E B F X N T hk hd hu ret

/-- a source of draws: a list of two ints, the second below 2^31 - 1 -/
def SrcOk (o : Obj) : Prop := ∃ (x : Int) (tx : Tok) (y : Int) (ty : Tok) (n : Nat), o = listOf [Value.int x tx, Value.int y ty].toArray n ∧ 0 ≤ x ∧ 0 ≤ y ∧ y < 2147483647

section
variable {prog : Program} {w : World} {A : Around} {E : Value → Shared → Prop} {s : Shared} {h₀ : Heap} {L a : Addr} {m : Str → Option Value} {news : List (Addr × Obj)}
theorem item_led {value slice : Expr} {vs : List Value} {n : Nat} {k : Int} {u : Tok} {v : Value} {Q : Value → Shared → Prop} (N : News h₀ L s.heap news) (hm : (a, listOf vs.toArray n) ∈ news)
    (h0 : 0 ≤ k) (hhi : k < 2 ^ 63) (hx : vs[k.toNat]? = some v) (h : Q v s)
    (hs : subscripted slice false (.ref a) (.int k u) = operate [.ref a, .int k u] (getItem (.ref a) (.int k u)) := by with_unfolding_all rfl) :
    wpAny (model prog w) A (subscriptTail value slice (.ref a) (.int k u)) Q E s :=
  tail_any (News.isList N hm).typeIs slot_list_getitem.lookup (wpAny_getItem_list (News.isList N hm) h0 hhi (by simpa using hx) h) hs
end
theorem news_sub {h₀ h : Heap} {L : Addr} {news news' : List (Addr × Obj)} (N : News h₀ L h news) (hs : ∀ p ∈ news', p ∈ news) : News h₀ L h news' := fun p hp => N p (hs p hp)
theorem mem_front {S : Addr} {o : Obj} {pre post : List (Addr × Obj)} : ∀ p ∈ (S, o) :: (pre ++ post), p ∈ pre ++ (S, o) :: post := by
  intro p hp
  rcases List.mem_cons.mp hp with rfl | hp
  · exact List.mem_append_right _ List.mem_cons_self
  · rcases List.mem_append.mp hp with hp | hp
    · exact List.mem_append_left _ hp
    · exact List.mem_append_right _ (List.mem_cons_of_mem _ hp)
theorem mem_back {S : Addr} {o : Obj} {pre post : List (Addr × Obj)} : ∀ p ∈ pre ++ (S, o) :: post, p ∈ (S, o) :: (pre ++ post) := by
  intro p hp
  rcases List.mem_append.mp hp with hp | hp
  · exact List.mem_cons_of_mem _ (List.mem_append_left _ hp)
  · rcases List.mem_cons.mp hp with rfl | hp
    · exact List.mem_cons_self
    · exact List.mem_cons_of_mem _ (List.mem_append_right _ hp)
theorem off_both {S : Addr} {pre post : List (Addr × Obj)} (h1 : ∀ p ∈ pre, p.1 ≠ S) (h2 : ∀ p ∈ post, p.1 ≠ S) : ∀ p ∈ pre ++ post, p.1 ≠ S := fun p hp => by
  rcases List.mem_append.mp hp with hp | hp
  · exact h1 p hp
  · exact h2 p hp
theorem mem_rest {S t : Addr} {o x : Obj} {pre post : List (Addr × Obj)} (h : (t, x) ∈ pre ++ (S, o) :: post) (hne : t ≠ S) : (t, x) ∈ pre ++ post := by
  rcases List.mem_append.mp h with h | h
  · exact List.mem_append_left _ h
  · rcases List.mem_cons.mp h with h | h
    · exact absurd (congrArg Prod.fst h) hne
    · exact List.mem_append_right _ h

section
variable {prog : Program} {w : World} {A : Around} {E : Value → Shared → Prop} {s : Shared} {h₀ : Heap} {L a : Addr} {m : Str → Option Value} {news : List (Addr × Obj)}
theorem item_any {value slice : Expr} {vs : List Value} {n : Nat} {k : Int} {u : Tok} {Q : Value → Shared → Prop} (N : News h₀ L s.heap news) (hm : (a, listOf vs.toArray n) ∈ news)
    (h0 : 0 ≤ k) (h1 : k < (vs.length : Int)) (hhi : k < 2 ^ 63) (h : ∀ v, v ∈ vs → vs[k.toNat]? = some v → Q v s)
    (hs : subscripted slice false (.ref a) (.int k u) = operate [.ref a, .int k u] (getItem (.ref a) (.int k u)) := by with_unfolding_all rfl) :
    wpAny (model prog w) A (subscriptTail value slice (.ref a) (.int k u)) Q E s := by
  have hlt : k.toNat < vs.length := by omega
  have hx : vs[k.toNat]? = some vs[k.toNat] := List.getElem?_eq_getElem hlt
  exact item_led N hm h0 hhi hx (h _ (List.getElem_mem hlt) hx) hs
theorem len_led {vs : List Value} {n : Nat} {Q : Value → Shared → Prop} (N : News h₀ L s.heap news) (hm : (a, listOf vs.toArray n) ∈ news) (hfit : vs.length < 2 ^ 62)
    (h : ∀ t k, Q (.int (vs.length : Nat) t) { s with toks := k }) : wpAny (model prog w) A (call (.builtin "len") [.ref a]) Q E s := by
  refine Calls.call_len_list (News.isList N hm) (by simp only [List.size_toArray]; omega) ?_
  simp only [List.size_toArray]
  exact h _ _
end
theorem item_byte {prog : Program} {w : World} {A : Around} {E : Value → Shared → Prop} {s : Shared} {value slice : Expr} {b : Array UInt8} {t : Tok} {ks : List Int} {i k : Int} {ui : Tok} {Q : Value → Shared → Prop} (hk : KBw.bInts b = ks) (hfit : ks.length ≤ 1099511627776) (h0 : 0 ≤ i) (hx : ks[i.toNat]? = some k)
    (h : ∀ t' tk, Q (.int k t') { s with toks := tk })
    (hs : subscripted slice false (.bytes b t) (.int i ui) = operate [.bytes b t, .int i ui] (getItem (.bytes b t) (.int i ui)) := by with_unfolding_all rfl)
    (ht : ∀ r, letTemporaryGo value (.bytes b t) r = pure () := by intro _; with_unfolding_all rfl) : wpAny (model prog w) A (subscriptTail value slice (.bytes b t) (.int i ui)) Q E s := by
  have hlt : i < (ks.length : Int) := by
    have := (List.getElem?_eq_some_iff.mp hx).1; omega
  refine KBw.item_K hk hfit h0 hlt ?_ hs ht
  intro t' tk _ _
  rw [List.getD_eq_getElem?_getD, hx]
  exact h t' tk

theorem allLt_ne {l : List (Addr × Obj)} {d c : Addr} (h : AllLt d l) (hc : d ≤ c) : ∀ p ∈ l, p.1 ≠ c := by
  induction l with
  | nil => intro p hp; cases hp
  | cons q r ih =>
    intro p hp
    rcases List.mem_cons.mp hp with rfl | hp
    · exact Nat.ne_of_lt (Nat.lt_of_lt_of_le h.1 hc)
    · exact ih h.2 p hp
theorem allLt_ne0 {l : List (Addr × Obj)} {d : Nat} (h : AllLt d l) : ∀ p ∈ l, p.1 ≠ d := allLt_ne h (Nat.le_refl _)
theorem allLt_ne1 {l : List (Addr × Obj)} {d : Nat} (h : AllLt d l) : ∀ p ∈ l, p.1 ≠ d + 1 := allLt_ne h (Nat.le_succ _)
theorem allLt_ne2 {l : List (Addr × Obj)} {d : Nat} (h : AllLt d l) : ∀ p ∈ l, p.1 ≠ d + 1 + 1 := allLt_ne h (Nat.le_trans (Nat.le_succ _) (Nat.le_succ _))
theorem lt_ne0 {l : List (Addr × Obj)} {d : Nat} (h : ∀ p ∈ l, p.1 < d) : ∀ p ∈ l, p.1 ≠ d := allLt_ne0 (allLt_of h)
theorem lt_ne1 {l : List (Addr × Obj)} {d : Nat} (h : ∀ p ∈ l, p.1 < d) : ∀ p ∈ l, p.1 ≠ d + 1 := allLt_ne1 (allLt_of h)
theorem lt_ne2 {l : List (Addr × Obj)} {d : Nat} (h : ∀ p ∈ l, p.1 < d) : ∀ p ∈ l, p.1 ≠ d + 1 + 1 := allLt_ne2 (allLt_of h)
/-- a goal that the walk is to leave alone -/
def Hold (P : Prop) : Prop := P
theorem hold {P : Prop} (h : Hold P) : P := h
theorem pow128_ne (e : Nat) : (128 : Int) ^ e ≠ 0 := Int.ne_of_gt (by
  induction e with
  | zero => decide
  | succ e ih => rw [Int.pow_succ]; exact Int.mul_pos ih (by decide))
theorem pow128_py {x : Int} {e : Nat} (he : e ≤ 7) : Builtin.divisionGoesByPylong x ((128 : Int) ^ e) = false := by
  refine PyProof.noPylong_of_log2 ?_
  have h : ∀ e : Nat, e ≤ 7 → ((128 : Int) ^ e).natAbs.log2 < 9000 := by decide +kernel
  exact h e he
theorem rest_ind {prog : Program} {w : World} {A : Around} {h₀ : Heap} {L : Addr} {m : Str → Option Value} {env : Env} {elt : Expr} {x : Str} {scope : Scope} {cl : List (Str × Addr)} {s : Shared} {S : List (Addr × Obj) → Prop} {P : Nat → Value → Prop}
    {Fin : List Value → List (Addr × Obj) → Prop} {n : Nat} {news₀ : List (Addr × Obj)} (J : Nat → List Value → List (Addr × Obj) → Prop) (h0 : J 0 [] news₀)
    (turn : ∀ i ys news v I oI C oC D m₂ h tk (E' : Value → Shared → Prop), i < n → J i ys news → P i v → LCg.NsObj oC m₂ → m₂ x = some v → Fr h₀ L h m → News h₀ L h ((I, oI) :: (C, oC) :: (D, LCg.lst ys) :: news) → LCg.Off3 I C D news → ((@Ne Nat I C) ∧ (@Ne Nat I D) ∧ (@Ne Nat C D)) →
      wpAny (model prog w) A (eval elt (compEnvC scope cl C env)) (LCg.CompEnd h₀ L m { s with heap := h, toks := tk } I oI C oC D (LCg.lst ys) S (fun y news' => J (i + 1) (ys ++ [y]) news')) E' { s with heap := h, toks := tk })
    (fin : ∀ ys news, J n ys news → Fin ys news) : LCg.CompRest prog w A h₀ L m env elt x scope cl s S P Fin n 0 [] news₀ := by
  have key : ∀ (j i : Nat) (ys : List Value) (news : List (Addr × Obj)), i + j = n → J i ys news → LCg.CompRest prog w A h₀ L m env elt x scope cl s S P Fin j i ys news := by
    intro j
    induction j with
    | zero =>
      intro i ys news hi hJ
      obtain rfl : i = n := by omega
      exact LCg.CompRest.zero (fin ys news hJ)
    | succ j ih =>
      intro i ys news hi hJ
      refine LCg.CompRest.succ ?_
      intro v I oI C oC D m₂ h tk E' hv hC hx F N off ne
      refine wpAny_mono (turn i ys news v I oI C oC D m₂ h tk E' (by omega) hJ hv hC hx F N off ne) (fun y s₂ hq => ?_) fun _ _ e => e
      obtain ⟨h', tk', nw, e, F', N', off', hS, hJ'⟩ := hq
      exact ⟨h', tk', nw, e, F', N', off', hS, ih (i + 1) _ nw (by omega) hJ'⟩
  exact key n 0 [] news₀ (by omega) h0
local macro_rules | `(tactic| k_mem) => `(tactic| first | assumption | exact List.mem_cons_self | (refine List.mem_cons_of_mem _ ?_; k_mem))
local macro_rules | `(tactic| k_all) => `(tactic| first | assumption | exact lt_ne0 (by assumption) | exact lt_ne1 (by assumption) | exact lt_ne2 (by assumption) | exact allLt_ne0 (by assumption) | exact allLt_ne0 (And.right (by assumption)) | exact allLt_ne0 (And.right (And.right (by assumption))) | exact allLt_ne0 (And.right (And.right (And.right (by assumption)))) | exact allLt_ne0 (And.right (And.right (And.right (And.right (by assumption))))) | exact allLt_ne1 (by assumption) | exact allLt_ne1 (And.right (by assumption)) | exact allLt_ne1 (And.right (And.right (by assumption))) | exact allLt_ne1 (And.right (And.right (And.right (by assumption)))) | exact allLt_ne1 (And.right (And.right (And.right (And.right (by assumption))))) | exact allLt_ne2 (by assumption) | exact allLt_ne2 (And.right (by assumption)) | exact allLt_ne2 (And.right (And.right (by assumption))) | exact allLt_ne2 (And.right (And.right (And.right (by assumption)))) | exact allLt_ne2 (And.right (And.right (And.right (And.right (by assumption))))))
local macro_rules | `(tactic| walk_at "subscriptTail Name Constant ref int") => `(tactic| (k_here; k_dflt (refine' item_led ?a ?b ?c ?d ?e ?_; (case a => k_asm); (case b => k_mem); (case c => decide); (case d => decide); (case e => exact rfl); k_whole)))
local macro_rules | `(tactic| walk_at "call builtin:len") => `(tactic| (k_here; (with_reducible show wpAny _ _ (call (Value.builtin "len") [Value.ref _]) _ _ _); k_dflt (refine' len_led ?a ?b ?c ?_; (case a => k_asm); (case b => k_mem); (case c => first | omega | (simp only [List.length_cons, List.length_nil]; decide)); k_whole); intro _ _; (try simp only [List.length_cons, List.length_nil, Nat.zero_add, Nat.reduceAdd])))
local macro_rules | `(tactic| walk_at "subscriptTail") => `(tactic| (k_here; (with_reducible show wpAny _ _ (subscriptTail _ _ (Value.bytes _ _) (Value.int _ _)) _ _ _); k_dflt (refine' item_byte ?hk ?hf ?h0 ?hx ?_; (case hk => assumption); (case hx => assumption); (case hf => omega); (case h0 => omega); k_whole); intro _ _))
local macro_rules | `(tactic| kn_enter) => `(tactic| (refine' code_defC ?k1 ?k2 ?k3 ?k4 ?k5 ?kA ?kF ?kK ?k6 ?k7 ?k8 ?k9 ?kB ?kD ?_ ?c2 ?c3 ?c4; (case kA => exact rfl); (case kF => exact rfl); (case kK => assumption); (case k1 => k_asm); (case k2 => k_asm); (case k3 => k_asm); (case k4 => k_asm); (case k5 => k_asm); (case k6 => k_is); (case k7 => k_is); (case k8 => exact Nat.le_of_ble_eq_true rfl); (case k9 => exact BindsTo.of_eq rfl); (case kB => exact rfl); (case kD => decide +kernel); (case c2 => exact rfl); (case c3 => exact rfl); (case c4 => exact rfl); k_whole; intro g' L' h' tk' cells' FG' F' N' Y' B' X' T' l1; (try k_lt l1); k_cells Y'; (try simp only [List.cons_append, List.nil_append] at N'); (try dsimp only); (try k_fold)))
/-- the value of a run of groups of seven -/
def vval (l : List Int) : Int := l.foldl (fun a k => a * 128 + k % 128) 0
theorem vval_nil : vval [] = 0 := rfl
theorem vval_snoc (l : List Int) (k : Int) : vval (l ++ [k]) = vval l * 128 + k % 128 := by
  unfold vval; rw [List.foldl_append]; rfl
theorem vval_lo : ∀ (n : Nat) (l : List Int), l.length = n → 0 ≤ vval l ∧ vval l < 128 ^ n
  | 0, l, h => by
    obtain rfl := List.length_eq_zero_iff.mp h
    exact ⟨by decide, by decide⟩
  | n + 1, l, h => by
    have hne : l ≠ [] := fun e => by rw [e] at h; cases h
    have e := List.dropLast_concat_getLast hne
    have hl : l.dropLast.length = n := by rw [List.length_dropLast, h]; rfl
    have ih := vval_lo n l.dropLast hl
    rw [← e, vval_snoc, Int.pow_succ]
    generalize (128 : Int) ^ n = M at ih ⊢
    omega
theorem vval_bound {l : List Int} (h : l.length ≤ 8) : 0 ≤ vval l ∧ vval l < 72057594037927936 := by
  have h1 := vval_lo _ l rfl
  refine ⟨h1.1, Int.lt_of_lt_of_le h1.2 ?_⟩
  have h2 : ∀ k : Nat, k ≤ 8 → (128 : Int) ^ k ≤ 72057594037927936 := by decide
  exact h2 _ h
theorem and_low (a b k : Nat) (h : b < 2 ^ k) : a * 2 ^ k &&& b = 0 := by
  apply Nat.eq_of_testBit_eq
  intro i
  rw [Nat.testBit_and, Nat.zero_testBit, Nat.testBit_mul_two_pow]
  by_cases hi : k ≤ i
  · rw [Nat.testBit_lt_two_pow (Nat.lt_of_lt_of_le h (Nat.pow_le_pow_right (by decide) hi)), Bool.and_false]
  · simp [hi]
theorem or_low {x y : Int} (k : Nat) (hx : 0 ≤ x) (hy : 0 ≤ y) (h : y < 2 ^ k) : Builtin.bitOr (x * 2 ^ k) y = x * 2 ^ k + y := by
  have hp : (0 : Int) < 2 ^ k := kbt_pos k
  rw [bitOr_and, bitAnd_pp (Int.mul_nonneg hx (Int.le_of_lt hp)) hy]
  have e1 : (x * 2 ^ k).toNat = x.toNat * 2 ^ k := by
    obtain ⟨a, rfl⟩ := Int.eq_ofNat_of_zero_le hx
    have : ((a : Int) * 2 ^ k) = ((a * 2 ^ k : Nat) : Int) := by rw [Int.natCast_mul, kbt_cast]
    rw [this]; rfl
  have e2 : y.toNat < 2 ^ k := by
    rw [← kbt_cast] at h; omega
  rw [e1, and_low _ _ _ e2]
  omega
/-- the groups of a number: all but the last bear the sign that more comes -/
def VarOf (init : List Int) (last n : Int) : Prop := (∀ k ∈ init, 128 ≤ k ∧ k < 256) ∧
  ((init.length ≤ 7 ∧ 0 ≤ last ∧ last < 128 ∧ vval init * 128 + last = n) ∨ (init.length = 8 ∧ 0 ≤ last ∧ last < 256 ∧ vval init * 256 + last = n))
theorem or7 {x c : Int} (hx : 0 ≤ x) : Builtin.bitOr (x * 2 ^ (7 : Int).toNat) (Builtin.bitAnd c 127) = x * 128 + c % 128 := by
  rw [bitAnd_m7]
  exact or_low 7 hx (Int.emod_nonneg _ (by decide)) (Int.emod_lt_of_pos _ (by decide))
theorem or8 {x c : Int} (hx : 0 ≤ x) (h0 : 0 ≤ c) (h1 : c < 256) : Builtin.bitOr (x * 2 ^ (8 : Int).toNat) c = x * 256 + c := or_low 8 hx h0 h1
theorem vval_cons (a : Int) : ∀ (l : List Int), vval (a :: l) = (a % 128) * 128 ^ l.length + vval l := by
  have key : ∀ (n : Nat) (l : List Int), l.length = n → vval (a :: l) = (a % 128) * 128 ^ n + vval l := by
    intro n
    induction n with
    | zero =>
      intro l h
      obtain rfl := List.length_eq_zero_iff.mp h
      show 0 * 128 + a % 128 = a % 128 * 1 + 0
      omega
    | succ n ih =>
      intro l h
      have hne : l ≠ [] := fun e => by rw [e] at h; cases h
      have e := List.dropLast_concat_getLast hne
      have hl : l.dropLast.length = n := by rw [List.length_dropLast, h]; rfl
      rw [← e, ← List.cons_append, vval_snoc, vval_snoc, ih _ hl, Int.pow_succ, Int.add_mul, Int.mul_assoc]
      omega
  exact fun l => key _ l rfl
/-- the state of the writing loop -/
def VarLoop (init : List Int) (last r n : Int) : Prop := (∀ k ∈ init, 128 ≤ k ∧ k < 256) ∧ 0 ≤ last ∧ last < 128 ∧ init.length ≤ 7 ∧ 0 ≤ r ∧ r < 128 ^ (7 - init.length) ∧ r * 128 ^ (init.length + 1) + (vval init * 128 + last) = n
theorem VarLoop.start {n : Int} (h0 : 0 ≤ n) (h1 : n < 72057594037927936) : VarLoop [] (n.fmod 128) (n.fdiv 128) n := by
  rw [Int.fmod_eq_emod_of_nonneg _ (by decide), Int.fdiv_eq_ediv_of_nonneg _ (by decide)]
  refine ⟨fun k hk => (nomatch hk), by omega, by omega, by decide, by omega, ?_, ?_⟩
  · show n / 128 < 128 ^ 7
    have : (128 : Int) ^ 7 = 562949953421312 := by decide
    omega
  · show n / 128 * 128 ^ 1 + (0 * 128 + n % 128) = n
    have : (128 : Int) ^ 1 = 128 := by decide
    omega
theorem VarLoop.step {init : List Int} {last r n : Int} (h : VarLoop init last r n) (hr : 0 < r) : VarLoop ((128 + r.fmod 128) :: init) last (r.fdiv 128) n := by
  obtain ⟨h1, h2, h3, h4, h5, h6, h7⟩ := h
  rw [Int.fmod_eq_emod_of_nonneg _ (by decide), Int.fdiv_eq_ediv_of_nonneg _ (by decide)]
  have hl : init.length < 7 := by
    rcases Nat.lt_or_ge init.length 7 with h | h
    · exact h
    · have e : 7 - init.length = 0 := by omega
      rw [e] at h6
      have : r < 1 := h6
      omega
  refine ⟨?_, h2, h3, by rw [List.length_cons]; omega, by omega, ?_, ?_⟩
  · intro k hk
    rcases List.mem_cons.mp hk with rfl | hk
    · omega
    · exact h1 k hk
  · rw [List.length_cons]
    have e : 7 - init.length = (7 - (init.length + 1)) + 1 := by omega
    rw [e, Int.pow_succ] at h6
    generalize (128 : Int) ^ (7 - (init.length + 1)) = M at h6 ⊢
    omega
  · rw [List.length_cons, vval_cons, ← h7, Int.pow_succ 128 (init.length + 1), Int.pow_succ 128 init.length]
    have e : (128 + r % 128) % 128 = r % 128 := by omega
    rw [e]
    generalize (128 : Int) ^ init.length = M
    have hr' : r = 128 * (r / 128) + r % 128 := (Int.mul_ediv_add_emod r 128).symm
    generalize r / 128 = a at hr' ⊢
    generalize r % 128 = b at hr' ⊢
    subst hr'
    grind
theorem VarLoop.done {init : List Int} {last r n : Int} (h : VarLoop init last r n) (hr : ¬ 0 < r) : VarOf init last n := by
  obtain ⟨h1, h2, h3, h4, h5, h6, h7⟩ := h
  obtain rfl : r = 0 := by omega
  rw [Int.zero_mul, Int.zero_add] at h7
  exact ⟨h1, .inl ⟨h4, h2, h3, h7⟩⟩
theorem VarLoop.bytes {init : List Int} {last r n : Int} (h : VarLoop init last r n) : KBa.In (init ++ [last]) := by
  obtain ⟨h1, h2, h3, h4, h5, h6, h7⟩ := h
  intro k hk
  rcases List.mem_append.mp hk with hk | hk
  · have := h1 k hk; omega
  · rw [List.mem_singleton.mp hk]; omega
theorem big_ints (q : Int) : List.map (fun k' => 128 + (q.fdiv (128 ^ (7 - k').toNat)).fmod 128) (rangeKs 0 (8 - 0 : Int).toNat) =
    [128 + q / 562949953421312 % 128, 128 + q / 4398046511104 % 128, 128 + q / 34359738368 % 128, 128 + q / 268435456 % 128, 128 + q / 2097152 % 128, 128 + q / 16384 % 128, 128 + q / 128 % 128, 128 + q / 1 % 128] := by
  have e : ∀ x y : Int, 0 ≤ y → (x.fdiv y).fmod 128 = x / y % 128 := fun x y hy => by rw [Int.fmod_eq_emod_of_nonneg _ (by decide), Int.fdiv_eq_ediv_of_nonneg _ hy]
  have r : rangeKs 0 (8 - 0 : Int).toNat = [0, 1, 2, 3, 4, 5, 6, 7] := by decide
  rw [r]
  simp only [List.map_cons, List.map_nil]
  rw [e _ _ (by decide), e _ _ (by decide), e _ _ (by decide), e _ _ (by decide), e _ _ (by decide), e _ _ (by decide), e _ _ (by decide), e _ _ (by decide)]
  rfl
theorem big_var {n q : Int} {init : List Int} (h0 : 72057594037927936 ≤ n) (h1 : n < 18446744073709551616) (hq : n.fdiv 256 = q)
    (hi : init = [128 + q / 562949953421312 % 128, 128 + q / 4398046511104 % 128, 128 + q / 34359738368 % 128, 128 + q / 268435456 % 128, 128 + q / 2097152 % 128, 128 + q / 16384 % 128, 128 + q / 128 % 128, 128 + q / 1 % 128]) :
    VarOf init (n.fmod 256) n := by
  rw [Int.fdiv_eq_ediv_of_nonneg _ (by decide)] at hq
  rw [Int.fmod_eq_emod_of_nonneg _ (by decide)]
  have e : vval init = q := by
    have e2 : ∀ x : Int, (128 + x % 128) % 128 = x % 128 := by intro x; omega
    have h7 : q / 562949953421312 % 128 = q / 562949953421312 := by omega
    have s6 : q / 562949953421312 * 128 + q / 4398046511104 % 128 = q / 4398046511104 := by omega
    have s5 : q / 4398046511104 * 128 + q / 34359738368 % 128 = q / 34359738368 := by omega
    have s4 : q / 34359738368 * 128 + q / 268435456 % 128 = q / 268435456 := by omega
    have s3 : q / 268435456 * 128 + q / 2097152 % 128 = q / 2097152 := by omega
    have s2 : q / 2097152 * 128 + q / 16384 % 128 = q / 16384 := by omega
    have s1 : q / 16384 * 128 + q / 128 % 128 = q / 128 := by omega
    have s0 : q / 128 * 128 + q / 1 % 128 = q := by omega
    rw [hi]
    unfold vval
    simp only [List.foldl_cons, List.foldl_nil, e2]
    rw [Int.zero_mul, Int.zero_add, h7, s6, s5, s4, s3, s2, s1, s0]
  refine ⟨?_, .inr ⟨by rw [hi]; rfl, by omega, by omega, by rw [e]; omega⟩⟩
  intro k hk
  have e3 : ∀ x : Int, 128 ≤ 128 + x % 128 ∧ 128 + x % 128 < 256 := by intro x; omega
  rw [hi] at hk
  simp only [List.mem_cons, List.not_mem_nil, or_false] at hk
  rcases hk with rfl | rfl | rfl | rfl | rfl | rfl | rfl | rfl <;> exact e3 _
theorem VarOf.bytes {init : List Int} {last n : Int} (h : VarOf init last n) : KBa.In (init ++ [last]) := by
  intro k hk
  rcases List.mem_append.mp hk with hk | hk
  · have := h.1 k hk; omega
  · rw [List.mem_singleton.mp hk]
    rcases h.2 with h | h <;> omega
theorem VarOf.len {init : List Int} {last n : Int} (h : VarOf init last n) : init.length ≤ 8 := by
  rcases h.2 with h | h <;> omega
theorem in_snoc {ks : List Int} {d : Int} (h : KBa.In ks) (h0 : 0 ≤ d) (h1 : d < 256) : KBa.In (ks ++ [d]) := by
  intro k hk
  rcases List.mem_append.mp hk with hk | hk
  · exact h k hk
  · rw [List.mem_singleton.mp hk]; exact ⟨h0, h1⟩
set_option maxHeartbeats 4000000 in
theorem take_does (w : World) (S : Addr) (o : Obj) (rest : List (Addr × Obj)) (top : Int) (tt : Tok) (ho : SrcOk o) (hoff : ∀ p ∈ rest, p.1 ≠ S) (htop : 0 < top) (htop2 : top < 1073741824) :
    Does w 480 480 315 [.ref S, .int top tt] ((S, o) :: rest) (fun r news' => ∃ d td o', r = .int d td ∧ 0 ≤ d ∧ d < top ∧ SrcOk o' ∧ news' = (S, o') :: rest) := by
  obtain ⟨x, tx, y, ty, n, rfl, hx, hy, hy2⟩ := ho
  refine does_of ?_
  intro p loose mean mg mb gd cn cs a ccd cl outer A₀ base h₀ L m s Q E B F X N T hk hret
  refine wpAny_call ?_
  k_dflt cell_enter
  k_steps
  all_goals (refine hret _ _ _ _ (by k_asm) (by k_asm) ⟨_, _, _, rfl, fmod_lo _ htop, fmod_hi _ htop, ⟨_, _, _, _, _, rfl, ?_, ?_, ?_⟩, rfl⟩)
  · rw [Int.fdiv_eq_ediv_of_nonneg _ (Int.le_of_lt htop)]; exact Int.ediv_nonneg hx (Int.le_of_lt htop)
  · exact hy
  · exact hy2
  · exact hx
  · exact fmod_lo _ (by decide)
  · exact fmod_hi _ (by decide)

theorem take_use {w : World} {p : Program} {loose : List Str} {mean : ExcName → Option Value} {mg mb : Str → Option Value} {dp un : Nat} {gd : Option (List Code)} {cn : Str} {cs : Scope} {a : Addr} {ccd : Value} {cl : List (Str × Addr)} {outer : List Env}
    {A₀ : Around} {base h₀ : Heap} {L : Addr} {m : Str → Option Value} {s : Shared} {Q E : Value → Shared → Prop} {news : List (Addr × Obj)} {S : Addr} {o : Obj} {g : Obj → List (Addr × Obj)} {top : Int} {tt : Tok}
    (B : Below A₀ base outer h₀) (F : Fr h₀ L s.heap m) (X : (Mine.hd.heap_39 w.params).In h₀) (N : News h₀ L s.heap news) (T : Top p loose mean mg mb h₀) (hk : cs.kind = .function)
    (U : UpdF S o news g) (ho : SrcOk o) (htop : 0 < top) (htop2 : top < 1073741824) (hd : dp ≤ 480) (hu : un ≤ 480)
    (ret : ∀ d td o' h' tk', 0 ≤ d → d < top → SrcOk o' → Fr h₀ L h' m → News h₀ L h' (g o') → Q (.int d td) { s with heap := h', toks := tk' }) :
    wpAny (model PySem.Challenge.rw_xm0755_01.row.prog w) (ktrTop dp un gd cn cs L a ccd cl outer) (call (.ref 315) [.ref S, .int top tt]) Q E s := by
  obtain ⟨pre, post, rfl, hg, h1, h2⟩ := U.split
  refine (take_does w S o (pre ++ post) top tt ho (off_both h1 h2) htop htop2).use B F X (news_sub N mem_front) T hk hd hu ?_
  rintro r news' h' tk' F' N' ⟨d, td, o', rfl, hd0, hd1, ho', rfl⟩
  exact ret d td o' h' tk' hd0 hd1 ho' F' (by rw [hg o']; exact news_sub N' mem_back)
local macro_rules | `(tactic| walk_at "call ref") => `(tactic| (k_here; (with_reducible show wpAny _ _ (call (Value.ref 315) _) _ _ _); k_dflt (refine' take_use ?k1 ?k2 ?k3 ?k4 ?k5 ?kK ?U ?o ?t1 ?t2 ?hd ?hu ?_; (case k1 => k_asm); (case k2 => k_asm); (case k3 => k_asm); (case k4 => k_asm); (case k5 => k_asm); (case kK => first | exact rfl | assumption); (case U => k_updF); (case o => assumption); (case t1 => first | decide | omega); (case t2 => first | decide | omega); (case hd => exact Nat.le_of_ble_eq_true rfl); (case hu => exact Nat.le_of_ble_eq_true rfl); k_whole); intro d' td' o' h' tk' hdlo' hdhi' hso' F' N'; (try dsimp only at N'); (try k_sweep); walk_say "TAKE"))
set_option maxHeartbeats 4000000 in
theorem one_does (w : World) (S t : Addr) (o : Obj) (rest : List (Addr × Obj)) (vs : List Value) (n : Nat) (ho : SrcOk o) (hoff : ∀ p ∈ rest, p.1 ≠ S) (ht : (t, listOf vs.toArray n) ∈ rest) (hlen : 0 < vs.length) (hlen2 : vs.length < 100) :
    Does w 470 470 322 [.ref S, .ref t] ((S, o) :: rest) (fun r news' => ∃ o', r ∈ vs ∧ SrcOk o' ∧ news' = (S, o') :: rest) := by
  refine does_of ?_
  intro p loose mean mg mb gd cn cs a ccd cl outer A₀ base h₀ L m s Q E B F X N T hk hret
  refine wpAny_call ?_
  k_dflt cell_enter
  k_steps
  k_dflt (refine' item_any ?a ?b ?c ?d ?e ?_)
  case a => k_asm
  case b => k_mem
  case c => assumption
  case d => assumption
  case e => omega
  intro v hv hve
  k_steps
  exact hret _ _ _ _ (by k_asm) (by k_asm) ⟨_, hv, by assumption, rfl⟩

theorem one_use {w : World} {p : Program} {loose : List Str} {mean : ExcName → Option Value} {mg mb : Str → Option Value} {dp un : Nat} {gd : Option (List Code)} {cn : Str} {cs : Scope} {a : Addr} {ccd : Value} {cl : List (Str × Addr)} {outer : List Env}
    {A₀ : Around} {base h₀ : Heap} {L : Addr} {m : Str → Option Value} {s : Shared} {Q E : Value → Shared → Prop} {news : List (Addr × Obj)} {S t : Addr} {o : Obj} {g : Obj → List (Addr × Obj)} {vs : List Value} {n : Nat}
    (B : Below A₀ base outer h₀) (F : Fr h₀ L s.heap m) (X : (Mine.hd.heap_39 w.params).In h₀) (N : News h₀ L s.heap news) (T : Top p loose mean mg mb h₀) (hk : cs.kind = .function)
    (U : UpdF S o news g) (ho : SrcOk o) (ht : (t, listOf vs.toArray n) ∈ news) (hne : t ≠ S) (hlen : 0 < vs.length) (hlen2 : vs.length < 100) (hd : dp ≤ 470) (hu : un ≤ 470)
    (ret : ∀ r o' h' tk', r ∈ vs → SrcOk o' → Fr h₀ L h' m → News h₀ L h' (g o') → Q r { s with heap := h', toks := tk' }) :
    wpAny (model PySem.Challenge.rw_xm0755_01.row.prog w) (ktrTop dp un gd cn cs L a ccd cl outer) (call (.ref 322) [.ref S, .ref t]) Q E s := by
  obtain ⟨pre, post, rfl, hg, h1, h2⟩ := U.split
  refine (one_does w S t o (pre ++ post) vs n ho (off_both h1 h2) (mem_rest ht hne) hlen hlen2).use B F X (news_sub N mem_front) T hk hd hu ?_
  rintro r news' h' tk' F' N' ⟨o', hr, ho', rfl⟩
  exact ret r o' h' tk' hr ho' F' (by rw [hg o']; exact news_sub N' mem_back)

theorem one_useI {w : World} {p : Program} {loose : List Str} {mean : ExcName → Option Value} {mg mb : Str → Option Value} {dp un : Nat} {gd : Option (List Code)} {cn : Str} {cs : Scope} {a : Addr} {ccd : Value} {cl : List (Str × Addr)} {outer : List Env}
    {A₀ : Around} {base h₀ : Heap} {L : Addr} {m : Str → Option Value} {s : Shared} {Q E : Value → Shared → Prop} {news : List (Addr × Obj)} {S t : Addr} {o : Obj} {g : Obj → List (Addr × Obj)} {vs : List Value} {ks : List Int} {n : Nat}
    (B : Below A₀ base outer h₀) (F : Fr h₀ L s.heap m) (X : (Mine.hd.heap_39 w.params).In h₀) (N : News h₀ L s.heap news) (T : Top p loose mean mg mb h₀) (hk : cs.kind = .function)
    (U : UpdF S o news g) (ho : SrcOk o) (ht : (t, listOf vs.toArray n) ∈ news) (hne : t ≠ S) (hi : IntsAre vs ks) (hlen : 0 < vs.length) (hlen2 : vs.length < 100) (hd : dp ≤ 470) (hu : un ≤ 470)
    (ret : ∀ k tk o' h' tk', k ∈ ks → SrcOk o' → Fr h₀ L h' m → News h₀ L h' (g o') → Q (.int k tk) { s with heap := h', toks := tk' }) :
    wpAny (model PySem.Challenge.rw_xm0755_01.row.prog w) (ktrTop dp un gd cn cs L a ccd cl outer) (call (.ref 322) [.ref S, .ref t]) Q E s := by
  refine one_use B F X N T hk U ho ht hne hlen hlen2 hd hu ?_
  intro r o' h' tk' hr ho' F' N'
  obtain ⟨i, hi', hv⟩ := List.getElem_of_mem hr
  obtain ⟨k, t, rfl, hk'⟩ := IntsAre.at hi i r (by rw [← hv]; exact List.getElem?_eq_getElem hi')
  exact ret k t o' h' tk' (List.mem_of_getElem? hk') ho' F' N'

theorem one_useB {w : World} {p : Program} {loose : List Str} {mean : ExcName → Option Value} {mg mb : Str → Option Value} {dp un : Nat} {gd : Option (List Code)} {cn : Str} {cs : Scope} {a : Addr} {ccd : Value} {cl : List (Str × Addr)} {outer : List Env}
    {A₀ : Around} {base h₀ : Heap} {L : Addr} {m : Str → Option Value} {s : Shared} {Q E : Value → Shared → Prop} {news : List (Addr × Obj)} {S t : Addr} {o : Obj} {g : Obj → List (Addr × Obj)} {vs : List Value} {ks : List Int} {n : Nat} (lo hi : Int)
    (B : Below A₀ base outer h₀) (F : Fr h₀ L s.heap m) (X : (Mine.hd.heap_39 w.params).In h₀) (N : News h₀ L s.heap news) (T : Top p loose mean mg mb h₀) (hk : cs.kind = .function)
    (U : UpdF S o news g) (ho : SrcOk o) (ht : (t, listOf vs.toArray n) ∈ news) (hne : t ≠ S) (hi' : IntsAre vs ks) (hb : ∀ k ∈ ks, lo ≤ k ∧ k < hi) (hlen : 0 < vs.length) (hlen2 : vs.length < 100) (hd : dp ≤ 470) (hu : un ≤ 470)
    (ret : ∀ k tk o' h' tk', lo ≤ k → k < hi → SrcOk o' → Fr h₀ L h' m → News h₀ L h' (g o') → Q (.int k tk) { s with heap := h', toks := tk' }) :
    wpAny (model PySem.Challenge.rw_xm0755_01.row.prog w) (ktrTop dp un gd cn cs L a ccd cl outer) (call (.ref 322) [.ref S, .ref t]) Q E s := by
  refine one_useI B F X N T hk U ho ht hne hi' hlen hlen2 hd hu ?_
  intro k tk o' h' tk' hin ho' F' N'
  exact ret k tk o' h' tk' (hb k hin).1 (hb k hin).2 ho' F' N'
local macro_rules | `(tactic| walk_at "call ref") => `(tactic| (k_here; (with_reducible show wpAny _ _ (call (Value.ref 322) _) _ _ _); k_dflt (refine' one_useI ?k1 ?k2 ?k3 ?k4 ?k5 ?kK ?U ?o ?t ?tn ?i ?t1 ?t2 ?hd ?hu ?_; (case k1 => k_asm); (case k2 => k_asm); (case k3 => k_asm); (case k4 => k_asm); (case k5 => k_asm); (case kK => first | exact rfl | assumption); (case U => k_updF); (case o => assumption); (case t => k_mem); (case tn => k_ne); (case i => l_ints); (case t1 => exact Nat.le_of_ble_eq_true rfl); (case t2 => exact Nat.le_of_ble_eq_true rfl); (case hd => exact Nat.le_of_ble_eq_true rfl); (case hu => exact Nat.le_of_ble_eq_true rfl); k_whole); intro r' t' o' h' tk' hrin' hso' F' N'; (try dsimp only at N'); (simp only [List.mem_cons, List.not_mem_nil, or_false] at hrin'); (try k_sweep); walk_say "ONE"))
theorem chain_math {R r q : Int} (hR : 0 < R) (hr : 0 ≤ r) (hq : (r + R - 1).fdiv R = q) : r ≤ q * R ∧ (q - 1) * R < r ∧ (q = 0 → r = 0) := by
  rw [Int.fdiv_eq_ediv_of_nonneg _ (Int.le_of_lt hR)] at hq
  have h1 := Int.ediv_mul_le (r + R - 1) (Int.ne_of_gt hR)
  have h2 := Int.lt_ediv_add_one_mul_self (r + R - 1) hR
  rw [hq] at h1 h2
  rw [Int.add_mul, Int.one_mul] at h2
  refine ⟨by omega, by rw [Int.sub_mul, Int.one_mul]; omega, ?_⟩
  rintro rfl
  rw [Int.zero_mul] at h2
  omega
theorem r_nonneg {r a b c P : Int} (hr : r = a ∨ r = (P - 4) * b + c) (ha : 0 ≤ a) (hb : 0 ≤ b) (hc : 0 ≤ c) (hP : 64 ≤ P) : 0 ≤ r := by
  have h := Int.mul_nonneg (show 0 ≤ P - 4 by omega) hb
  omega

set_option maxHeartbeats 4000000 in
theorem chain_does (w : World) (S : Addr) (o : Obj) (rest : List (Addr × Obj)) (P : Int) (tp : Tok) (ho : SrcOk o) (hoff : ∀ p ∈ rest, p.1 ≠ S) (hP1 : 64 ≤ P) (hP2 : P ≤ 512) :
    Does w 440 440 334 [.ref S, .int P tp] ((S, o) :: rest) (fun r news' => ∃ o', r = .bool true ∧ SrcOk o' ∧ news' = (S, o') :: rest) := by
  refine does_of ?_
  intro p loose mean mg mb gd cn cs a ccd cl outer A₀ base h₀ L m s Q E B F X N T hk hret
  refine wpAny_call ?_
  k_dflt cell_enter
  k_steps
  all_goals
    rename (_ = _ ∨ _ = _) => hr
    have h0 := r_nonneg hr (by assumption) (by assumption) (by assumption) hP1
    obtain ⟨m1, m2, m3⟩ := chain_math (R := P - 4) (by omega) h0 rfl
    refine' hret _ _ _ _ ?f ?n ⟨_, ?e, ?so, rfl⟩
    case f => k_asm
    case n => exact news_sub (by k_asm) (fun p hp => List.mem_cons_of_mem _ hp)
    case so => assumption
    case e =>
      refine congrArg Value.bool ?_
      first
        | exact decide_eq_true m2
        | exact decide_eq_true m1
        | exact beq_iff_eq.mpr (by assumption)
        | (exfalso; simp_all; done)
abbrev tupOf (vs : List Value) (n : Nat) : Obj := { cls := .type "tuple", data := .seq vs.toArray n }

theorem getvar_map {m₁ : Str → Option Value} {vt vo va vn : Value} (ho : m₁ (Str.ofString "octets") = some vo) (ha : m₁ (Str.ofString "at") = some va) (hn : m₁ (Str.ofString "number") = some vn) :
    (fun y => if y = Str.ofString "turn" then some vt else m₁ y) = fun y => if y = Str.ofString "turn" then some vt else if y = Str.ofString "octets" then some vo else if y = Str.ofString "at" then some va else if y = Str.ofString "number" then some vn else m₁ y := by
  funext y
  by_cases h1 : y = Str.ofString "turn"
  · simp only [if_pos h1]
  · simp only [if_neg h1]
    by_cases h2 : y = Str.ofString "octets"
    · rw [if_pos h2, h2, ho]
    · rw [if_neg h2]
      by_cases h3 : y = Str.ofString "at"
      · rw [if_pos h3, h3, ha]
      · rw [if_neg h3]
        by_cases h4 : y = Str.ofString "number"
        · rw [if_pos h4, h4, hn]
        · rw [if_neg h4]

set_option maxHeartbeats 8000000 in
theorem getvar_does (w : World) (news : List (Addr × Obj)) (b : Array UInt8) (tb : Tok) (p : Int) (tp : Tok) (pre init post : List Int) (last n : Int) (hb : KBw.bInts b = pre ++ (init ++ last :: post)) (hp : p = pre.length) (hv : VarOf init last n) (hz : b.size ≤ 1000) :
    Does w 470 470 116 [.bytes b tb, .int p tp] news (fun r news' => ∃ q t1 t2 k, r = .ref q ∧ news' = (q, tupOf [.int n t1, .int (p + init.length + 1) t2] k) :: news ∧ ∀ x ∈ news, x.1 < q) := by
  refine does_of ?_
  intro p' loose mean mg mb gd cn cs a ccd cl outer A₀ base h₀ L m s Q E B F X N T hk hret
  refine wpAny_call ?_
  k_dflt cell_enter
  iterate 6 (first | (k_unfold; (try dsimp only)) | walk1 | (dsimp only; walk1))
  (rename Fr _ _ _ _ => lF'); (with_unfolding_all refine' For_invVF lF' ?k1 ?k2 ?_)
  case k1 => exact rfl
  case k2 => exact rfl
  iterate 7 (first | (k_unfold; (try dsimp only)) | walk1 | (dsimp only; walk1))
  rename IsRange _ _ _ _ _ _ _ _ => R1
  rename Fr _ _ _ _ => F1
  rename News _ _ _ _ => N1
  generalize hks : pre ++ (init ++ last :: post) = ks at hb
  have hlen : ks.length = b.size := by rw [← hb, KBw.ints_length]
  have hlen2 : ks.length = pre.length + (init.length + (post.length + 1)) := by rw [← hks]; simp
  have hv8 : init.length ≤ 8 := by rcases hv.2 with h | h <;> omega
  refine kpr_invN (fun i m nx => nx = news ∧ i ≤ init.length ∧ m (Str.ofString "octets") = some (.bytes b tb) ∧ (∃ t, m (Str.ofString "at") = some (.int (p + (i : Int)) t)) ∧ (∃ t, m (Str.ofString "number") = some (.int (vval (init.take i)) t)))
    rfl R1 (by decide) (n := 9) rfl F1 N1 ⟨rfl, Nat.zero_le _, rfl, ⟨_, by rw [Int.natCast_zero, Int.add_zero]; rfl⟩, ⟨_, rfl⟩⟩ ?turn ?done
  case done =>
    rintro m₁ nx h tk ⟨_, hle, _⟩ _ _
    exfalso
    rw [rangeKs_length] at hle
    omega
  case turn =>
    rintro i k t m₁ nx h tk own hik hoff ⟨rfl, hi, mo, ⟨ta, ma⟩, ⟨tn, mn⟩⟩ F₁ N₁
    obtain ⟨rfl, hi9⟩ : k = (i : Int) ∧ i < 9 := by
      simp only [rangeKs, List.getElem?_map, Option.map_eq_some_iff] at hik
      obtain ⟨j, hj, e⟩ := hik
      obtain ⟨hj1, hj2⟩ := List.getElem?_eq_some_iff.mp hj
      simp at hj1 hj2
      omega
    rw [getvar_map mo ma mn] at F₁
    have hb1 := vval_bound (l := init.take i) (by rw [List.length_take]; omega)
    have hn0 := hb1.1
    have hn1 := hb1.2
    clear hb1
    by_cases hlt : i < init.length
    · have hx : ks[(p + (i : Int)).toNat]? = some init[i] := by
        rw [← hks, hp, show ((pre.length : Int) + (i : Int)).toNat = pre.length + i by omega, List.getElem?_append_right (by omega), Nat.add_sub_cancel_left, List.getElem?_append_left hlt, List.getElem?_eq_getElem hlt]
      have hc := hv.1 _ (List.getElem_mem hlt)
      have he : vval (init.take (i + 1)) = vval (init.take i) * 128 + init[i] % 128 := by
        rw [List.take_add_one, List.getElem?_eq_getElem hlt]
        exact vval_snoc _ _
      have hlo := hc.1
      have hhi := hc.2
      clear hc
      generalize init[i] = c at *
      have hi8 : (i : Int) < 8 := by omega
      have hpl : p + (i : Int) < (ks.length : Int) := by omega
      have hp0 : 0 ≤ p + (i : Int) := by omega
      have hi2 : i + 1 ≤ init.length := hlt
      clear hv hlen2 hks hik hv8
      k_steps
      all_goals try (exfalso; omega)
      refine' InvEndN.intro ?kf ?kn ?khj rfl ?kh1 ?kh2
      case kf => k_asm
      case kn => k_asm
      case kh1 => exact fun p hp => List.mem_append_left _ hp
      case kh2 => exact fun p hp => List.mem_append_right _ hp
      case khj => exact ⟨rfl, hi2, rfl, ⟨_, congrArg (fun z => some (Value.int z _)) (show p + (i : Int) + 1 = p + ((i + 1 : Nat) : Int) by omega)⟩, ⟨_, congrArg (fun z => some (Value.int z _)) ((or7 hn0).trans he.symm)⟩⟩
    · obtain rfl : i = init.length := by omega
      have hx : ks[(p + (init.length : Int)).toNat]? = some last := by
        rw [← hks, hp, show ((pre.length : Int) + (init.length : Int)).toNat = pre.length + init.length by omega, List.getElem?_append_right (by omega), Nat.add_sub_cancel_left, List.getElem?_append_right (Nat.le_refl _), Nat.sub_self]
        rfl
      have hpl : p + (init.length : Int) < (ks.length : Int) := by omega
      have hp0 : 0 ≤ p + (init.length : Int) := by omega
      rw [List.take_length] at hn0 hn1 F₁
      have hcs := hv.2
      clear hv hlen2 hks hik hv8
      k_steps
      · rename News _ _ _ _ => kN
        rename ∀ p ∈ nx ++ own, p.1 < _ => l1
        have e : Builtin.bitOr (vval init * 2 ^ (8 : Int).toNat) last = n := by rw [or8 hn0 (by omega) (by omega)]; omega
        rw [e] at kN
        exact hret _ _ _ _ (by k_asm) (news_sub kN (fun x hx => by
          rcases List.mem_cons.mp hx with rfl | hx
          · exact List.mem_cons_self
          · exact List.mem_cons_of_mem _ (List.mem_append_left _ hx))) ⟨_, _, _, 0, rfl, rfl, fun x hx => l1 x (List.mem_append_left _ hx)⟩
      · rename News _ _ _ _ => kN
        rename ∀ p ∈ nx ++ own, p.1 < _ => l1
        have e : Builtin.bitOr (vval init * 2 ^ (7 : Int).toNat) (Builtin.bitAnd last 127) = n := by rw [or7 hn0]; omega
        rw [e] at kN
        exact hret _ _ _ _ (by k_asm) (news_sub kN (fun x hx => by
          rcases List.mem_cons.mp hx with rfl | hx
          · exact List.mem_cons_self
          · exact List.mem_cons_of_mem _ (List.mem_append_left _ hx))) ⟨_, _, _, 0, rfl, rfl, fun x hx => l1 x (List.mem_append_left _ hx)⟩

theorem getvar_use {w : World} {p : Program} {loose : List Str} {mean : ExcName → Option Value} {mg mb : Str → Option Value} {dp un : Nat} {gd : Option (List Code)} {cn : Str} {cs : Scope} {a : Addr} {ccd : Value} {cl : List (Str × Addr)} {outer : List Env}
    {A₀ : Around} {base h₀ : Heap} {L : Addr} {m : Str → Option Value} {s : Shared} {Q E : Value → Shared → Prop} {news : List (Addr × Obj)} {b : Array UInt8} {tb tp : Tok} {at' last n : Int} {pre init post : List Int}
    (B : Below A₀ base outer h₀) (F : Fr h₀ L s.heap m) (X : (Mine.hd.heap_39 w.params).In h₀) (N : News h₀ L s.heap news) (T : Top p loose mean mg mb h₀) (hk : cs.kind = .function)
    (hp : at' = pre.length) (hb : KBw.bInts b = pre ++ (init ++ last :: post)) (hv : VarOf init last n) (hz : b.size ≤ 1000) (hd : dp ≤ 470) (hu : un ≤ 470)
    (ret : ∀ q t1 t2 k h' tk', Fr h₀ L h' m → News h₀ L h' ((q, tupOf [.int n t1, .int (at' + init.length + 1) t2] k) :: news) → (∀ x ∈ news, x.1 < q) → Q (.ref q) { s with heap := h', toks := tk' }) :
    wpAny (model PySem.Challenge.rw_xm0755_01.row.prog w) (ktrTop dp un gd cn cs L a ccd cl outer) (call (.ref 116) [.bytes b tb, .int at' tp]) Q E s := by
  refine (getvar_does w news b tb at' tp pre init post last n hb hp hv hz).use B F X N T hk hd hu ?_
  rintro r news' h' tk' F' N' ⟨q, t1, t2, k, rfl, rfl, hlt⟩
  exact ret q t1 t2 k h' tk' F' N' hlt
local macro_rules | `(tactic| walk_at "call ref") => `(tactic| (k_here; (with_reducible show wpAny _ _ (call (Value.ref 116) _) _ _ _); k_dflt (refine' getvar_use ?k1 ?k2 ?k3 ?k4 ?k5 ?kK ?hp ?hb ?hv ?hz ?hd ?hu ?_; (case k1 => k_asm); (case k2 => k_asm); (case k3 => k_asm); (case k4 => k_asm); (case k5 => k_asm); (case kK => first | exact rfl | assumption); (case hp => assumption); (case hb => assumption); (case hv => assumption); (case hz => assumption); (case hd => exact Nat.le_of_ble_eq_true rfl); (case hu => exact Nat.le_of_ble_eq_true rfl); k_whole); intro q' t1' t2' k' h' tk' F' N' l1; (try k_lt l1); (try k_sweep); walk_say "GETVAR"))
set_option maxHeartbeats 8000000 in
theorem leafrow_does (w : World) (news : List (Addr × Obj)) (b : Array UInt8) (tb : Tok) (i1 i2 post : List Int) (l1 l2 n1 n2 : Int) (hb : KBw.bInts b = i1 ++ l1 :: (i2 ++ l2 :: post)) (hv1 : VarOf i1 l1 n1) (hv2 : VarOf i2 l2 n2) (hz : b.size ≤ 1000) :
    Does w 450 450 163 [.bytes b tb] news (fun r news' => ∃ t, r = .int n2 t ∧ news' = news) := by
  have hb1 : KBw.bInts b = [] ++ (i1 ++ l1 :: (i2 ++ l2 :: post)) := hb
  have hb2 : KBw.bInts b = (i1 ++ [l1]) ++ (i2 ++ l2 :: post) := by rw [hb]; simp
  have hp1 : (0 : Int) = (([] : List Int).length : Int) := rfl
  have hp2 : (0 : Int) + (i1.length : Int) + 1 = ((i1 ++ [l1]).length : Int) := by simp
  clear hb
  refine does_of ?_
  intro p' loose mean mg mb gd cn cs a ccd cl outer A₀ base h₀ L m s Q E B F X N T hk hret
  refine wpAny_call ?_
  k_dflt cell_enter
  k_steps
  exact hret _ _ _ _ (by k_asm) (news_sub (by k_asm) (fun x hx => .tail _ (.tail _ hx))) ⟨_, rfl, rfl⟩

theorem leafrow_use {w : World} {p : Program} {loose : List Str} {mean : ExcName → Option Value} {mg mb : Str → Option Value} {dp un : Nat} {gd : Option (List Code)} {cn : Str} {cs : Scope} {a : Addr} {ccd : Value} {cl : List (Str × Addr)} {outer : List Env}
    {A₀ : Around} {base h₀ : Heap} {L : Addr} {m : Str → Option Value} {s : Shared} {Q E : Value → Shared → Prop} {news : List (Addr × Obj)} {b : Array UInt8} {tb : Tok} {i1 i2 post : List Int} {l1 l2 n1 n2 : Int}
    (B : Below A₀ base outer h₀) (F : Fr h₀ L s.heap m) (X : (Mine.hd.heap_39 w.params).In h₀) (N : News h₀ L s.heap news) (T : Top p loose mean mg mb h₀) (hk : cs.kind = .function)
    (hb : KBw.bInts b = i1 ++ l1 :: (i2 ++ l2 :: post)) (hv1 : VarOf i1 l1 n1) (hv2 : VarOf i2 l2 n2) (hz : b.size ≤ 1000) (hd : dp ≤ 450) (hu : un ≤ 450)
    (ret : ∀ t h' tk', Fr h₀ L h' m → News h₀ L h' news → Q (.int n2 t) { s with heap := h', toks := tk' }) :
    wpAny (model PySem.Challenge.rw_xm0755_01.row.prog w) (ktrTop dp un gd cn cs L a ccd cl outer) (call (.ref 163) [.bytes b tb]) Q E s := by
  refine (leafrow_does w news b tb i1 i2 post l1 l2 n1 n2 hb hv1 hv2 hz).use B F X N T hk hd hu ?_
  rintro r news' h' tk' F' N' ⟨t, rfl, rfl⟩
  exact ret t h' tk' F' N'
section
local macro_rules | `(tactic| walk_at "exec While Compare cons nil") => `(tactic| (refine hold ?_))
local macro_rules | `(tactic| walk_at "binaryOp FloorDiv int int") => `(tactic| ((with_reducible show wpAny _ _ (binaryOp _ (Value.int _ _) (Value.int (128 ^ _) _)) _ _ _); (refine floordiv_int (pow128_ne _) ?_ (Or.inl (pow128_py (by omega))))))
theorem map_known {m : Str → Option Value} {x : Str} {v : Value} (h : m x = some v) : m = fun y => if y = x then some v else m y := by
  funext y
  by_cases e : y = x
  · rw [if_pos e, e, h]
  · rw [if_neg e]
theorem fr_known {h₀ h : Heap} {L : Addr} {m : Str → Option Value} {x : Str} {v : Value} (F : Fr h₀ L h m) (e : m x = some v) : Fr h₀ L h (fun y => if y = x then some v else m y) := by
  rw [← map_known e]; exact F
set_option maxHeartbeats 8000000 in
theorem varint_does (w : World) (news : List (Addr × Obj)) (n : Int) (tn : Tok) (h0 : 0 ≤ n) (h1 : n < 18446744073709551616) :
    Does w 470 470 327 [.int n tn] news (fun r news' => ∃ b t init last, r = .bytes b t ∧ KBw.bInts b = init ++ [last] ∧ VarOf init last n ∧ news' = news) := by
  refine does_of ?_
  intro p' loose mean mg mb gd cn cs a ccd cl outer A₀ base h₀ L m s Q E B F X N T hk hret
  refine wpAny_call ?_
  k_dflt (refine' code_defC ?k1 ?k2 ?k3 ?k4 ?k5 ?kA ?kF ?kK ?k6 ?k7 ?k8 ?k9 ?kB ?kD ?_ ?c2 ?c3 ?c4; (case kA => exact rfl); (case kF => exact rfl); (case kK => assumption); (case k1 => k_asm); (case k2 => k_asm); (case k3 => k_asm); (case k4 => k_asm); (case k5 => k_asm); (case k6 => k_is); (case k7 => k_is); (case k8 => exact Nat.le_of_ble_eq_true rfl); (case k9 => exact BindsTo.of_eq rfl); (case kB => exact rfl); (case kD => decide +kernel); (case c2 => exact rfl); (case c3 => exact rfl); (case c4 => exact rfl); k_whole; intro g1 L1 h' tk' cells' FG' F' N' Y' B' X' T' l1; (try k_lt l1); k_cells Y'; (try simp only [List.cons_append, List.nil_append] at N'); (try dsimp only); (try k_fold))
  k_steps
  · rename IntsAre _ (_ ++ [_]) => hI
    rw [big_ints] at hI
    have hv := big_var (by assumption) h1 rfl rfl
    refine KBa.make_K (by k_asm) (by k_asm) rfl (News.isList (by k_asm) (by k_mem)) hI hv.bytes (by simp) ?_
    intro h' t' k' F' N' hin
    k_steps
    exact hret _ _ _ _ (by k_asm) (news_sub (by k_asm) (fun x hx => .tail _ (.tail _ (.tail _ (.tail _ (.tail _ hx)))))) ⟨_, _, _, _, rfl, KBa.ints_make hin, hv, rfl⟩
  · show wpAny _ _ _ _ _ _
    rename Fr _ _ _ _ => F1
    rename News _ _ _ _ => N1
    have hn56 : n < 72057594037927936 := by
      rename ¬ _ ≤ n => hq
      exact Int.not_le.mp hq
    rename L1 + 1 < _ ∧ AllLt _ news => hdC
    refine While_inv (fun k m₁ nx => ∃ oc q vs kk init last r t, nx = (q, listOf vs.toArray kk) :: (L1 + 1, oc) :: news ∧ oc.data = .cell (some (.int r t)) ∧ IntsAre vs (init ++ [last]) ∧ m₁ (Str.ofString "octets") = some (.ref q) ∧ @LT.lt Nat _ (L1 + 1) q ∧ AllLt q news ∧ VarLoop init last r n ∧ k = r.toNat) F1
      (news_sub N1 (fun x hx => .tail _ hx)) ⟨_, _, _, _, [], _, _, _, rfl, by assumption, .cons _ _ .nil, rfl, hdC.1, hdC.2, VarLoop.start h0 hn56, rfl⟩ ?_
    rintro k m₁ nx h tk F2 N2 ⟨oc, q, vs, kk, init, last, r, t, rfl, hoc, hvs, hm, hq1, hq2, hW, rfl⟩
    have F3 := fr_known F2 hm
    clear F1 F2 N1
    have hil : init.length ≤ 7 := hW.2.2.2.1
    k_steps
    · rename IntsAre _ ([_] ++ _) => hI2
      have hI3 : IntsAre _ (((128 + r.fmod 128) :: init) ++ [last]) := hI2
      rename @LT.lt Nat _ _ _ ∧ @LT.lt Nat _ q _ ∧ @LT.lt Nat _ (L1 + 1) _ ∧ AllLt _ news => lD
      have hr0 : 0 < r := by assumption
      have hlt : (r.fdiv 128).toNat < r.toNat := by
        rw [Int.fdiv_eq_ediv_of_nonneg _ (by decide)]; omega
      refine' WhileStep.intro ?f ?nn hlt ?hj
      case f => k_asm
      case hj => exact ⟨_, _, _, 0, _, _, _, _, rfl, by assumption, hI3, rfl, lD.2.2.1, lD.2.2.2, hW.step hr0, rfl⟩
      case nn => exact news_sub (by k_asm) (by kcf_all)
    · refine KBa.make_K (by k_asm) (by k_asm) rfl (News.isList (by k_asm) (by k_mem)) hvs hW.bytes (by simp; omega) ?_
      intro h' t' k' F' N' hin
      k_steps
      exact hret _ _ _ _ (by k_asm) (news_sub (by k_asm) (fun x hx => .tail _ (.tail _ hx))) ⟨_, _, _, _, rfl, KBa.ints_make hin, hW.done (by assumption), rfl⟩
end

theorem varint_use {w : World} {p : Program} {loose : List Str} {mean : ExcName → Option Value} {mg mb : Str → Option Value} {dp un : Nat} {gd : Option (List Code)} {cn : Str} {cs : Scope} {a : Addr} {ccd : Value} {cl : List (Str × Addr)} {outer : List Env}
    {A₀ : Around} {base h₀ : Heap} {L : Addr} {m : Str → Option Value} {s : Shared} {Q E : Value → Shared → Prop} {news : List (Addr × Obj)} {n : Int} {tn : Tok}
    (B : Below A₀ base outer h₀) (F : Fr h₀ L s.heap m) (X : (Mine.hd.heap_39 w.params).In h₀) (N : News h₀ L s.heap news) (T : Top p loose mean mg mb h₀) (hk : cs.kind = .function)
    (h0 : 0 ≤ n) (h1 : n < 18446744073709551616) (hd : dp ≤ 470) (hu : un ≤ 470)
    (ret : ∀ b t init last h' tk', KBw.bInts b = init ++ [last] → VarOf init last n → Fr h₀ L h' m → News h₀ L h' news → Q (.bytes b t) { s with heap := h', toks := tk' }) :
    wpAny (model PySem.Challenge.rw_xm0755_01.row.prog w) (ktrTop dp un gd cn cs L a ccd cl outer) (call (.ref 327) [.int n tn]) Q E s := by
  refine (varint_does w news n tn h0 h1).use B F X N T hk hd hu ?_
  rintro r news' h' tk' F' N' ⟨b, t, init, last, rfl, hb, hv, rfl⟩
  exact ret b t init last h' tk' hb hv F' N'
local macro_rules | `(tactic| walk_at "call ref") => `(tactic| (k_here; (with_reducible show wpAny _ _ (call (Value.ref 327) _) _ _ _); k_dflt (refine' varint_use ?k1 ?k2 ?k3 ?k4 ?k5 ?kK ?h0 ?h1 ?hd ?hu ?_; (case k1 => k_asm); (case k2 => k_asm); (case k3 => k_asm); (case k4 => k_asm); (case k5 => k_asm); (case kK => first | exact rfl | assumption); (case h0 => first | assumption | decide | omega); (case h1 => first | assumption | decide | omega); (case hd => exact Nat.le_of_ble_eq_true rfl); (case hu => exact Nat.le_of_ble_eq_true rfl); k_whole); intro b' t' i' l' h' tk' hbi' hva' F' N'; (have hvl' := VarOf.len hva'); (try k_sweep); walk_say "VARINT"))
theorem leafrow_bytes {b : Array UInt8} {i1 i2 ks : List Int} {l1 l2 : Int} (h : KBw.bInts b = ((i1 ++ [l1]) ++ (i2 ++ [l2])) ++ ks) : KBw.bInts b = i1 ++ l1 :: (i2 ++ l2 :: ks) := by rw [h]; simp
theorem leafrow_size {b : Array UInt8} {i1 i2 ks : List Int} {l1 l2 : Int} (h : KBw.bInts b = ((i1 ++ [l1]) ++ (i2 ++ [l2])) ++ ks) (h1 : i1.length ≤ 8) (h2 : i2.length ≤ 8) (h3 : ks.length ≤ 900) : b.size ≤ 1000 := by
  rw [← KBw.ints_length b, h]; simp; omega
section
local macro_rules | `(tactic| walk_at "CompSrc") => `(tactic| (refine hold ?_))
local macro_rules | `(tactic| walk_at "CompEnd") => `(tactic| (refine hold ?_))
local macro_rules | `(tactic| walk_at "call ref") => `(tactic| (k_here; (with_reducible show wpAny _ _ (call (Value.ref 163) _) _ _ _); k_dflt (refine' leafrow_use ?k1 ?k2 ?k3 ?k4 ?k5 ?kK ?hb ?hv1 ?hv2 ?hz ?hd ?hu ?_; (case k1 => k_asm); (case k2 => k_asm); (case k3 => k_asm); (case k4 => k_asm); (case k5 => k_asm); (case kK => first | exact rfl | assumption); (case hb => exact leafrow_bytes (by assumption)); (case hv1 => assumption); (case hv2 => assumption); (case hz => exact leafrow_size (by assumption) (by assumption) (by assumption) (by omega)); (case hd => exact Nat.le_of_ble_eq_true rfl); (case hu => exact Nat.le_of_ble_eq_true rfl); k_whole); intro t' h' tk' F' N'; (try k_sweep); walk_say "LEAFROW"))
local macro_rules | `(tactic| k_steps) => `(tactic| repeat' (first | (k_unfold; (try dsimp only)) | (k_end; wrow_close) | (dsimp only; walk1) | walk1 | (leave1; walk_say "STEP leave1"; try dsimp only) | fail "no step"))
local macro_rules | `(tactic| walk_at "eval ListComp") => `(tactic| (refine hold ?_))
local macro_rules | `(tactic| walk_at "exec Assign cons ListComp") => `(tactic| (refine hold ?_))
local macro_rules | `(tactic| walk_at "call ref") => `(tactic| (k_here; (with_reducible show wpAny _ _ (call (Value.ref 322) _) _ _ _); k_dflt (refine' one_useB 0 18446744073709551616 ?k1 ?k2 ?k3 ?k4 ?k5 ?kK ?U ?o ?t ?tn ?i ?b ?t1 ?t2 ?hd ?hu ?_; (case k1 => k_asm); (case k2 => k_asm); (case k3 => k_asm); (case k4 => k_asm); (case k5 => k_asm); (case kK => first | exact rfl | assumption); (case U => k_updF); (case o => assumption); (case t => k_mem); (case tn => k_ne); (case i => l_ints); (case b => (simp only [List.forall_mem_cons, List.not_mem_nil, false_implies, implies_true, and_true]; refine ⟨by decide, by decide, by decide, by decide, by decide, by decide, by decide, by decide, by decide, by decide, by omega⟩)); (case t1 => exact Nat.le_of_ble_eq_true rfl); (case t2 => exact Nat.le_of_ble_eq_true rfl); (case hd => exact Nat.le_of_ble_eq_true rfl); (case hu => exact Nat.le_of_ble_eq_true rfl); k_whole); intro r' t' o' h' tk' hrlo' hrhi' hso' F' N'; (try dsimp only at N'); (try k_sweep); walk_say "ONE"))
set_option maxHeartbeats 8000000 in
theorem rowright_does (w : World) (S : Addr) (o : Obj) (rest : List (Addr × Obj)) (ho : SrcOk o) (hoff : ∀ p ∈ rest, p.1 ≠ S) :
    Does w 440 440 349 [.ref S] ((S, o) :: rest) (fun r news' => ∃ o', r = .bool true ∧ SrcOk o' ∧ news' = (S, o') :: rest) := by
  refine does_of ?_
  intro p' loose mean mg mb gd cn cs a ccd cl outer A₀ base h₀ L m s Q E B F X N T hk hret
  refine wpAny_call ?_
  k_dflt (refine' code_defC ?k1 ?k2 ?k3 ?k4 ?k5 ?kA ?kF ?kK ?k6 ?k7 ?k8 ?k9 ?kB ?kD ?_ ?c2 ?c3 ?c4; (case kA => exact rfl); (case kF => exact rfl); (case kK => assumption); (case k1 => k_asm); (case k2 => k_asm); (case k3 => k_asm); (case k4 => k_asm); (case k5 => k_asm); (case k6 => k_is); (case k7 => k_is); (case k8 => exact Nat.le_of_ble_eq_true rfl); (case k9 => exact BindsTo.of_eq rfl); (case kB => exact rfl); (case kD => decide +kernel); (case c2 => exact rfl); (case c3 => exact rfl); (case c4 => exact rfl); k_whole; intro g1 L1 h' tk' cells' FG' F' N' Y' B' X' T' l1; (try k_lt l1); k_cells Y'; (try simp only [List.cons_append, List.nil_append] at N'); (try dsimp only); (try k_fold))
  k_steps
  refine (?_ : wpAny _ _ _ _ _ _)
  k_dflt (refine LCg.ListComp_U (F₀ := by k_asm) (by with_unfolding_all rfl) (by decide) (by rfl) (by decide) (by rfl) ?_)
  k_steps
  refine (?_ : LCg.CompSrc _ _ _ _ _ _ _ _ _ _ _ _ _ _)
  refine' LCg.CompSrc.range (news := (L1 + 1, _) :: (S, _) :: rest) ?a1 ?a2 ?a3 ?a4 ?a5 ?a6 ?a7 ?_
  case a1 => exact rfl
  case a2 => k_asm
  case a3 => exact news_sub (by k_asm) (by kcf_all)
  case a4 => assumption
  case a5 => exact small_one (by omega) (by omega) (by omega) (by omega)
  case a6 => exact rangeSize_nat _ _
  case a7 => rw [PySem.sizeLine_eq]; omega
  intro g'
  refine rest_ind (fun i ys nx => ∃ oc o' ks, nx = (L1 + 1, oc) :: (S, o') :: rest ∧ oc.data = .cell (some (.ref S)) ∧ SrcOk o' ∧ IntsAre ys ks ∧ ks.length = i ∧ KBa.In ks) ⟨_, _, [], rfl, by assumption, by assumption, .nil, rfl, fun _ h => (nomatch h)⟩ ?turn ?fin
  case turn =>
    rintro i ys nx v I oI C oC D m₂ h tk E' hi ⟨oc, o', ks, rfl, hdc, hso, hys, hlen, hin⟩ ⟨t, rfl⟩ hC hx F N off ne
    simp only [LCg.Off3, and_true] at off
    k_steps
    show LCg.CompEnd _ _ _ _ _ _ _ _ _ _ _ _ _ _
    refine' LCg.CompEnd.intro ?e1 ?e2 ((L1 + 1, oc) :: (S, _) :: rest) ?e3 ?e4 trivial ⟨oc, _, ks ++ [_], rfl, hdc, ?e5, IntsAre.append hys (.cons _ _ .nil), ?e7, ?e6⟩
    case e1 => k_asm
    case e2 => k_asm
    case e3 => kcf_all
    case e4 => (simp only [LCg.Off3, and_true]; assumption)
    case e5 => assumption
    case e6 => exact in_snoc hin (by assumption) (by assumption)
    case e7 => rw [List.length_append, hlen]; rfl
  case fin =>
    rintro ys nx ⟨oc, o', ks, rfl, hdc, hso, hys, hlen, hin⟩
    intro D h tk F N o1
    k_steps
    exact hret _ _ _ _ (by k_asm) (news_sub (by k_asm) (by kcf_all)) ⟨_, congrArg Value.bool (beq_self_eq_true _), hso, rfl⟩
end
theorem int_no_bytes : typeLookup (.type "int") "__bytes__" = pure none := by rw [typeLookup_type, builtinLookup_eq_fast]; kernel_rfl
section
variable {prog : Program} {w : World} {A : Around} {E : Value → Shared → Prop} {s : Shared}
theorem bytesN_new {n : Int} {u : Tok} {Q : Value → Shared → Prop} (h0 : 0 ≤ n) (h1 : n ≤ 1000) (hQ : ∀ t k, Q (.bytes (Array.replicate n.toNat 0) t) { s with toks := k }) :
    codeAny (model prog w) A (.call (.builtin "bytes.__new__") ⟨[.type "bytes", .int n u], []⟩) (wants Q E) s := by
  refine codeAny_of_tree ?_
  show wpAny _ A.in1 (do checkBuiltinCall "bytes.__new__" ⟨[.type "bytes", .int n u], []⟩; again (.builtin "bytes.__new__" ⟨[.type "bytes", .int n u], []⟩)) _ _ s
  refine wpAny_bind (wpAny_of_eq (PySem.F.bm_newCall _) (wpAny_pure ⟨plainId_quiet PySem.F.bm_plain _, codeAny_builtin PySem.F.bm_entry ?_⟩))
  rw [Around.under_plainId PySem.F.bm_plain _]
  unfold Builtin.«bytes.__new__»
  refine wpAny_bind (wpAny_of_eq (a := true) rfl ?_)
  refine bm_if_false rfl ?_
  refine wpAny_bind (wpAny_of_eq PySem.F.bm_sub ?_)
  refine bm_if_false rfl ?_
  refine wpAny_bind (wpAny_of_eq (PySem.F.bm_bind _) ?_)
  refine wpAny_bind (wpAny_of_eq (a := ()) rfl ?_)
  refine wpAny_bind (wpAny_of_eq (a := ()) rfl ?_)
  refine bm_if_false rfl ?_
  refine wpAny_bind (wpAny_specialOf (T := "int") (typeIs_int _ _ _) int_no_bytes ?_)
  refine wpAny_bind (wpAny_of_eq (a := false) rfl ?_)
  refine bm_if_false rfl ?_
  refine wpAny_bind (wpAny_specialOf (T := "int") (typeIs_int _ _ _) PySem.F.slot_int_index.lookup ?_)
  refine bm_if_false rfl ?_
  refine wpAny_bind (wpAny_attempt (wpAny_of_eq (a := n) rfl ?_))
  dsimp only
  refine bm_if_false ?_ ?_
  · simp only [Builtin.Bytes.fitsIndex, Bool.not_eq_false', Bool.and_eq_true, decide_eq_true_eq]; omega
  refine wpAny_ite (KBy.ite_no (by omega) ?_)
  refine wpAny_ite (KBy.ite_no (by omega) ?_)
  refine bm_if_false (KBy.tooLong_not (by omega)) ?_
  refine wpAny_bind (wpAny_rule ?_)
  refine wpAny_bind (wpAny_mkBytes ?_ (by rw [Array.size_replicate, sizeLine_eq]; omega))
  show wpAny _ _ (if (Value.type "bytes" == Value.type "bytes") = true then _ else _) _ _ _
  refine bm_if_true (by decide) ?_
  first
    | exact wpAny_pure (hQ _ _)
    | exact wpAny_bind (wpAny_pure (wpAny_pure (hQ _ _)))
theorem call_bytesN {n : Int} {u : Tok} {Q : Value → Shared → Prop} (h0 : 0 ≤ n) (h1 : n ≤ 1000) (hQ : ∀ t k, Q (.bytes (Array.replicate n.toNat 0) t) { s with toks := k }) : wpAny (model prog w) A (call (.type "bytes") [.int n u]) Q E s := by
  refine callType_codes (Q₁ := fun obj s₁ => s₁.TypeIs obj "bytes" ∧ Q obj s₁) PySem.F.bm_called (PySem.F.bm_typeCall _) F.entry_object_init
    (bytesN_new h0 h1 fun t k => ⟨PySem.W.typeIs_bytes _ _ _, hQ t k⟩) fun obj s₁ h₁ => ?_
  exact ⟨h₁.1, F.args_object_init_2 obj _, object_init_meets PySem.F.bm_called.init.lookup PySem.F.bm_called.made (by decide) prog w A.in1 _ s₁ ⟨h₁.1, rfl, h₁.2⟩⟩
end
section
variable {prog : Program} {w : World} {A A₀ : Around} {E : Value → Shared → Prop} {s : Shared} {K : Frag} {env : Env}
theorem C_keep {α : Type} {M : Model} {vs : List Value} {m : Sem α} {Q : α → Shared → Prop} (h : wpC M A m Q E s) : wpC M A (m.keep vs) Q E s :=
  fun Γ p hΓ h1 h2 => by rw [Sem.wp_keep]; exact h Γ p hΓ h1 h2
theorem C_callWith {M : Model} {P : Heap → Prop} {pos : Pos} {f : Value} {trees : List (Bool × Sem Value)} {Q : Value → Shared → Prop} (hplain : trees.any (·.1) = false)
    (hk : ∀ h, P h → ∃ k, (k = Keeper.frame ∨ k = Keeper.machine) ∧ Looks M h (keeperOf f) k)
    (h : wpAny M A (evalArgs f true trees []) (fun a s₁ => P s₁.heap ∧ wpC M A (call f a.pos a.kw) Q E s₁) E s) : wpC M A (callWith pos f [] trees []) Q E s := by
  unfold callWith
  refine C_step (wpAny_holding (wpAny_mono h (fun a s₁ h₁ => C_step (wpAny_standAt ?_)) fun _ _ x => x))
  obtain ⟨k, hk', L⟩ := hk _ h₁.1
  simp only [hplain, List.any_nil, Bool.or_false]
  refine C_step (L.here ?_)
  have tail : ∀ {t : Sem Value}, wpC M A t Q E s₁ → wpC M A (t >>= fun r => holding [r] point >>= fun _ => pure r) Q E s₁ :=
    fun ht => C_bind (C_mono ht (fun r s₂ hr => C_step (wpAny_holding (wpAny_point (C_pure hr)))) fun _ _ x => x)
  have marked (mk : Value) : wpC M A (callMarked mk f ([] ++ a.pos) a.kw) Q E s₁ := by unfold callMarked; exact C_keep h₁.2
  rcases hk' with rfl | rfl <;> dsimp only
  · split
    · exact tail h₁.2
    · exact tail (marked _)
  · exact tail h₁.2
theorem C_Call {M : Model} {x : Str} {p pos : Pos} {args : List Expr} {Q : Value → Shared → Prop}
    (h : wpAny M A (eval (.Name x p) env) (fun f s₁ => wpC M A (callWith pos f [] (backTo pos (starEach args env)) []) Q E s₁) E s) : wpC M A (eval (.Call (.Name x p) args [] pos) env) Q E s := by
  show wpC M A (eval (.Name x p) env >>= fun f => callWith pos f [] (backTo pos (starEach args env)) []) Q E s
  exact C_step h
/-- a def of the written part -/
theorem C_callWith_K {M : Model} {h₀ : Heap} {pos : Pos} {f : Value} {e : Expr} {rest : List Expr} {Q : Value → Shared → Prop} (_X : K.In h₀) (hk : keepIn K f = true)
    (h : wpAny M A (spliced (backTo pos (starEach (e :: rest) env))) (fun vs s₁ => K.In s₁.heap ∧ wpC M A (call f vs) Q E s₁) E s)
    (he : starEach (e :: rest) env = (false, eval e env) :: starEach rest env := by rfl) (hplain : (backTo pos (starEach rest env)).any (·.1) = false := by rfl) :
    wpC M A (callWith pos f [] (backTo pos (starEach (e :: rest) env)) []) Q E s := by
  rw [he] at h ⊢
  exact C_callWith (P := fun h => K.In h) (by show (false || (backTo pos (starEach rest env)).any (·.1)) = false; rw [hplain]; rfl) (fun h X => looks_keep hk X) (Calls.evalArgs_plain h)
theorem C_callWith_type {M : Model} {pos : Pos} {T : String} {e : Expr} {rest : List Expr} {Q : Value → Shared → Prop}
    (h : wpAny M A (spliced (backTo pos (starEach (e :: rest) env))) (fun vs s₁ => wpC M A (call (.type T) vs) Q E s₁) E s)
    (he : starEach (e :: rest) env = (false, eval e env) :: starEach rest env := by rfl) (hplain : (backTo pos (starEach rest env)).any (·.1) = false := by rfl) :
    wpC M A (callWith pos (.type T) [] (backTo pos (starEach (e :: rest) env)) []) Q E s := by
  rw [he] at h ⊢
  exact C_callWith (P := fun _ => True) (by show (false || (backTo pos (starEach rest env)).any (·.1)) = false; rw [hplain]; rfl) (fun h _ => ⟨.machine, .inr rfl, .now⟩)
    (Calls.evalArgs_plain (wpAny_mono h (fun _ _ x => ⟨trivial, x⟩) fun _ _ x => x))

theorem codeC_func {R : Result → Shared → Prop} {body : List Stmt}
    (h : wpC (model prog w) (A.deeper env) (execs body env) (fun f s' => R (.ok (.ret (match f with | .ret v => v | _ => .none))) s') (fun _ _ => False) s) : codeC (model prog w) A (.func body env) R s := by
  refine codeC_tree rfl ?_
  show wpC _ (A.deeper env) (do point; match ← (execs body env).onRaise (leaving env) with | .ret v => ret v | _ => ret .none) _ _ s
  refine C_step (wpAny_point (C_bind (C_onRaise (C_mono h (fun f s' h' => ?_) fun _ _ x => x.elim))))
  cases f <;> exact C_pure h'

theorem codeC_call_function {R : Result → Shared → Prop} {a : Addr} {args : Args} {o : Obj} {fd : FuncData} {body : List Stmt} (hroom : A.depth < recursionLimit)
    (ho : s.heap.get? a = some o) (hd' : o.data = .func fd) (hco : fd.scope.isCoroutine = false) (hgen : fd.scope.isGenerator = false) (hbody : fd.body = .stmts body) (hcd : s.heap.CodeRec fd.code fd.qualname)
    (h : wpAny (model prog w) A.in1 (bindArgs fd args) (fun binds s₁ =>
      wpAny (model prog w) A.in1 (newFunctionEnv fd.scope fd.globals fd.closure binds (fd.qualname ++ ".<locals>.") (some a) fd.code none fd.builtins)
        (fun env s₂ => s₂.heap.NoLimit ∧ codeC (model prog w) A (.func body env) R s₂) (fun e s' => R (.error e) s') s₁) (fun e s' => R (.error e) s') s) :
    codeC (model prog w) A (.call (.ref a) args) R s := by
  refine codeC_tree rfl ?_
  show wpC _ A.in1 (callAny (.ref a) args) _ _ s
  simp only [callAny]
  refine C_step (wpAny_load ho ?_)
  obtain ⟨c, oc, vs, tq, hc, hoc, hdc, hq⟩ := hcd
  simp only [hd', callFunction, hco, hgen, hbody, hc]
  rw [hc] at h
  refine C_step (m := field (.ref c) 1) (wpAny_field hoc hdc hq (C_step (wpAny_pure ?_)))
  exact C_step (wpAny_mono h (fun binds s₁ h₁ => C_step (wpAny_mono h₁ (fun env s₂ h₂ => C_step (wpAny_enterFrame h₂.1 hroom (C_pure (And.intro rfl h₂.2)))) fun _ _ h' => h')) fun _ _ h' => h')
end

section
variable {prog : Program} {w : World} {A A₀ : Around} {E : Value → Shared → Prop} {s : Shared} {K : Frag} {L : Addr} {h₀ base : Heap} {m mg mb : Str → Option Value} {news : List (Addr × Obj)} {p : Program} {loose : List Str} {mean : ExcName → Option Value}
/-- code_defC, for calm stacks -/
theorem codeC_def {env : Env} {outer : List Env} {R : Result → Shared → Prop} {name qual : Str} {params : Arguments} {body : List Stmt} {scope : Scope} {dV kV doc pm cdv ct oc : Value} {an od : Option Addr} {osl : Array (Option Value)} {f : Addr} {args : Args} {binds : List (Str × Value)}
    (B : Below A₀ base outer h₀) (F : Fr h₀ L s.heap m) (X₀ : K.In h₀) (N : News h₀ L s.heap news) (T : Top p loose mean mg mb h₀) (hA : A.frames = some (env :: outer)) (hf : env.frame = some L) (hke : env.scope.kind = .function)
    (ho : K.lookup f = some ⟨oc, od, .func (fnOf name qual params body scope dV kV doc pm an cdv ct), osl⟩) (hcd : codeIn K cdv qual = true) (hroom : A.depth < recursionLimit)
    (hbind : BindsTo s (fnOf name qual params body scope dV kV doc pm an cdv ct) args binds) (hkind : (binds.all fun y => scope.names.lookup y.1 == some .local || scope.names.lookup y.1 == some .cell) = true)
    (hnd : ((cellsFrom 0 scope.names []).map (·.1)).Nodup)
    (h : ∀ g L' h₁ tk cells, Fr h₀ L g m → Fr g L' h₁ (bindL (envOfC qual scope L' f cdv).kindOf binds fun _ => none) → News g L' h₁ (cells ++ news) →
      CellsAre (bindC (envOfC qual scope L' f cdv).kindOf binds fun _ => none) (cellsFrom (L' + 1) scope.names []) cells → Below A base (env :: outer) g → K.In g → Top p loose mean mg mb g → (∀ p ∈ news, p.1 < L') →
      wpC (model prog w) (A.deeper (envOfC qual scope L' f cdv)) (execs body (envOfC qual scope L' f cdv))
        (fun fl s' => LeaveK h₀ L m g R (match fl with | .ret v => v | _ => .none) s') (fun _ _ => False) { s with heap := h₁, toks := tk })
    (hco : scope.isCoroutine = false) (hgen : scope.isGenerator = false) (hk : scope.kind = .function) : codeC (model prog w) A (.call (.ref f) args) R s := by
  obtain ⟨FG, BG, st, lv⟩ := groundX (R := R) B F N hA hf hke
  refine codeC_call_function hroom ((X₀.keeps F.keep) _ _ ho) rfl hco hgen rfl (codeRec_of (X₀.keeps F.keep) hcd) (hbind _ _ _ _ ?_)
  refine wpAny_newFunctionEnv_cells hk (kindsX hkind _) fun env' he s' x => ?_
  subst he
  have hk₁ := x.toInCall.keep
  refine ⟨(T.nolimit.keeps F.keep).keeps hk₁, codeC_func ?_⟩
  obtain ⟨h₁, tk, rfl, _⟩ := x.done
  obtain ⟨cells, NC, Y⟩ := Cl.news (h₀ := s.heap) (Nat.le_refl _) fun n c hm => ⟨x.cell n c (lookup_of_mem_nodup (cellsFrom_names scope.names 0 (s.heap.objs.size + 1) [] [] rfl ▸ hnd) hm), x.above n c hm⟩
  have hN : News (hideAll s.heap (news.map (·.1))) s.heap.objs.size h₁ (cells ++ news) := fun p hp => by
    rcases List.mem_append.mp hp with hp | hp
    · refine ⟨(NC p hp).1, (NC p hp).2.1, ?_⟩
      cases q : (hideAll s.heap (news.map (·.1))).get? p.1 with
      | none => rfl
      | some o => have := of_hideAll _ q; rw [(NC p hp).2.2] at this; cases this
    · exact ⟨hk₁ _ _ (N p hp).1, Nat.ne_of_lt (Heap.lt_size (N p hp).1), hideAll_none _ (List.mem_map_of_mem hp)⟩
  exact C_mono (h _ s.heap.objs.size h₁ tk cells FG ⟨x.toInCall.ns, fun b o e => hk₁ b o (of_hideAll _ e), Nat.le_of_eq (hideAll_size _ _)⟩ hN Y BG (X₀.keeps st) (T.keeps st) (fun p hp => Heap.lt_size (N p hp).1)) (fun fl s' hl => lv _ _ hl) fun _ _ y => y
end
section
variable {prog : Program} {w : World} {A : Around} {E : Value → Shared → Prop} {s : Shared} {env : Env} {h₀ : Heap}
theorem C_For {M : Model} {target iter : Expr} {body orelse : List Stmt} {pos : Pos} {Q : Flow → Shared → Prop}
    (h : wpAny M A (eval iter env) (fun x s₁ => wpAny M A (pyIter x) (fun it s₂ =>
      codeC M A (.forLoop target it body orelse env) (fun r s' => match r with | .ok f => Q f s' | .error _ => False) s₂) E s₁) E s)
    (hs : ∀ x, foldedSetIterable iter env x = pure x := by intro _; rfl) : wpC M A (exec (.For target iter body orelse pos) env) Q E s := by
  rw [exec_For]
  refine C_step (wpAny_standAt (C_step (wpAny_mono h (fun x s₁ h₁ => C_step (wpAny_of_eq (hs x) (C_step (wpAny_standAt (C_step (wpAny_holding (wpAny_mono h₁ (fun it s₂ h₂ => ?_) fun _ _ x => x))))))) fun _ _ x => x)))
  show wpC M A ((run _).onRaise _) Q E s₂
  refine C_onRaise (C_run (codeC_mono h₂ fun r s' hr => ?_))
  cases r with
  | ok f => exact hr
  | error e => exact hr.elim
theorem codeC_forLoop_range {R : Result → Shared → Prop} {x : Str} {px : Pos} {body : List Stmt} {I : Addr} {n : Nat} {m₀ : Str → Option Value} (J : (Str → Option Value) → Prop)
    (hh : A.handled = none) (hx : env.kindOf x = some .local) (hp : (env.scope.kind == .class || (env.scope.kind == .module && env.locals != env.globals)) = false)
    (hI : h₀.get? I = none) (hIL : I ≠ env.locals) (hit : IsRangeIter s.heap I 0 n 1) (F : Fr h₀ env.locals s.heap m₀) (hj : J m₀)
    (turn : ∀ (i : Nat) t m₁ h tk o, i < n → J m₁ → Fr h₀ env.locals h (fun y => if y = x then some (.int i t) else m₁ y) → News h₀ env.locals h [(I, o)] →
      wpC (model prog w) A (execs body env) (fun f s₂ => match f with | .next => ∃ h' tk' m', s₂ = { s with heap := h', toks := tk' } ∧ Fr h₀ env.locals h' m' ∧ News h₀ env.locals h' [(I, o)] ∧ J m' | _ => False) (fun _ _ => False) { s with heap := h, toks := tk })
    (done : ∀ m₁ h tk, J m₁ → Fr h₀ env.locals h m₁ → R (.ok .next) { s with heap := h, toks := tk }) : codeC (model prog w) A (.forLoop (.Name x px) (.ref I) body [] env) R s := by
  have old : ∀ b o, h₀.get? b = some o → b ≠ I := fun b o e hb => by rw [hb, hI] at e; cases e
  have key : ∀ r i, i + r = n → ∀ h tk m₁, IsRangeIter h I (i : Nat) (r : Nat) 1 → Fr h₀ env.locals h m₁ → J m₁ → codeC (model prog w) A (.forLoop (.Name x px) (.ref I) body [] env) R { s with heap := h, toks := tk } := by
    intro r
    induction r with
    | zero =>
      intro i hi h tk m₁ hit F hj
      refine codeC_tree rfl ?_
      show wpC _ A ((forTurn (.Name x px) (.ref I) body [] env).onRaise (fun x => do noteFrame x env; theTreesLotGoes x)) _ _ _
      refine C_onRaise ?_
      simp only [forTurn]
      refine C_step (wpAny_standAt (C_step (wpAny_onRaise (wpAny_pyNext_range_end hh hit (by simp) (fun h' hk => ?_)))))
      refine C_pure ⟨rfl, codeC_of (codeAny_block (wpAny_execs_nil (done m₁ h' tk hj ⟨F.ns.at' fun o e => hk _ o (Ne.symm hIL) e, fun b o e => hk b o (old b o e) (F.keep b o e), F.above⟩)))⟩
    | succ r ih =>
      intro i hi h tk m₁ hit F hj
      refine codeC_tree rfl ?_
      show wpC _ A ((forTurn (.Name x px) (.ref I) body [] env).onRaise (fun x => do noteFrame x env; theTreesLotGoes x)) _ _ _
      refine C_onRaise ?_
      simp only [forTurn]
      refine C_step (wpAny_standAt (C_step (wpAny_onRaise (wpAny_pyNext_range_item hit (by omega) (fun h' hit' hk => ?_)))))
      refine C_step (wpAny_of_eq (a := ()) rfl ?_)
      have F' : Fr h₀ env.locals h' m₁ := ⟨F.ns.at' fun o e => (hk.2 _ (Ne.symm hIL)).trans e, fun b o e => (hk.2 b (old b o e)).trans (F.keep b o e), F.above⟩
      refine C_step (wpAny_assign_Name (wpAny_storeName_local hx F'.ns (fun h₂ hn₂ hs₂ => ?_) hp))
      have hI₂ : h₂.get? I = _ := (hs₂.2 _ hIL).trans hit'
      refine C_bind (C_mono (turn i tk m₁ h₂ _ _ (by omega) hj (F'.set hn₂ hs₂) (fun p hp => by
        rcases List.mem_singleton.mp hp with rfl
        exact ⟨hI₂, hIL, hI⟩)) (fun f s₂ hf => ?_) fun _ _ x => x.elim)
      cases f with
      | next =>
        obtain ⟨h₃, tk₃, m₃, rfl, F₃, N₃, hj₃⟩ := hf
        refine C_pure ⟨rfl, ih (i + 1) (by omega) h₃ tk₃ m₃ ?_ F₃ hj₃⟩
        have := (N₃ _ (.head _)).1
        simpa using this
      | cont => exact hf.elim
      | brk => exact hf.elim
      | ret v => exact hf.elim
  exact key n 0 (Nat.zero_add n) s.heap s.toks m₀ hit F hj
end
theorem ba_mro : mroOf (.type "bytearray") = pure [.type "bytearray", .type "object"] := by rw [mroOf_type]; kernel_rfl
theorem ba_lookup_new : typeLookup (.type "bytearray") "__new__" = pure (some (.builtin "bytearray.__new__")) := by rw [typeLookup_type, builtinLookup_eq_fast]; kernel_rfl
theorem ba_slot_init : Slot "bytearray" "__init__" "bytearray.__init__" :=
  .of (owner := "bytearray") (n := "__init__") (by rw [typeLookup_type, builtinLookup_eq_fast]; kernel_rfl) (by decide +kernel) (by decide +kernel) (by decide +kernel)
    (by first | exact .inl (by decide +kernel) | exact .inr (by decide +kernel)) (by rw [isSubtype_type]; kernel_rfl)
theorem ba_slot_setitem : Slot "bytearray" "__setitem__" "bytearray.__setitem__" :=
  .of (owner := "bytearray") (n := "__setitem__") (by rw [typeLookup_type, builtinLookup_eq_fast]; kernel_rfl) (by decide +kernel) (by decide +kernel) (by decide +kernel)
    (by first | exact .inl (by decide +kernel) | exact .inr (by decide +kernel)) (by rw [isSubtype_type]; kernel_rfl)
theorem ba_called : TypeCalled "bytearray" "bytearray.__new__" "bytearray.__init__" :=
  ⟨by decide +kernel, by decide +kernel, ⟨_, _, ba_mro⟩, madeBy_type ba_mro ba_lookup_new (by decide +kernel), by decide +kernel, by rw [isSubtype_type]; kernel_rfl, ba_slot_init⟩
theorem ba_typeCall (a : Value) : checkTypeCall "bytearray" ⟨[a], []⟩ = pure () := by kernel_rfl
theorem ba_newCall (a : Value) : checkBuiltinCall "bytearray.__new__" ⟨[.type "bytearray", a], []⟩ = pure () := by kernel_rfl
theorem ba_plain_new : plainId "bytearray.__new__" = true := by decide +kernel
theorem ba_plain_init : plainId "bytearray.__init__" = true := by decide +kernel
theorem ba_plain_set : plainId "bytearray.__setitem__" = true := by decide +kernel
theorem ba_entry_new : entryFor table "bytearray.__new__" = some Builtin.«list.__new__» :=
  entryFor_alias (id' := "list.__new__") (by rw [fastTable_eq_tree]; kernel_rfl) (by decide +kernel) (by decide +kernel) (by rw [fastTable_eq_tree]; kernel_rfl)
theorem ba_entry_init : entryFor table "bytearray.__init__" = some Builtin.«bytearray.__init__» := by first | exact entryFor_of_fast (by kernel_rfl) | exact entryFor_of_tree (by kernel_rfl)
theorem ba_entry_set : entryFor table "bytearray.__setitem__" = some Builtin.«bytearray.__setitem__» := by first | exact entryFor_of_fast (by kernel_rfl) | exact entryFor_of_tree (by kernel_rfl)
theorem ba_rel : typeLookup (.type "bytearray") "__release_buffer__" = pure (some (.builtin "bytearray.__release_buffer__")) := by rw [typeLookup_type, builtinLookup_eq_fast]; kernel_rfl
theorem ba_buf : typeLookup (.type "bytearray") "__buffer__" = pure (some (.builtin "bytearray.__buffer__")) := by rw [typeLookup_type, builtinLookup_eq_fast]; kernel_rfl
theorem ba_no_bytes : typeLookup (.type "bytearray") "__bytes__" = pure none := by rw [typeLookup_type, builtinLookup_eq_fast]; kernel_rfl
theorem ba_no_index : typeLookup (.type "bytearray") "__index__" = pure none := by rw [typeLookup_type, builtinLookup_eq_fast]; kernel_rfl
theorem ba_sub : isSubtype (.type "bytearray") (.type "bytearray") = pure true := by rw [isSubtype_type]; kernel_rfl
theorem ba_bind (v : Value) : Builtin.Bytes.bindOptional "bytearray.__init__" "bytearray" ["source", "encoding", "errors"] [v] [] = pure [some v, none, none] := by kernel_rfl
theorem ba_args_init (a v : Value) : argsOk "bytearray.__init__" ⟨[a, v], []⟩ := by first | exact rfl | decide +kernel | (with_unfolding_all exact rfl)
theorem ba_args_set (a i v : Value) : argsOk "bytearray.__setitem__" ⟨[a, i, v], []⟩ := by first | exact rfl | decide +kernel | (with_unfolding_all exact rfl)

set_option maxRecDepth 1000000 in
set_option maxHeartbeats 4000000 in
theorem ba_owner : ("bytearray.__new__".splitOn ".__new__").headD "" = "bytearray" := by simp +decide [String.splitOn, String.splitOnAux]
/-- the object that a call of bytearray(n) leaves -/
abbrev baObj (b : Array UInt8) : Obj := { cls := .type "bytearray", data := .bytearray b }
section
variable {prog : Program} {w : World} {A : Around} {E : Value → Shared → Prop} {s : Shared}
theorem code_ba_new (a : Value) {Q₁ : Value → Shared → Prop} (h : Q₁ (.ref s.heap.objs.size) { s with heap := s.heap.push (baObj #[]) }) :
    codeAny (model prog w) A (.call (.builtin "bytearray.__new__") ⟨[.type "bytearray", a], []⟩) (wants Q₁ E) s := by
  refine codeAny_of_tree ?_
  show wpAny _ A.in1 (do checkBuiltinCall "bytearray.__new__" ⟨[.type "bytearray", a], []⟩; again (.builtin "bytearray.__new__" ⟨[.type "bytearray", a], []⟩)) _ _ s
  refine wpAny_bind (wpAny_of_eq (ba_newCall a) (wpAny_pure ⟨plainId_quiet ba_plain_new _, codeAny_builtin_stack ba_entry_new rfl fun p st => ?_⟩))
  rw [Around.under_plainId ba_plain_new _]
  have hsub := ba_sub
  have hown := ba_owner
  obtain ⟨hp, g, d, tk, os⟩ := s
  simp only [hown]
  wp_walk
  exact h
end
section
variable {M : Model} {A : Around} {E : Value → Shared → Prop} {s : Shared}
theorem C_if_false {α : Type} {c : Bool} {a b : Sem α} {Q : α → Shared → Prop} (hc : c = false) (h : wpC M A b Q E s) : wpC M A (if c = true then a else b) Q E s := by
  subst hc
  exact h
theorem C_if_true {α : Type} {c : Bool} {a b : Sem α} {Q : α → Shared → Prop} (hc : c = true) (h : wpC M A a Q E s) : wpC M A (if c = true then a else b) Q E s := by
  subst hc
  exact h
theorem C_callSpecial? {self : Value} {T : String} {name : Str} {id : String} {args : List Value} {kw : List (Str × Value)}
    {Q : Option Value → Shared → Prop} (hT : s.TypeIs self T) (h : Slot T name id)
    (hc : wpC M A (call (.builtin id) (self :: args) kw) (fun v => Q (some v)) E s) : wpC M A (callSpecial? self name args kw) Q E s := by
  simp only [callSpecial?]
  refine C_step (wpAny_specialOf hT h.lookup ?_)
  simp only [h.bind]
  exact C_holding (C_step (wpAny_pure (C_bind (C_mono hc (fun v s' h' => C_pure h') fun _ _ h' => h'))))
end
section
variable {prog : Program} {w : World} {A : Around} {E : Value → Shared → Prop} {s : Shared}
theorem codeC_builtin {R : Result → Shared → Prop} {id : String} {args : Args} {b : Builtin} (hb : entryFor table id = some b) (hcalm : heldIds.contains id = false)
    (h : wpC (model prog w) (A.under (.builtin id args)) (b args) (fun fin s' => match fin with | .done f => R (.ok f) s' | .again c' => c'.quiet = true ∧ codeC (model prog w) A c' R s') (fun e s' => R (.error e) s') s) :
    codeC (model prog w) A (.builtin id args) R s := by
  refine codeC_tree (by show (!heldIds.contains id) = true; rw [hcalm]; rfl) ?_
  show wpC _ _ (match entryFor table id with | some b => b args | none => unsupported ((withoutEnding? id "#data").getD id)) _ _ s
  rw [hb]; exact h
theorem codeC_call_builtin {R : Result → Shared → Prop} {id : String} {args : Args} {b : Builtin} (hq : plainId id = true) (hb : entryFor table id = some b) (hcalm : heldIds.contains id = false)
    (h : wpAny (model prog w) A.in1 (checkBuiltinCall id args) (fun _ s₁ => wpC (model prog w) A.in1 (b args)
      (fun fin s' => match fin with | .done f => R (.ok f) s' | .again c' => c'.quiet = true ∧ codeC (model prog w) A c' R s') (fun e s' => R (.error e) s') s₁)
      (fun e s' => R (.error e) s') s) : codeC (model prog w) A (.call (.builtin id) args) R s := by
  refine codeC_tree rfl ?_
  show wpC _ A.in1 (do checkBuiltinCall id args; again (.builtin id args)) _ _ s
  refine C_step (wpAny_mono h (fun _ s₁ h₁ => C_pure ⟨plainId_quiet hq args, codeC_builtin hb hcalm ?_⟩) fun _ _ x => x)
  rw [Around.under_plainId hq args]
  exact h₁
theorem C_callType {T newId initId : String} {Bi : Builtin} {args : List Value} {Q Q₁ : Value → Shared → Prop} (ft : TypeCalled T newId initId)
    (hct : checkTypeCall T ⟨args, []⟩ = pure ()) (entryI : entryFor table initId = some Bi) (hcalm : heldIds.contains initId = false)
    (hnew : codeAny (model prog w) A.in1 (.call (.builtin newId) ⟨.type T :: args, []⟩) (wants Q₁ E) s)
    (hnext : ∀ obj s₁, Q₁ obj s₁ → s₁.TypeIs obj T ∧ argsOk initId ⟨obj :: args, []⟩ ∧
      wpC (model prog w) A.in1.in1 (Bi ⟨obj :: args, []⟩) (fun fin s' => match fin with | .done f => f = .ret .none ∧ Q obj s' | .again _ => False) E s₁) :
    wpC (model prog w) A (call (.type T) args) Q E s := by
  obtain ⟨c, tl, hmro⟩ := ft.mro
  refine C_call (codeC_tree rfl ?_)
  show wpC _ A.in1 (callAny (.type T) _) _ _ _
  refine C_pure ⟨Code.quiet_builtin _ (by decide +kernel), codeC_builtin F.entry_type_call (by decide +kernel) ?_⟩
  rw [Around.under_plain (weight_type_call_type T args []) rfl]
  unfold Builtin.«type.__call__»
  dsimp only
  refine C_if_false ft.notType ?_
  refine C_if_false ft.canCreate ?_
  refine C_step (wpAny_of_eq hct ?_)
  refine C_step (wpAny_of_eq hmro ?_)
  refine C_if_false rfl ?_
  refine C_step (wpAny_of_eq ft.made ?_)
  dsimp only
  refine C_step (wpAny_pure ?_)
  refine C_step (wpAny_holding (wpAny_call (codeAny_mono hnew fun r s₁ hr => ?_)))
  cases r with
  | error e => exact hr
  | ok fl =>
    cases fl with
    | ret obj =>
      obtain ⟨hT, hok, hi⟩ := hnext _ _ hr
      refine C_step (wpAny_isInstance hT ft.sub ?_)
      refine C_if_false rfl ?_
      refine C_bind (C_holding (C_callSpecial? hT ft.init (C_call ?_)))
      refine codeC_mono (R := fun r s' => r = .ok (.ret .none) ∧ Q obj s' ∨ ∃ e, r = .error e ∧ E e s') (codeC_call_builtin ft.init.plain entryI hcalm (ft.init.check _ _ _ _ _ _ _ _ hT hok (C_mono hi (fun fin s₂ hf => ?_) fun e s₂ he => .inr ⟨e, rfl, he⟩))) fun r₂ s₂ hr₂ => ?_
      · cases fin with
        | done f => exact .inl ⟨by rw [hf.1], hf.2⟩
        | again c' => exact hf.elim
      · rcases hr₂ with ⟨rfl, hq⟩ | ⟨e, rfl, he⟩
        · dsimp only
          refine C_if_false rfl ?_
          exact C_pure hq
        · exact he
    | _ => exact hr.elim
end

section
variable {prog : Program} {w : World} {A : Around} {E : Value → Shared → Prop} {s : Shared}
theorem ba_ownRelease {a : Addr} {Q : Bool → Shared → Prop} (hT : s.TypeIs (.ref a) "bytearray") (h : Q false s) : wpAny (model prog w) A (Builtin.Bytes.ownRelease (.ref a)) Q E s := by
  unfold Builtin.Bytes.ownRelease Builtin.Bytes.slotIsOwn
  refine wpAny_bind ?_
  refine wpAny_bind (wpAny_specialOf hT ba_rel ?_)
  dsimp only
  refine bm_if_false (by decide +kernel) ?_
  rw [show "bytearray.__release_buffer__".dropRight ("__release_buffer__".length + 1) = "bytearray" by decide +kernel]
  refine wpAny_isInstance (U := "bytearray") hT ba_sub ?_
  exact wpAny_pure h
def exportsLook (self : Value) : Code × Pos → Bool := fun
    | (.builtin "bytearray.__contains__" ⟨v :: _, _⟩, _) | (.builtin "bytearray.__mod__" ⟨v :: _, _⟩, _)
    | (.builtin "bytearray.__rmod__" ⟨_ :: v :: _, _⟩, _) | (.builtin "_struct.pack_into.held" ⟨v :: _, _⟩, _) => Builtin.Bytes.sameRef v self
    | (.builtin "bytearray.find.held" ⟨_ :: _ :: held, _⟩, _) => held.any (Builtin.Bytes.sameRef self)
    | (.builtin id ⟨v :: _, _⟩, _) => Builtin.Bytes.sameRef v self && Builtin.Bytes.decodersThatHold.contains id
    | _ => false
theorem exported_eq (self : Value) : Builtin.Bytes.exported self = (do return (← stack).any (exportsLook self)) := rfl
theorem dec_calm {id : String} {args : Args} (h : calmC (.builtin id args) = true) : Builtin.Bytes.decodersThatHold.contains id = false := by
  have h' : heldIds.contains id = false := by
    have h'' : (!heldIds.contains id) = true := h
    simpa using h''
  unfold heldIds at h'
  rw [List.contains_eq_mem, decide_eq_false_iff_not] at h' ⊢
  exact fun hm => h' (List.mem_append_right _ hm)
theorem held_no {id : String} {args : Args} (hid : heldIds.contains id = true) (h : calmC (.builtin id args) = true) : False := by
  have h'' : (!heldIds.contains id) = true := h
  rw [hid] at h''
  cases h''
theorem look_calm (self : Value) (c : Code) (p : Pos) (h : calmC c = true) : exportsLook self (c, p) = false := by
  unfold exportsLook
  split
  any_goals rfl
  all_goals (rename_i he; cases he)
  all_goals (first | exact (held_no (by decide +kernel) h).elim | rw [dec_calm h, Bool.and_false])
theorem C_exported {a : Addr} {Q : Bool → Shared → Prop} (h : Q false s) : wpC (model prog w) A (Builtin.Bytes.exported (.ref a)) Q E s := by
  intro Γ p hΓ h1 h2
  rw [exported_eq]
  show Q (((Γ.code, p) :: Γ.below).any (exportsLook (.ref a))) s
  have : ((Γ.code, p) :: Γ.below).any (exportsLook (.ref a)) = false := by
    rw [List.any_eq_false]
    rintro ⟨c, q⟩ hx
    rw [look_calm _ c q (calm_push h1 h2 _ hx)]
    exact Bool.false_ne_true
  rw [this]; exact h
end
section
variable {prog : Program} {w : World} {A : Around} {E : Value → Shared → Prop} {s : Shared}
theorem ba_write {a : Addr} {b : Array UInt8} {f : Array UInt8 → Array UInt8} {Q : Unit → Shared → Prop} (ho : s.heap.get? a = some (baObj b)) (hz : (f b).size ≤ sizeLine)
    (h : ∀ h', h'.get? a = some (baObj (f b)) → Heap.SameBut a s.heap h' → Q () { s with heap := h' }) : wpAny (model prog w) A (Builtin.Bytes.write (.ref a) f) Q E s := by
  show wpAny _ _ (updateBytearray a f) _ _ _
  unfold updateBytearray
  refine wpAny_bind (wpAny_load ho ?_)
  show wpAny _ _ (update a (Obj.mapBytearray f) >>= fun _ => lookBehind a) _ _ _
  refine wpAny_bind (wpAny_update ho ?_)
  have h2 : (s.heap.update a (Obj.mapBytearray f)).get? a = some (baObj (f b)) := Heap.get?_update_self (Obj.mapBytearray f) ho rfl
  refine wpAny_lookBehind h2 ?_ (h _ h2 (Heap.SameBut.update ..))
  show (if (f b).size > sizeLine then some "bytearray:memory" else none) = none
  rw [if_neg (by omega)]
theorem C_ba_init {a : Addr} {n : Int} {u : Tok} {Q : Shared → Prop} (ho : s.heap.get? a = some (baObj #[])) (h0 : 0 < n) (h1 : n ≤ 1000)
    (h : ∀ h', h'.get? a = some (baObj (Array.replicate n.toNat 0)) → Heap.SameBut a s.heap h' → Q { s with heap := h' }) :
    wpC (model prog w) A (Builtin.«bytearray.__init__» ⟨[.ref a, .int n u], []⟩) (fun fin s' => match fin with | .done f => f = .ret .none ∧ Q s' | .again _ => False) E s := by
  have hT : s.TypeIs (.ref a) "bytearray" := ⟨_, ho, rfl⟩
  unfold Builtin.«bytearray.__init__»
  dsimp only
  refine C_step (ba_ownRelease hT ?_)
  refine C_if_false rfl ?_
  refine C_step (wpAny_of_eq (ba_bind _) ?_)
  dsimp only
  refine C_step (wpAny_of_eq (a := ()) rfl ?_)
  refine C_step (wpAny_of_eq (a := ()) rfl ?_)
  refine C_bind ?_
  refine C_bind (C_exported ?_)
  refine C_of ?_
  refine wpAny_bind ?_
  unfold Builtin.Bytes.exportsOf
  refine wpAny_bind (wpAny_load ho ?_)
  refine wpAny_pure (wpAny_pure ?_)
  refine C_if_false (by decide) ?_
  refine C_step (ba_write ho (by simp) fun h2 ho2 hs2 => ?_)
  refine C_step (wpAny_of_eq (a := none) rfl ?_)
  refine C_if_false rfl ?_
  refine C_step (wpAny_of_eq (a := ()) rfl ?_)
  refine C_step (wpAny_specialOf (T := "int") (typeIs_int _ _ _) PySem.F.slot_int_index.lookup ?_)
  refine C_if_true rfl ?_
  refine C_step (wpAny_attempt (wpAny_of_eq (a := n) rfl ?_))
  dsimp only
  refine C_if_false ?_ ?_
  · simp only [Builtin.Bytes.fitsIndex, Bool.not_eq_false', Bool.and_eq_true, decide_eq_true_eq]; omega
  refine C_of ?_
  refine wpAny_ite (KBy.ite_no (by omega) ?_)
  refine bm_if_false (by simp only [beq_eq_false_iff_ne, ne_eq]; omega) ?_
  refine bm_if_false (KBy.tooLong_not (by omega)) ?_
  refine wpAny_bind (wpAny_rule ?_)
  refine wpAny_ite ?_
  rw [if_pos h0]
  refine wpAny_bind (ba_write ho2 (by rw [Array.size_replicate, sizeLine_eq]; omega) fun h3 ho3 hs3 => ?_)
  exact wpAny_pure ⟨rfl, h h3 ho3 (hs2.trans hs3)⟩
theorem C_bytearray {h₀ : Heap} {L : Addr} {m : Str → Option Value} {news : List (Addr × Obj)} {n : Int} {u : Tok} {Q : Value → Shared → Prop} (F : Fr h₀ L s.heap m) (N : News h₀ L s.heap news) (h0 : 0 < n) (h1 : n ≤ 1000)
    (hQ : ∀ x h', Fr h₀ L h' m → News h₀ L h' ((x, baObj (Array.replicate n.toNat 0)) :: news) → (∀ p ∈ news, p.1 < x) → Q (.ref x) { s with heap := h' }) :
    wpC (model prog w) A (call (.type "bytearray") [.int n u]) Q E s := by
  refine C_callType (Q₁ := fun obj s₁ => obj = .ref s.heap.objs.size ∧ s₁ = { s with heap := s.heap.push (baObj #[]) }) ba_called (ba_typeCall _) ba_entry_init (by decide +kernel) (code_ba_new _ ⟨rfl, rfl⟩) fun obj s₁ h₁ => ?_
  obtain ⟨rfl, rfl⟩ := h₁
  have ho : (s.heap.push (baObj #[])).get? s.heap.objs.size = some (baObj #[]) := Heap.get?_push_size _ rfl
  have hL : L ≠ s.heap.objs.size := Nat.ne_of_lt F.ns.lt
  refine ⟨⟨_, ho, rfl⟩, ba_args_init _ _, C_ba_init ho h0 h1 fun h' ho' hs' => ?_⟩
  have keep : ∀ b o, s.heap.get? b = some o → h'.get? b = some o := fun b o e => (hs'.2 b (Nat.ne_of_lt (Heap.lt_size e))).trans (Heap.get?_push_of_some _ e)
  refine hQ _ h' ⟨F.ns.at' fun o e => keep _ o e, fun b o e => keep b o (F.keep b o e), F.above⟩ (fun p hp => ?_) fun p hp => Heap.lt_size (N p hp).1
  rcases List.mem_cons.mp hp with rfl | hp
  · exact ⟨ho', Ne.symm hL, next_is_new F⟩
  · exact ⟨keep _ _ (N p hp).1, (N p hp).2⟩
end
theorem byteArr_set {ns : List Int} (k : Nat) (v : Int) : (byteArr ns).setIfInBounds k v.toNat.toUInt8 = byteArr (ns.set k v) := by
  apply Array.toList_inj.mp
  simp [byteArr, List.map_set]
section
variable {prog : Program} {w : World} {A : Around} {E : Value → Shared → Prop} {s : Shared}
theorem ba_setitem {a : Addr} {ns : List Int} {k v : Int} {t u : Tok} {Q : Unit → Shared → Prop} (ho : s.heap.get? a = some (baObj (byteArr ns))) (h0 : 0 ≤ k) (h1 : k < (ns.length : Int)) (hz : ns.length ≤ 1000) (hv0 : 0 ≤ v) (hv1 : v < 256)
    (h : ∀ h', h'.get? a = some (baObj (byteArr (ns.set k.toNat v))) → Heap.SameBut a s.heap h' → Q () { s with heap := h' }) : wpAny (model prog w) A (setItem (.ref a) (.int k t) (.int v u)) Q E s := by
  have hT : s.TypeIs (.ref a) "bytearray" := ⟨_, ho, rfl⟩
  have hsize : (byteArr ns).size = ns.length := byteArr_size ns
  have hseq : seqIndex? k (byteArr ns).size = some k.toNat := by
    have hk : ¬ k < 0 := by omega
    simp only [seqIndex?, hsize, if_neg hk]
    rw [if_pos (by simp only [Bool.and_eq_true, decide_eq_true_eq]; omega)]
  unfold setItem
  refine wpAny_holding ?_
  refine wpAny_bind (wpAny_sequenceKey hT (by decide) ?_)
  refine wpAny_bind (wpAny_callSpecial?_slot (name := Str.ofString "__setitem__") hT ba_slot_setitem
    (wpAny_call_entry ba_slot_setitem hT ba_entry_set ?_ (ba_args_set _ _ _)))
  unfold Builtin.«bytearray.__setitem__»
  refine bm_if_false rfl ?_
  dsimp only
  unfold Builtin.Bytes.subscript?
  refine wpAny_bind (wpAny_bind (wpAny_specialOf (T := "int") (typeIs_int _ _ _) PySem.F.slot_int_index.lookup ?_))
  refine bm_if_false rfl ?_
  refine wpAny_bind (wpAny_of_eq (a := k) rfl ?_)
  refine bm_if_false ?_ ?_
  · simp only [Builtin.Bytes.fitsIndex, Bool.not_eq_false', Bool.and_eq_true, decide_eq_true_eq]; omega
  refine wpAny_pure ?_
  dsimp only
  unfold Builtin.Bytes.byteValue
  refine wpAny_bind (wpAny_bind (wpAny_of_eq (a := v) rfl ?_))
  refine bm_if_false (by simp only [Bool.or_eq_false_iff, decide_eq_false_iff_not]; omega) ?_
  refine wpAny_pure ?_
  unfold Builtin.Bytes.payload Builtin.Bytes.payload?
  refine wpAny_bind (wpAny_bind (wpAny_bind (wpAny_load ho ?_)))
  refine wpAny_pure (wpAny_pure ?_)
  rw [hseq]
  dsimp only
  refine wpAny_bind (ba_write ho (by rw [Array.size_setIfInBounds, hsize, sizeLine_eq]; omega) fun h' ho' hs' => ?_)
  rw [byteArr_set] at ho'
  first
    | exact wpAny_bind (wpAny_pure (wpAny_pure ⟨.none, rfl, wpAny_pure (h h' ho' hs')⟩))
    | exact wpAny_pure ⟨.none, rfl, wpAny_pure (h h' ho' hs')⟩
theorem ba_set {h₀ : Heap} {L x : Addr} {m : Str → Option Value} {news news' : List (Addr × Obj)} {ns q : List Int} {k v : Int} {t u : Tok} {Q : Unit → Shared → Prop} (F : Fr h₀ L s.heap m) (N : News h₀ L s.heap news)
    (U : Upd x (baObj (byteArr ns)) (baObj (byteArr q)) news news') (h0 : 0 ≤ k) (h1 : k < (ns.length : Int)) (hz : ns.length ≤ 1000) (hv0 : 0 ≤ v) (hv1 : v < 256) (e : ns.set k.toNat v = q)
    (h : ∀ h', Fr h₀ L h' m → News h₀ L h' news' → Q () { s with heap := h' }) : wpAny (model prog w) A (setItem (.ref x) (.int k t) (.int v u)) Q E s := by
  obtain ⟨pre, post, rfl, rfl, a, b⟩ := U.split
  have z := N (x, baObj (byteArr ns)) (List.mem_append.mpr (.inr (.head _)))
  refine ba_setitem z.1 h0 h1 hz hv0 hv1 fun h' ho' hs' => h h' (F.change hs' z.2.1 z.2.2) (news_set N a b hs' ?_)
  rw [← e]; exact ho'
theorem ba_bytes_new {a : Addr} {b : Array UInt8} {Q : Value → Shared → Prop} (ho : s.heap.get? a = some (baObj b)) (hz : b.size ≤ sizeLine) (hQ : ∀ t k, Q (.bytes b t) { s with toks := k }) :
    codeAny (model prog w) A (.call (.builtin "bytes.__new__") ⟨[.type "bytes", .ref a], []⟩) (wants Q E) s := by
  have hT : s.TypeIs (.ref a) "bytearray" := ⟨_, ho, rfl⟩
  refine codeAny_of_tree ?_
  show wpAny _ A.in1 (do checkBuiltinCall "bytes.__new__" ⟨[.type "bytes", .ref a], []⟩; again (.builtin "bytes.__new__" ⟨[.type "bytes", .ref a], []⟩)) _ _ s
  refine wpAny_bind (wpAny_of_eq (PySem.F.bm_newCall _) (wpAny_pure ⟨plainId_quiet PySem.F.bm_plain _, codeAny_builtin PySem.F.bm_entry ?_⟩))
  rw [Around.under_plainId PySem.F.bm_plain _]
  unfold Builtin.«bytes.__new__»
  refine wpAny_bind (wpAny_of_eq (a := true) rfl ?_)
  refine bm_if_false rfl ?_
  refine wpAny_bind (wpAny_of_eq PySem.F.bm_sub ?_)
  refine bm_if_false rfl ?_
  refine wpAny_bind (wpAny_of_eq (PySem.F.bm_bind _) ?_)
  refine wpAny_bind (wpAny_of_eq (a := ()) rfl ?_)
  refine wpAny_bind (wpAny_of_eq (a := ()) rfl ?_)
  refine bm_if_false rfl ?_
  refine wpAny_bind (wpAny_specialOf hT ba_no_bytes ?_)
  refine wpAny_bind (wpAny_bind ?_)
  refine wpAny_bind (wpAny_load ho ?_)
  refine wpAny_pure (wpAny_pure ?_)
  refine bm_if_false rfl ?_
  refine wpAny_bind (wpAny_specialOf hT ba_no_index ?_)
  refine bm_if_true rfl ?_
  refine wpAny_bind ?_
  unfold Builtin.Bytes.buffer?
  refine wpAny_bind (wpAny_specialOf hT ba_buf ?_)
  unfold Builtin.Bytes.slotIsOwn
  refine wpAny_bind (wpAny_bind (wpAny_specialOf hT ba_buf ?_))
  dsimp only
  refine bm_if_false (by decide +kernel) ?_
  rw [show "bytearray.__buffer__".dropRight ("__buffer__".length + 1) = "bytearray" by decide +kernel]
  refine wpAny_isInstance (U := "bytearray") hT ba_sub ?_
  refine bm_if_false rfl ?_
  refine wpAny_bind (wpAny_specialOf hT ba_buf ?_)
  refine wpAny_bind (ba_ownRelease hT ?_)
  refine bm_if_false rfl ?_
  unfold Builtin.Bytes.payload Builtin.Bytes.payload?
  refine wpAny_bind (wpAny_bind (wpAny_bind (wpAny_load ho ?_)))
  refine wpAny_pure (wpAny_pure (wpAny_pure ?_))
  dsimp only
  refine wpAny_bind (wpAny_rule ?_)
  refine wpAny_bind (wpAny_mkBytes ?_ hz)
  show wpAny _ _ (if (Value.type "bytes" == Value.type "bytes") = true then _ else _) _ _ _
  refine bm_if_true (by decide) ?_
  first
    | exact wpAny_pure (hQ _ _)
    | exact wpAny_bind (wpAny_pure (wpAny_pure (hQ _ _)))
theorem ba_bytes {a : Addr} {b : Array UInt8} {Q : Value → Shared → Prop} (ho : s.heap.get? a = some (baObj b)) (hz : b.size ≤ sizeLine) (hQ : ∀ t k, Q (.bytes b t) { s with toks := k }) : wpAny (model prog w) A (call (.type "bytes") [.ref a]) Q E s := by
  refine callType_codes (Q₁ := fun obj s₁ => s₁.TypeIs obj "bytes" ∧ Q obj s₁) PySem.F.bm_called (PySem.F.bm_typeCall _) F.entry_object_init
    (ba_bytes_new ho hz fun t k => ⟨PySem.W.typeIs_bytes _ _ _, hQ t k⟩) fun obj s₁ h₁ => ?_
  exact ⟨h₁.1, F.args_object_init_2 obj _, object_init_meets PySem.F.bm_called.init.lookup PySem.F.bm_called.made (by decide) prog w A.in1 _ s₁ ⟨h₁.1, rfl, h₁.2⟩⟩
theorem ba_bytes_K {h₀ : Heap} {L x : Addr} {news : List (Addr × Obj)} {ns : List Int} {Q : Value → Shared → Prop} (N : News h₀ L s.heap news) (hm : (x, baObj (byteArr ns)) ∈ news) (hin : KBa.In ns) (hz : ns.length ≤ 1000)
    (hQ : ∀ t k, KBw.bInts (byteArr ns) = ns → Q (.bytes (byteArr ns) t) { s with toks := k }) : wpAny (model prog w) A (call (.type "bytes") [.ref x]) Q E s :=
  ba_bytes (N _ hm).1 (by rw [byteArr_size, sizeLine_eq]; omega) fun t k => hQ t k (KBa.ints_make hin)
end
local macro_rules | `(tactic| walk_at "setItem ref int") => `(tactic| (k_here; (with_reducible show wpAny _ _ (PySem.setItem (Value.ref _) (Value.int _ _) (Value.int _ _)) _ _ _); k_dflt (refine' ba_set ?F ?N ?U ?h0 ?h1 ?hz ?v0 ?v1 ?e ?_; (case F => k_asm); (case N => k_asm); (case e => exact rfl); (case U => k_upd); (case h0 => decide); (case h1 => exact of_decide_eq_true rfl); (case hz => exact Nat.le_of_ble_eq_true rfl); (case v0 => (first | exact fmod_lo _ (by decide) | exact fmod_hi _ (by decide) | (simp only [Int.fdiv_eq_ediv_of_nonneg _ (show (0:Int) ≤ 65536 by decide), Int.fdiv_eq_ediv_of_nonneg _ (show (0:Int) ≤ 256 by decide), Int.fmod_eq_emod_of_nonneg _ (show (0:Int) ≤ 65536 by decide), Int.fmod_eq_emod_of_nonneg _ (show (0:Int) ≤ 256 by decide)]; omega))); (case v1 => (first | exact fmod_lo _ (by decide) | exact fmod_hi _ (by decide) | (simp only [Int.fdiv_eq_ediv_of_nonneg _ (show (0:Int) ≤ 65536 by decide), Int.fdiv_eq_ediv_of_nonneg _ (show (0:Int) ≤ 256 by decide), Int.fmod_eq_emod_of_nonneg _ (show (0:Int) ≤ 65536 by decide), Int.fmod_eq_emod_of_nonneg _ (show (0:Int) ≤ 256 by decide)]; omega))); k_whole); intro h' F' N'; (try simp only [Int.reduceAdd, Int.reduceToNat, Int.toNat_zero, Int.toNat_one, List.set_cons_zero, List.set_cons_succ] at N'); walk_say "BASET"))
local macro_rules | `(tactic| walk_at "call type:bytes") => `(tactic| (k_here; (with_reducible show wpAny _ _ (call (Value.type "bytes") [Value.ref _]) _ _ _); k_dflt (refine' ba_bytes_K ?N ?m ?i ?z ?_; (case N => k_asm); (case m => k_mem); (case i => (simp only [KBa.In, List.forall_mem_cons, List.not_mem_nil, false_implies, implies_true, and_true]; refine ⟨⟨?_, ?_⟩, ⟨?_, ?_⟩, ⟨?_, ?_⟩, ⟨?_, ?_⟩⟩ <;> (first | exact fmod_lo _ (by decide) | exact fmod_hi _ (by decide) | (simp only [Int.fdiv_eq_ediv_of_nonneg _ (show (0:Int) ≤ 65536 by decide), Int.fdiv_eq_ediv_of_nonneg _ (show (0:Int) ≤ 256 by decide), Int.fmod_eq_emod_of_nonneg _ (show (0:Int) ≤ 65536 by decide), Int.fmod_eq_emod_of_nonneg _ (show (0:Int) ≤ 256 by decide)]; omega)))); (case z => exact Nat.le_of_ble_eq_true rfl); k_whole); intro t' k' hbi'; walk_say "BABYTES"))
/-- as Does, over calm stacks -/
def DoesC (w : World) (D U : Nat) (f : Addr) (vs : List Value) (news : List (Addr × Obj)) (R : Value → List (Addr × Obj) → Prop) : Prop :=
  ∀ (p : Program) (loose : List Str) (mean : ExcName → Option Value) (mg mb : Str → Option Value) (dp un : Nat) (gd : Option (List Code)) (cn : Str) (cs : Scope) (a : Addr) (ccd : Value) (cl : List (Str × Addr)) (outer : List Env)
    (A₀ : Around) (base h₀ : Heap) (L : Addr) (m : Str → Option Value) (s : Shared) (Q E : Value → Shared → Prop),
    Below A₀ base outer h₀ → Fr h₀ L s.heap m → (Mine.hd.heap_39 w.params).In h₀ → News h₀ L s.heap news → Top p loose mean mg mb h₀ → cs.kind = .function → dp ≤ D → un ≤ U →
    (∀ r news' h' tk', Fr h₀ L h' m → News h₀ L h' news' → R r news' → Q r { s with heap := h', toks := tk' }) →
    wpC (model PySem.Challenge.rw_xm0755_01.row.prog w) (ktrTop dp un gd cn cs L a ccd cl outer) (call (.ref f) vs) Q E s
theorem doesC_of {w : World} {D U : Nat} {f : Addr} {vs : List Value} {news : List (Addr × Obj)} {R : Value → List (Addr × Obj) → Prop}
    (h : ∀ (p : Program) (loose : List Str) (mean : ExcName → Option Value) (mg mb : Str → Option Value) (gd : Option (List Code)) (cn : Str) (cs : Scope) (a : Addr) (ccd : Value) (cl : List (Str × Addr)) (outer : List Env)
    (A₀ : Around) (base h₀ : Heap) (L : Addr) (m : Str → Option Value) (s : Shared) (Q E : Value → Shared → Prop),
    Below A₀ base outer h₀ → Fr h₀ L s.heap m → (Mine.hd.heap_39 w.params).In h₀ → News h₀ L s.heap news → Top p loose mean mg mb h₀ → cs.kind = .function →
    (∀ r news' h' tk', Fr h₀ L h' m → News h₀ L h' news' → R r news' → Q r { s with heap := h', toks := tk' }) →
    wpC (model PySem.Challenge.rw_xm0755_01.row.prog w) (ktrTop D U gd cn cs L a ccd cl outer) (call (.ref f) vs) Q E s) : DoesC w D U f vs news R :=
  fun p loose mean mg mb _ _ gd cn cs a ccd cl outer A₀ base h₀ L m s Q E B F X N T hk hd hu ret =>
    C_low (h p loose mean mg mb gd cn cs a ccd cl outer A₀ base h₀ L m s Q E B F X N T hk ret) rfl hd rfl rfl hu
theorem DoesC.use {w : World} {D U : Nat} {f : Addr} {vs : List Value} {news : List (Addr × Obj)} {R : Value → List (Addr × Obj) → Prop} (c : DoesC w D U f vs news R)
    {p : Program} {loose : List Str} {mean : ExcName → Option Value} {mg mb : Str → Option Value} {dp un : Nat} {gd : Option (List Code)} {cn : Str} {cs : Scope} {a : Addr} {ccd : Value} {cl : List (Str × Addr)} {outer : List Env}
    {A₀ : Around} {base h₀ : Heap} {L : Addr} {m : Str → Option Value} {s : Shared} {Q E : Value → Shared → Prop}
    (B : Below A₀ base outer h₀) (F : Fr h₀ L s.heap m) (X : (Mine.hd.heap_39 w.params).In h₀) (N : News h₀ L s.heap news) (T : Top p loose mean mg mb h₀) (hk : cs.kind = .function) (hd : dp ≤ D) (hu : un ≤ U)
    (ret : ∀ r news' h' tk', Fr h₀ L h' m → News h₀ L h' news' → R r news' → Q r { s with heap := h', toks := tk' }) :
    wpC (model PySem.Challenge.rw_xm0755_01.row.prog w) (ktrTop dp un gd cn cs L a ccd cl outer) (call (.ref f) vs) Q E s :=
  c p loose mean mg mb dp un gd cn cs a ccd cl outer A₀ base h₀ L m s Q E B F X N T hk hd hu ret
section
variable {prog : Program} {w : World} {A A₀ : Around} {E : Value → Shared → Prop} {s : Shared} {K : Frag} {L : Addr} {h₀ base : Heap} {m mg mb : Str → Option Value} {news : List (Addr × Obj)} {p : Program} {loose : List Str} {mean : ExcName → Option Value}
theorem codeC_plain {env : Env} {outer : List Env} {R : Result → Shared → Prop} {name qual : Str} {params : Arguments} {body : List Stmt} {scope : Scope} {dV kV doc pm cdv ct oc : Value} {an od : Option Addr} {osl : Array (Option Value)} {f : Addr} {args : Args} {binds : List (Str × Value)}
    (B : Below A₀ base outer h₀) (F : Fr h₀ L s.heap m) (X₀ : K.In h₀) (N : News h₀ L s.heap news) (T : Top p loose mean mg mb h₀) (hA : A.frames = some (env :: outer)) (hf : env.frame = some L) (hke : env.scope.kind = .function)
    (ho : K.lookup f = some ⟨oc, od, .func (fnOf name qual params body scope dV kV doc pm an cdv ct), osl⟩) (hcd : codeIn K cdv qual = true) (hroom : A.depth < recursionLimit)
    (hbind : BindsTo s (fnOf name qual params body scope dV kV doc pm an cdv ct) args binds) (hloc : ∀ y ∈ binds, scope.names.lookup y.1 = some .local)
    (h : ∀ g L' h₁, Fr h₀ L g m → Fr g L' h₁ (fun y => binds.reverse.lookup y) → News g L' h₁ news → Below A base (env :: outer) g → K.In g → Top p loose mean mg mb g → (∀ p ∈ news, p.1 < L') →
      wpC (model prog w) (A.deeper (envOf qual scope L' f cdv)) (execs body (envOf qual scope L' f cdv))
        (fun fl s' => LeaveK h₀ L m g R (match fl with | .ret v => v | _ => .none) s') (fun _ _ => False) { s with heap := h₁, toks := s.toks + binds.length })
    (hco : scope.isCoroutine = false) (hgen : scope.isGenerator = false) (hk : scope.kind = .function) (hcell : ∀ x ∈ scope.names, x.2 ≠ .cell) : codeC (model prog w) A (.call (.ref f) args) R s := by
  obtain ⟨FG, BG, st, lv⟩ := groundX (R := R) B F N hA hf hke
  refine codeC_call_function hroom ((X₀.keeps F.keep) _ _ ho) rfl hco hgen rfl (codeRec_of (X₀.keeps F.keep) hcd) (hbind _ _ _ _ ?_)
  refine wpAny_newFunctionEnv hcell hloc (fun h₁ hns hsb => ?_) hk
  have hk₁ : ∀ b o, s.heap.get? b = some o → h₁.get? b = some o := fun b o e => hsb.extBut b o (Nat.ne_of_lt (Heap.lt_size e)) (Heap.get?_push_of_some _ e)
  refine ⟨(T.nolimit.keeps F.keep).keeps hk₁, codeC_func ?_⟩
  exact C_mono (h _ s.heap.objs.size h₁ FG ⟨hns, fun b o e => hk₁ b o (of_hideAll _ e), Nat.le_of_eq (hideAll_size _ _)⟩
    (fun p hp => ⟨hk₁ _ _ (N p hp).1, Nat.ne_of_lt (Heap.lt_size (N p hp).1), hideAll_none _ (List.mem_map_of_mem hp)⟩) BG (X₀.keeps st) (T.keeps st) (fun p hp => Heap.lt_size (N p hp).1)) (fun fl s' hl => lv _ _ hl) fun _ _ y => y
end
/-- the four octets of a number -/
def four (n : Int) : List Int := [(n.fdiv 65536).fdiv 256, (n.fdiv 65536).fmod 256, (n.fmod 65536).fdiv 256, (n.fmod 65536).fmod 256]
set_option maxHeartbeats 4000000 in
theorem four_does (w : World) (news : List (Addr × Obj)) (n : Int) (tn : Tok) (h0 : 0 ≤ n) (h1 : n < 4294967296) :
    DoesC w 460 460 95 [.int n tn] news (fun r news' => ∃ b t, r = .bytes b t ∧ KBw.bInts b = four n ∧ news' = news) := by
  refine doesC_of ?_
  intro p' loose mean mg mb gd cn cs a ccd cl outer A₀ base h₀ L m s Q E B F X N T hk hret
  refine C_call ?_
  k_dflt (refine' codeC_plain ?k1 ?k2 ?k3 ?k4 ?k5 ?kA ?kF ?kK ?k6 ?k7 ?k8 ?k9 ?kB ?_ ?c2 ?c3 ?c4 ?c5; (case kA => exact rfl); (case kF => exact rfl); (case kK => assumption); (case k1 => k_asm); (case k2 => k_asm); (case k3 => k_asm); (case k4 => k_asm); (case k5 => k_asm); (case k6 => k_is); (case k7 => k_is); (case k8 => exact Nat.le_of_ble_eq_true rfl); (case k9 => exact BindsTo.of_eq rfl); (case c5 => decide); (case kB => exact locs rfl); (case c2 => exact rfl); (case c3 => exact rfl); (case c4 => exact rfl); k_whole; intro g' L' h' FG' F' N' B' X' T' l1; (try k_lt l1); (try dsimp only); (try k_fold))
  refine C_execs_cons (C_Assign_Name (C_Call ?_))
  k_steps
  refine C_callWith_type ?_
  k_steps
  refine C_bytearray (h₀ := g') (L := L') (news := news) (by k_asm) (by k_asm) (by decide) (by decide) ?_
  intro x hx Fx Nx lx
  have Nx : News g' L' hx ((x, baObj (byteArr [0, 0, 0, 0])) :: news) := Nx
  (try k_lt lx)
  k_steps
  refine C_of ?_
  (try k_fold)
  k_steps
  exact hret _ _ _ _ (by k_asm) (news_sub (by k_asm) (fun y hy => .tail _ hy)) ⟨_, _, rfl, by assumption, rfl⟩
theorem cut4 (ks : List Int) : List.take (ks.length - clipAt ks.length 4) (List.drop (clipAt ks.length 4) ks) = ks.drop 4 := by
  have hc : clipAt ks.length 4 = min 4 ks.length := by
    unfold clipAt
    simp
    try omega
  rw [hc]
  by_cases h : 4 ≤ ks.length
  · rw [Nat.min_eq_left h, List.take_of_length_le]
    rw [List.length_drop]; exact Nat.le_refl _
  · rw [Nat.min_eq_right (by omega), Nat.sub_self, List.take_zero, List.drop_eq_nil_of_le (by omega)]
set_option maxHeartbeats 4000000 in
theorem withchild_does (w : World) (news : List (Addr × Obj)) (b : Array UInt8) (tb : Tok) (ks : List Int) (n : Int) (tn : Tok) (hb : KBw.bInts b = ks) (hz : ks.length ≤ 1000) (h0 : 0 ≤ n) (h1 : n < 4294967296) :
    DoesC w 450 450 156 [.bytes b tb, .int n tn] news (fun r news' => ∃ b' t, r = .bytes b' t ∧ KBw.bInts b' = four n ++ ks.drop 4 ∧ news' = news) := by
  refine doesC_of ?_
  intro p' loose mean mg mb gd cn cs a ccd cl outer A₀ base h₀ L m s Q E B F X N T hk hret
  refine C_call ?_
  k_dflt (refine' codeC_plain ?k1 ?k2 ?k3 ?k4 ?k5 ?kA ?kF ?kK ?k6 ?k7 ?k8 ?k9 ?kB ?_ ?c2 ?c3 ?c4 ?c5; (case kA => exact rfl); (case kF => exact rfl); (case kK => assumption); (case k1 => k_asm); (case k2 => k_asm); (case k3 => k_asm); (case k4 => k_asm); (case k5 => k_asm); (case k6 => k_is); (case k7 => k_is); (case k8 => exact Nat.le_of_ble_eq_true rfl); (case k9 => exact BindsTo.of_eq rfl); (case c5 => decide); (case kB => exact locs rfl); (case c2 => exact rfl); (case c3 => exact rfl); (case c4 => exact rfl); k_whole; intro g1 L1 h' FG' F' N' B' X' T' l1; (try k_lt l1); (try dsimp only); (try k_fold))
  refine C_execs_cons (C_Return (C_BinOp (C_Call ?_)))
  k_steps
  k_dflt (refine' C_callWith_K ?k1 ?k2 ?_; (case k1 => k_asm); (case k2 => k_is))
  k_steps
  k_dflt (refine' (four_does w news n _ h0 h1).use ?k1 ?k2 ?k3 ?k4 ?k5 ?kK ?hd ?hu ?_; (case k1 => k_asm); (case k2 => k_asm); (case k3 => k_asm); (case k4 => k_asm); (case k5 => k_asm); (case kK => exact rfl); (case hd => exact Nat.le_of_ble_eq_true rfl); (case hu => exact Nat.le_of_ble_eq_true rfl))
  rintro r news' h2 tk2 F2 N2 ⟨b4, t4, rfl, hb4, hn⟩
  rw [hn] at N2
  k_steps
  rename KBw.bInts (KBy.picked _ _ _) = _ => hk4
  rw [cut4] at hk4
  have hz4 : (four n).length = 4 := rfl
  k_steps
  exact hret _ _ _ _ (by k_asm) (by k_asm) ⟨_, _, rfl, by assumption, rfl⟩
/-- what four octets tell -/
def val4 (a b c d : Int) : Int := (a * 256 + b) * 65536 + (c * 256 + d)
section
local macro_rules | `(tactic| walk_at "subscriptTail") => `(tactic| (k_here; (with_reducible show wpAny _ _ (subscriptTail _ _ (Value.bytes _ _) (Value.int _ _)) _ _ _); k_dflt (refine' item_byte ?hk ?hf ?h0 ?hx ?_; (case hk => assumption); (case hx => exact rfl); (case hf => (simp only [List.length_cons]; omega)); (case h0 => decide); k_whole); intro _ _))
set_option maxHeartbeats 4000000 in
theorem childof_does (w : World) (news : List (Addr × Obj)) (b : Array UInt8) (tb : Tok) (q0 q1 q2 q3 : Int) (ks : List Int) (hb : KBw.bInts b = q0 :: q1 :: q2 :: q3 :: ks) (hz : ks.length ≤ 1000) :
    Does w 450 450 149 [.bytes b tb] news (fun r news' => ∃ t, r = .int (val4 q0 q1 q2 q3) t ∧ news' = news) := by
  refine does_of ?_
  intro p' loose mean mg mb gd cn cs a ccd cl outer A₀ base h₀ L m s Q E B F X N T hk hret
  refine wpAny_call ?_
  k_dflt cell_enter
  k_steps
  exact hret _ _ _ _ (by k_asm) (by k_asm) ⟨_, rfl, rfl⟩
end
theorem childof_use {w : World} {p : Program} {loose : List Str} {mean : ExcName → Option Value} {mg mb : Str → Option Value} {dp un : Nat} {gd : Option (List Code)} {cn : Str} {cs : Scope} {a : Addr} {ccd : Value} {cl : List (Str × Addr)} {outer : List Env}
    {A₀ : Around} {base h₀ : Heap} {L : Addr} {m : Str → Option Value} {s : Shared} {Q E : Value → Shared → Prop} {news : List (Addr × Obj)} {b : Array UInt8} {tb : Tok} {q0 q1 q2 q3 : Int} {ks : List Int}
    (B : Below A₀ base outer h₀) (F : Fr h₀ L s.heap m) (X : (Mine.hd.heap_39 w.params).In h₀) (N : News h₀ L s.heap news) (T : Top p loose mean mg mb h₀) (hk : cs.kind = .function)
    (hb : KBw.bInts b = q0 :: q1 :: q2 :: q3 :: ks) (hz : ks.length ≤ 1000) (hd : dp ≤ 450) (hu : un ≤ 450)
    (ret : ∀ t h' tk', Fr h₀ L h' m → News h₀ L h' news → Q (.int (val4 q0 q1 q2 q3) t) { s with heap := h', toks := tk' }) :
    wpAny (model PySem.Challenge.rw_xm0755_01.row.prog w) (ktrTop dp un gd cn cs L a ccd cl outer) (call (.ref 149) [.bytes b tb]) Q E s := by
  refine (childof_does w news b tb q0 q1 q2 q3 ks hb hz).use B F X N T hk hd hu ?_
  rintro r news' h' tk' F' N' ⟨t, rfl, rfl⟩
  exact ret t h' tk' F' N'
theorem val4_bound {a b c d n : Int} (h : four n = [a, b, c, d]) (h0 : 0 ≤ n) : val4 a b c d = n := by
  simp only [four, List.cons.injEq, and_true] at h
  obtain ⟨rfl, rfl, rfl, rfl⟩ := h
  unfold val4
  simp only [Int.fdiv_eq_ediv_of_nonneg _ (show (0:Int) ≤ 65536 by decide), Int.fdiv_eq_ediv_of_nonneg _ (show (0:Int) ≤ 256 by decide), Int.fmod_eq_emod_of_nonneg _ (show (0:Int) ≤ 65536 by decide), Int.fmod_eq_emod_of_nonneg _ (show (0:Int) ≤ 256 by decide)]
  omega
theorem bInts_inj {a b : Array UInt8} (h : KBw.bInts a = KBw.bInts b) : a.toList = b.toList := by
  unfold KBw.bInts at h
  refine (List.map_inj_right (fun x y hxy => ?_)).mp h
  exact UInt8.toNat_inj.mp (Int.ofNat_inj.mp hxy)
theorem pow256_ne (e : Nat) : (256 : Int) ^ e ≠ 0 := Int.ne_of_gt (by
  induction e with
  | zero => decide
  | succ e ih => rw [Int.pow_succ]; exact Int.mul_pos ih (by decide))
theorem pow256_py {x : Int} {e : Nat} (he : e ≤ 3) : Builtin.divisionGoesByPylong x ((256 : Int) ^ e) = false := by
  refine PyProof.noPylong_of_log2 ?_
  have h : ∀ e : Nat, e ≤ 3 → ((256 : Int) ^ e).natAbs.log2 < 9000 := by decide +kernel
  exact h e he
def oct (c : Int) (j : Nat) : Int := (c.fdiv (256 ^ (3 - (0 + (j : Int))).toNat)).fmod 256
theorem oct_four {c : Int} (h0 : 0 ≤ c) (h1 : c < 4294967296) : (List.range 4).map (oct c) = four c := by
  have e : (List.range 4).map (oct c) = [(c.fdiv 16777216).fmod 256, (c.fdiv 65536).fmod 256, (c.fdiv 256).fmod 256, (c.fdiv 1).fmod 256] := rfl
  rw [e]
  unfold four
  simp only [Int.fdiv_eq_ediv_of_nonneg _ (show (0:Int) ≤ 65536 by decide), Int.fdiv_eq_ediv_of_nonneg _ (show (0:Int) ≤ 16777216 by decide), Int.fdiv_eq_ediv_of_nonneg _ (show (0:Int) ≤ 1 by decide), Int.fdiv_eq_ediv_of_nonneg _ (show (0:Int) ≤ 256 by decide), Int.fmod_eq_emod_of_nonneg _ (show (0:Int) ≤ 65536 by decide), Int.fmod_eq_emod_of_nonneg _ (show (0:Int) ≤ 256 by decide), List.cons.injEq, and_true]
  exact ⟨by omega, trivial, by omega, by omega⟩
theorem four_in {c : Int} (h0 : 0 ≤ c) (h1 : c < 4294967296) : KBa.In (four c) := by
  simp only [KBa.In, four, List.forall_mem_cons, List.not_mem_nil, false_implies, implies_true, and_true, Int.fdiv_eq_ediv_of_nonneg _ (show (0:Int) ≤ 65536 by decide), Int.fdiv_eq_ediv_of_nonneg _ (show (0:Int) ≤ 256 by decide), Int.fmod_eq_emod_of_nonneg _ (show (0:Int) ≤ 65536 by decide), Int.fmod_eq_emod_of_nonneg _ (show (0:Int) ≤ 256 by decide)]
  omega
section
local macro_rules | `(tactic| walk_at "CompSrc") => `(tactic| (refine hold ?_))
local macro_rules | `(tactic| walk_at "CompEnd") => `(tactic| (refine hold ?_))
local macro_rules | `(tactic| walk_at "call ref") => `(tactic| (k_here; (with_reducible show wpAny _ _ (call (Value.ref 149) _) _ _ _); k_dflt (refine' childof_use ?k1 ?k2 ?k3 ?k4 ?k5 ?kK ?hb ?hz ?hd ?hu ?_; (case k1 => k_asm); (case k2 => k_asm); (case k3 => k_asm); (case k4 => k_asm); (case k5 => k_asm); (case kK => first | exact rfl | assumption); (case hb => with_reducible assumption); (case hz => omega); (case hd => exact Nat.le_of_ble_eq_true rfl); (case hu => exact Nat.le_of_ble_eq_true rfl); k_whole); intro t' h' tk' F' N'; (try k_sweep); walk_say "CHILDOF"))
local macro_rules | `(tactic| k_steps) => `(tactic| repeat' (first | (k_unfold; (try dsimp only)) | (k_end; wrow_close) | (dsimp only; walk1) | walk1 | (leave1; walk_say "STEP leave1"; try dsimp only) | fail "no step"))
local macro_rules | `(tactic| walk_at "call ref") => `(tactic| (k_here; (with_reducible show wpAny _ _ (call (Value.ref 322) _) _ _ _); k_dflt (refine' one_useB 0 4294967296 ?k1 ?k2 ?k3 ?k4 ?k5 ?kK ?U ?o ?t ?tn ?i ?b ?t1 ?t2 ?hd ?hu ?_; (case k1 => k_asm); (case k2 => k_asm); (case k3 => k_asm); (case k4 => k_asm); (case k5 => k_asm); (case kK => first | exact rfl | assumption); (case U => k_updF); (case o => assumption); (case t => k_mem); (case tn => k_ne); (case i => l_ints); (case b => (simp only [List.forall_mem_cons, List.not_mem_nil, false_implies, implies_true, and_true]; refine ⟨by decide, by decide, by decide, by decide, by decide⟩)); (case t1 => exact Nat.le_of_ble_eq_true rfl); (case t2 => exact Nat.le_of_ble_eq_true rfl); (case hd => exact Nat.le_of_ble_eq_true rfl); (case hu => exact Nat.le_of_ble_eq_true rfl); k_whole); intro r' t' o' h' tk' hrlo' hrhi' hso' F' N'; (try dsimp only at N'); (try k_sweep); walk_say "ONE"))
local macro_rules | `(tactic| walk_at "eval ListComp") => `(tactic| ((with_reducible show wpAny _ _ (eval (Expr.ListComp (Expr.Call _ _ _ _) _ _ _) _) _ _ _); (refine hold ?_)))
local macro_rules | `(tactic| walk_at "exec Assign cons ListComp") => `(tactic| (refine hold ?_))
local macro_rules | `(tactic| walk_at "binaryOp FloorDiv int int") => `(tactic| ((with_reducible show wpAny _ _ (binaryOp _ (Value.int _ _) (Value.int (256 ^ _) _)) _ _ _); (refine floordiv_int (pow256_ne _) ?_ (Or.inl (pow256_py (by omega))))))
set_option maxHeartbeats 400000 in
theorem childright_does (w : World) (S : Addr) (o : Obj) (rest : List (Addr × Obj)) (ho : SrcOk o) (hoff : ∀ p ∈ rest, p.1 ≠ S) :
    DoesC w 440 440 344 [.ref S] ((S, o) :: rest) (fun r news' => ∃ o', r = .bool true ∧ SrcOk o' ∧ news' = (S, o') :: rest) := by
  refine doesC_of ?_
  intro p' loose mean mg mb gd cn cs a ccd cl outer A₀ base h₀ L m s Q E B F X N T hk hret
  refine C_call ?_
  k_dflt (refine' codeC_def ?k1 ?k2 ?k3 ?k4 ?k5 ?kA ?kF ?kK ?k6 ?k7 ?k8 ?k9 ?kB ?kD ?_ ?c2 ?c3 ?c4; (case kA => exact rfl); (case kF => exact rfl); (case kK => assumption); (case k1 => k_asm); (case k2 => k_asm); (case k3 => k_asm); (case k4 => k_asm); (case k5 => k_asm); (case k6 => k_is); (case k7 => k_is); (case k8 => exact Nat.le_of_ble_eq_true rfl); (case k9 => exact BindsTo.of_eq rfl); (case kB => exact rfl); (case kD => decide +kernel); (case c2 => exact rfl); (case c3 => exact rfl); (case c4 => exact rfl); k_whole; intro g1 L1 h' tk' cells' FG' F' N' Y' B' X' T' l1; (try k_lt l1); k_cells Y'; (try simp only [List.cons_append, List.nil_append] at N'); (try dsimp only); (try k_fold))
  refine C_execs_cons (C_of ?_)
  k_steps
  rename _ < (4294967296 : Int) => hr1
  rename (0 : Int) ≤ _ => hr0
  rename Obj.data _ = Data.cell (some (Value.int (Int.fmod _ _) _)) => hdc
  obtain ⟨c, hc0, hc1, hce⟩ : ∃ c : Int, 0 ≤ c ∧ c < 4294967296 ∧ Int.fmod _ (2 ^ Int.toNat 32) = c := ⟨_, fmod_lo _ (by decide), fmod_hi _ (by decide), rfl⟩
  rw [hce] at hdc
  have N1 : News g1 L1 _ ((L1 + 1 + 1, _) :: (L1 + 1, _) :: (S, _) :: rest) := news_sub (by k_asm) (by kcf_all)
  refine C_execs_cons (C_of ?_)
  k_steps
  refine (?_ : wpAny _ _ _ _ _ _)
  k_dflt (refine LCg.ListComp_U (F₀ := by k_asm) (by with_unfolding_all rfl) (by decide) (by rfl) (by decide) (by rfl) ?_)
  k_steps
  refine (?_ : LCg.CompSrc _ _ _ _ _ _ _ _ _ _ _ _ _ _)
  refine' LCg.CompSrc.range (news := (L1 + 1 + 1, _) :: (L1 + 1, _) :: (S, _) :: rest) ?a1 ?a2 ?a3 ?a4 ?a5 ?a6 ?a7 ?_
  case a1 => exact rfl
  case a2 => k_asm
  case a3 => exact news_sub (by k_asm) (by kcf_all)
  case a4 => assumption
  case a5 => exact small_one (by omega) (by omega) (by omega) (by omega)
  case a6 => exact rangeSize_nat _ _
  case a7 => rw [PySem.sizeLine_eq]; omega
  intro g'
  refine rest_ind (fun i ys nx => ∃ oc1 oc o' ks, nx = (L1 + 1 + 1, oc1) :: (L1 + 1, oc) :: (S, o') :: rest ∧ (∃ tc, oc1.data = .cell (some (.int c tc))) ∧ oc.data = .cell (some (.ref S)) ∧ SrcOk o' ∧ IntsAre ys ks ∧ ks.length = i ∧ KBa.In ks) ⟨_, _, _, [], rfl, ⟨_, hdc⟩, by assumption, by assumption, .nil, rfl, fun _ h => (nomatch h)⟩ ?turn ?fin
  case turn =>
    rintro i ys nx v I oI C oC D m₂ h tk E' hi ⟨oc1, oc, o', ks, rfl, hdc1, hdc2, hso, hys, hlen, hin⟩ ⟨t, rfl⟩ hC hx F N off ne
    simp only [LCg.Off3, and_true] at off
    k_steps
    show LCg.CompEnd _ _ _ _ _ _ _ _ _ _ _ _ _ _
    refine' LCg.CompEnd.intro ?e1 ?e2 ((L1 + 1 + 1, oc1) :: (L1 + 1, oc) :: (S, _) :: rest) ?e3 ?e4 trivial ⟨oc1, oc, _, ks ++ [_], rfl, hdc1, hdc2, ?e5, IntsAre.append hys (.cons _ _ .nil), ?e7, ?e6⟩
    case e1 => k_asm
    case e2 => k_asm
    case e3 => kcf_all
    case e4 => (simp only [LCg.Off3, and_true]; assumption)
    case e5 => assumption
    case e6 => exact in_snoc hin (by assumption) (by assumption)
    case e7 => rw [List.length_append, hlen]; rfl
  case fin =>
    rintro ys nx ⟨oc1, oc, o', rs, rfl, ⟨tc, hdc1⟩, hdc2, hso, hys, hlen, hin⟩
    intro D h tk F N o1
    k_steps
    have hbr : KBw.bInts (byteArr rs) = rs := KBa.ints_make hin
    have hrl : rs.length ≤ 5 := by omega
    have N2 : News g1 L1 _ ((L1 + 1 + 1, _) :: (L1 + 1, _) :: (S, _) :: rest) := news_sub (by k_asm) (by kcf_all)
    clear o1
    refine C_execs_cons (C_of ?_)
    k_steps
    refine (?_ : LCg.CompSrc _ _ _ _ _ _ _ _ _ _ _ _ _ _)
    refine' LCg.CompSrc.range (news := (L1 + 1 + 1, _) :: (L1 + 1, _) :: (S, _) :: rest) ?a1 ?a2 ?a3 ?a4 ?a5 ?a6 ?a7 ?_
    case a1 => exact rfl
    case a2 => k_asm
    case a3 => exact news_sub (by k_asm) (by kcf_all)
    case a4 => assumption
    case a5 => exact small_one (by omega) (by omega) (by omega) (by omega)
    case a6 => exact rangeSize_nat _ _
    case a7 => rw [PySem.sizeLine_eq]; omega
    intro g2
    refine rest_ind (fun i ys nx => nx = (L1 + 1 + 1, oc1) :: (L1 + 1, oc) :: (S, o') :: rest ∧ IntsAre ys ((List.range i).map (oct c))) ⟨rfl, .nil⟩ ?turn ?fin
    case turn =>
      rintro i ys nx v I oI C oC D m₂ h tk E' hi ⟨rfl, hys⟩ ⟨t, rfl⟩ hC hx F N off ne
      simp only [LCg.Off3, and_true] at off
      have hi4 : i < 4 := hi
      k_steps
      show LCg.CompEnd _ _ _ _ _ _ _ _ _ _ _ _ _ _
      refine' LCg.CompEnd.intro ?e1 ?e2 ((L1 + 1 + 1, oc1) :: (L1 + 1, oc) :: (S, _) :: rest) ?e3 ?e4 trivial ⟨rfl, ?e5⟩
      case e1 => k_asm
      case e2 => k_asm
      case e3 => kcf_all
      case e4 => (simp only [LCg.Off3, and_true]; assumption)
      case e5 => rw [List.range_succ, List.map_append]; exact IntsAre.append hys (.cons _ _ .nil)
    case fin =>
      rintro ys nx ⟨rfl, hys⟩
      intro D h tk F N o1
      have hys : IntsAre ys ((List.range 4).map (oct c)) := hys
      rw [oct_four hc0 hc1] at hys
      have hinc := four_in hc0 hc1
      have hlc : (four c).length = 4 := rfl
      k_steps
      have hbo : KBw.bInts (byteArr (four c)) = four c := KBa.ints_make hinc
      have N3 : News g1 L1 _ ((L1 + 1 + 1, _) :: (L1 + 1, _) :: (S, _) :: rest) := news_sub (by k_asm) (by kcf_all)
      clear o1
      refine C_execs_cons (C_Assign_Name (C_Call ?_))
      k_steps
      k_dflt (refine' C_callWith_K ?k1 ?k2 ?_; (case k1 => k_asm); (case k2 => k_is))
      k_steps
      have hla : (four c ++ rs).length ≤ 1000 := by rw [List.length_append, hlc]; omega
      k_dflt (refine' (withchild_does w ((L1 + 1 + 1, oc1) :: (L1 + 1, oc) :: (S, _) :: rest) _ _ (four c ++ rs) _ _ ?hb hla ?h0 ?h1).use ?k1 ?k2 ?k3 ?k4 ?k5 ?kK ?hd ?hu ?_; (case hb => assumption); (case k1 => k_asm); (case k2 => k_asm); (case k3 => k_asm); (case k4 => k_asm); (case k5 => k_asm); (case kK => exact rfl); (case h0 => assumption); (case h1 => assumption); (case hd => exact Nat.le_of_ble_eq_true rfl); (case hu => exact Nat.le_of_ble_eq_true rfl))
      rintro r1 news1 h3 tk3 F3 N3' ⟨raw, traw, rfl, hraw, hn⟩
      rw [hn] at N3'
      clear N3
      replace hraw : KBw.bInts raw = four _ ++ rs := hraw
      k_steps
      have hc5 : KBw.bInts (byteArr (four c) ++ byteArr rs) = (c.fdiv 65536).fdiv 256 :: (c.fdiv 65536).fmod 256 :: (c.fmod 65536).fdiv 256 :: (c.fmod 65536).fmod 256 :: rs := by assumption
      have hr5 : KBw.bInts raw = _ :: _ :: _ :: _ :: rs := hraw
      have hv : val4 ((c.fdiv 65536).fdiv 256) ((c.fdiv 65536).fmod 256) ((c.fmod 65536).fdiv 256) ((c.fmod 65536).fmod 256) = c := val4_bound rfl hc0
      have hv2 := val4_bound (n := _) (rfl : four _ = _) hr0
      refine C_execs_cons (C_of ?_)
      k_steps
      all_goals first | (exfalso; contradiction) | skip
      · rename KBw.bInts (KBy.picked _ _ _) = _ => hk
        rw [cut4] at hk
        replace hk : KBw.bInts _ = rs := hk
        rename (_ != _) = true => hne
        rw [bInts_inj (hk.trans hbr.symm), bne_self_eq_false] at hne
        cases hne
      refine (?_ : wpC _ _ _ _ _ _)
      refine C_execs_cons (C_Return (C_And2 ?_))
      k_steps
      · refine C_Compare1 (C_Call ?_)
        k_steps
        k_dflt (refine' C_callWith_K ?k1 ?k2 ?_; (case k1 => k_asm); (case k2 => k_is))
        k_steps
        k_dflt (refine' (withchild_does w ((L1 + 1 + 1, oc1) :: (L1 + 1, oc) :: (S, _) :: rest) _ _ (four _ ++ rs) _ _ hraw ?hz hc0 hc1).use ?k1 ?k2 ?k3 ?k4 ?k5 ?kK ?hd ?hu ?_; (case hz => (rw [List.length_append]; show 4 + rs.length ≤ 1000; omega)); (case k1 => k_asm); (case k2 => k_asm); (case k3 => k_asm); (case k4 => k_asm); (case k5 => k_asm); (case kK => exact rfl); (case hd => exact Nat.le_of_ble_eq_true rfl); (case hu => exact Nat.le_of_ble_eq_true rfl))
        rintro r1 news1 h4 tk4 F4 N4' ⟨raw2, traw2, rfl, hraw2, hn⟩
        rw [hn] at N4'
        replace hraw2 : KBw.bInts raw2 = four c ++ rs := hraw2
        k_steps
        exact hret _ _ _ _ (by k_asm) (news_sub (by k_asm) (by kcf_all)) ⟨_, congrArg Value.bool (by rw [bInts_inj (hraw2.trans (show KBw.bInts (byteArr (four c) ++ byteArr rs) = four c ++ rs from hc5).symm)]; exact beq_self_eq_true _), hso, rfl⟩
      · exfalso
        rename Ne (Nat.cast _) (_ : Int) => hne
        exact hne (by simp only [List.length_cons]; omega)
end
theorem ite01 (c : Prop) [Decidable c] : (0 : Int) ≤ if c then 1 else 0 := by split <;> decide
section
set_option maxHeartbeats 1000000 in
theorem pool_use {w : World} {p : Program} {loose : List Str} {mean : ExcName → Option Value} {mg mb : Str → Option Value} {dp un : Nat} {gd : Option (List Code)} {cn : Str} {cs : Scope} {a : Addr} {ccd : Value} {cl : List (Str × Addr)} {outer : List Env}
    {A₀ : Around} {base h₀ : Heap} {L : Addr} {m : Str → Option Value} {s : Shared} {Q E : Value → Shared → Prop} {news : List (Addr × Obj)} {l : Addr} {vs : List Value} {ks : List Int} {k : Int} {tk : Tok}
    (B : Below A₀ base outer h₀) (F : Fr h₀ L s.heap m) (X : (Mine.hd.heap_39 w.params).In h₀) (N : News h₀ L s.heap news) (T : Top p loose mean mg mb h₀) (hk : cs.kind = .function)
    (hl : h₀.IsList l vs.toArray) (hi : IntsAre vs ks) (hn : ks.length ≤ 63) (hk0 : 0 ≤ k) (hk1 : k < 2) (hd : dp ≤ 440) (hu : un ≤ 440)
    (ret : ∀ x o h' tk', SrcOk o → Fr h₀ L h' m → News h₀ L h' ((x, o) :: news) → (∀ p ∈ news, p.1 < x) → Q (.ref x) { s with heap := h', toks := tk' }) :
    wpAny (model PySem.Challenge.rw_xm0755_01.row.prog w) (ktrTop dp un gd cn cs L a ccd cl outer) (call (.ref 308) [.ref l, .int k tk]) Q E s := by
  refine low (A := ktrTop 440 440 gd cn cs L a ccd cl outer) ?_ rfl hd rfl rfl hu
  refine wpAny_call ?_
  k_dflt cell_enter
  rename Fr h₀ L _ m => FG1
  have hl1 := hl.at fun o e => FG1.keep _ _ e
  k_steps
  all_goals refine ret _ _ _ _ ⟨_, _, _, _, _, rfl, ?_, ?_, ?_⟩ (by k_asm) (by k_asm) (by assumption)
  all_goals first | exact fmod_lo _ (by decide) | exact fmod_hi _ (by decide) | skip
  all_goals exact Int.mul_nonneg (by split <;> omega) (ite01 _)
end
theorem chain_use {w : World} {p : Program} {loose : List Str} {mean : ExcName → Option Value} {mg mb : Str → Option Value} {dp un : Nat} {gd : Option (List Code)} {cn : Str} {cs : Scope} {a : Addr} {ccd : Value} {cl : List (Str × Addr)} {outer : List Env}
    {A₀ : Around} {base h₀ : Heap} {L : Addr} {m : Str → Option Value} {s : Shared} {Q E : Value → Shared → Prop} {news : List (Addr × Obj)} {S : Addr} {o : Obj} {P : Int} {tp : Tok}
    (B : Below A₀ base outer h₀) (F : Fr h₀ L s.heap m) (X : (Mine.hd.heap_39 w.params).In h₀) (N : News h₀ L s.heap ((S, o) :: news)) (T : Top p loose mean mg mb h₀) (hk : cs.kind = .function)
    (ho : SrcOk o) (hoff : ∀ p ∈ news, p.1 ≠ S) (h0 : 64 ≤ P) (h1 : P ≤ 512) (hd : dp ≤ 440) (hu : un ≤ 440)
    (ret : ∀ o' h' tk', SrcOk o' → Fr h₀ L h' m → News h₀ L h' ((S, o') :: news) → Q (.bool true) { s with heap := h', toks := tk' }) :
    wpAny (model PySem.Challenge.rw_xm0755_01.row.prog w) (ktrTop dp un gd cn cs L a ccd cl outer) (call (.ref 334) [.ref S, .int P tp]) Q E s := by
  refine (chain_does w S o news P tp ho hoff h0 h1).use B F X N T hk hd hu ?_
  rintro r news' h' tk' F' N' ⟨o', rfl, ho', rfl⟩
  exact ret o' h' tk' ho' F' N'
theorem rowright_use {w : World} {p : Program} {loose : List Str} {mean : ExcName → Option Value} {mg mb : Str → Option Value} {dp un : Nat} {gd : Option (List Code)} {cn : Str} {cs : Scope} {a : Addr} {ccd : Value} {cl : List (Str × Addr)} {outer : List Env}
    {A₀ : Around} {base h₀ : Heap} {L : Addr} {m : Str → Option Value} {s : Shared} {Q E : Value → Shared → Prop} {news : List (Addr × Obj)} {S : Addr} {o : Obj}
    (B : Below A₀ base outer h₀) (F : Fr h₀ L s.heap m) (X : (Mine.hd.heap_39 w.params).In h₀) (N : News h₀ L s.heap ((S, o) :: news)) (T : Top p loose mean mg mb h₀) (hk : cs.kind = .function)
    (ho : SrcOk o) (hoff : ∀ p ∈ news, p.1 ≠ S) (hd : dp ≤ 440) (hu : un ≤ 440)
    (ret : ∀ o' h' tk', SrcOk o' → Fr h₀ L h' m → News h₀ L h' ((S, o') :: news) → Q (.bool true) { s with heap := h', toks := tk' }) :
    wpAny (model PySem.Challenge.rw_xm0755_01.row.prog w) (ktrTop dp un gd cn cs L a ccd cl outer) (call (.ref 349) [.ref S]) Q E s := by
  refine (rowright_does w S o news ho hoff).use B F X N T hk hd hu ?_
  rintro r news' h' tk' F' N' ⟨o', rfl, ho', rfl⟩
  exact ret o' h' tk' ho' F' N'
theorem map_end {m₁ m₀ : Str → Option Value} {x y : Str} {u : Value} (ha : m₁ y = some u) (hm : ∀ z, z ≠ x → z ≠ y → m₁ z = m₀ z) : m₁ = fun z => if z = y then some u else if z = x then m₁ x else m₀ z := by
  funext z
  by_cases h1 : z = y
  · rw [if_pos h1, h1, ha]
  · rw [if_neg h1]
    by_cases h2 : z = x
    · rw [if_pos h2, h2]
    · rw [if_neg h2, hm z h2 h1]
section
variable {prog : Program} {w : World} {A : Around} {E : Value → Shared → Prop} {s : Shared} {env : Env} {h₀ : Heap}
/-- a loop over a list of the ledger that is left as it is -/
theorem led_loop {l : Addr} {its : List Value} {k : Nat} {x : Str} {body : List Stmt} {m₀ : Str → Option Value} {news : List (Addr × Obj)} {Q : Flow → Shared → Prop} (J : Nat → (Str → Option Value) → Prop)
    (hh : A.handled = none) (hm : (l, listOf its.toArray k) ∈ news) (F : Fr h₀ env.locals s.heap m₀) (N : News h₀ env.locals s.heap news) (hj : J 0 m₀)
    (turn : ∀ i v m₁ h tk own, its[i]? = some v → J i m₁ → Fr h₀ env.locals h (fun y => if y = x then some v else m₁ y) → News h₀ env.locals h (own ++ news) →
      wpAny (model prog w) A (execs body env) (fun f s₂ => match f with | .next => ∃ h' tk' m', s₂ = { s with heap := h', toks := tk' } ∧ Fr h₀ env.locals h' m' ∧ News h₀ env.locals h' (own ++ news) ∧ J (i + 1) m' | _ => False) E { s with heap := h, toks := tk })
    (done : ∀ m₁ h tk, J its.length m₁ → Fr h₀ env.locals h m₁ → News h₀ env.locals h news → Q .next { s with heap := h, toks := tk }) :
    wpAny (model prog w) A (pyIter (.ref l)) (fun it s₂ => LoopAtV prog w A h₀ env x body Q E it s₂) E s := by
  have hl := News.isList N hm
  have hz := N _ hm
  have hlt : l < s.heap.objs.size := Heap.lt_size hz.1
  refine wpAny_pyIter_list hl ?_
  refine ⟨s.heap.objs.size, [s.heap.objs.size, l], [s.heap.objs.size], its.length, fun i v => its[i]? = some v, fun i h => h.IsListIter s.heap.objs.size l i ∧ h.IsList l its.toArray, m₀, news, fun i m nx => nx = news ∧ J i m, rfl, ?_, ?_, ?_, ?_, ?_, F.push _, ?_, ⟨rfl, hj⟩, ?_, ?_⟩
  · have W := Walks.list (prog := prog) (w := w) hh s.heap.objs.size l (Nat.ne_of_lt hlt) its.toArray
    simpa only [List.size_toArray, List.getElem?_toArray] using W
  · intro hL
    rcases List.mem_cons.mp hL with e | hL
    · exact absurd F.ns.lt (e ▸ Nat.lt_irrefl _)
    · exact hz.2.1 (List.mem_singleton.mp hL).symm
  · intro b hb
    rw [List.mem_singleton.mp hb]
    exact next_is_new F
  · intro p hp hI
    exact absurd (Heap.lt_size (N p hp).1) ((List.mem_singleton.mp hI) ▸ Nat.lt_irrefl _)
  · exact ⟨⟨_, Heap.get?_push_size _ rfl, rfl, rfl⟩, hl.at fun o e => Heap.get?_push_of_some _ e⟩
  · exact fun p hp => ⟨Heap.get?_push_of_some _ (N p hp).1, (N p hp).2⟩
  · rintro i v m₁ news₁ s₁ own ⟨h, tk, rfl⟩ hi hv ⟨rfl, hJ⟩ hoff _ _ _ _ F₁ N₁
    refine wpAny_mono (turn i v m₁ h tk own hv hJ F₁ N₁) (fun f s₂ hf => ?_) fun _ _ e => e
    cases f with
    | next =>
      obtain ⟨h', tk', m', rfl, F', N', hJ'⟩ := hf
      exact .next ⟨rfl, h', tk', m', _, rfl, F', N', hoff, rfl, hJ'⟩
    | cont => exact hf.elim
    | brk => exact hf.elim
    | ret v => exact hf.elim
  · rintro h' tk m' news' F' N' _ ⟨rfl, hJ⟩
    exact done m' h' tk hJ F' N'
end
section
variable {prog : Program} {w : World} {A : Around} {E : Value → Shared → Prop} {s : Shared} {env : Env} {h₀ : Heap}
/-- where a turn of such a loop ends -/
def LedEnd (h₀ : Heap) (L : Addr) (s : Shared) (own news : List (Addr × Obj)) (x y : Str) (v u : Value) (m₀ : Str → Option Value) (P : Value → Prop) (f : Flow) (s₂ : Shared) : Prop :=
  match f with
  | .next => ∃ h' tk' u', s₂ = { s with heap := h', toks := tk' } ∧ Fr h₀ L h' (fun z => if z = y then some u' else if z = x then some v else if z = y then some u else m₀ z) ∧ News h₀ L h' (own ++ news) ∧ P u'
  | _ => False
theorem LedEnd.intro {L : Addr} {own news : List (Addr × Obj)} {x y : Str} {v u u' : Value} {m₀ : Str → Option Value} {P : Value → Prop} {h' : Heap} {tk' : Nat}
    (F : Fr h₀ L h' (fun z => if z = y then some u' else if z = x then some v else if z = y then some u else m₀ z)) (N : News h₀ L h' (own ++ news)) (hP : P u') : LedEnd h₀ L s own news x y v u m₀ P .next { s with heap := h', toks := tk' } :=
  ⟨h', tk', u', rfl, F, N, hP⟩
/-- such a loop that folds into one name -/
theorem led_fold {l : Addr} {its : List Value} {k : Nat} {x y : Str} {body : List Stmt} {m₀ : Str → Option Value} {news : List (Addr × Obj)} {Q : Flow → Shared → Prop} (P : Nat → Value → Prop) {u₀ : Value} (hxy : x ≠ y)
    (hh : A.handled = none) (hm : (l, listOf its.toArray k) ∈ news) (F : Fr h₀ env.locals s.heap m₀) (N : News h₀ env.locals s.heap news) (hy : m₀ y = some u₀) (hp : P 0 u₀)
    (turn : ∀ i v u h tk own, its[i]? = some v → P i u → Fr h₀ env.locals h (fun z => if z = x then some v else if z = y then some u else m₀ z) → News h₀ env.locals h (own ++ news) →
      wpAny (model prog w) A (execs body env) (LedEnd h₀ env.locals { s with heap := h, toks := tk } own news x y v u m₀ (P (i + 1))) E { s with heap := h, toks := tk })
    (done : ∀ u r h tk, P its.length u → Fr h₀ env.locals h (fun z => if z = y then some u else if z = x then r else m₀ z) → News h₀ env.locals h news → Q .next { s with heap := h, toks := tk }) :
    wpAny (model prog w) A (pyIter (.ref l)) (fun it s₂ => LoopAtV prog w A h₀ env x body Q E it s₂) E s := by
  refine led_loop (fun i m => ∃ u, m y = some u ∧ P i u ∧ ∀ z, z ≠ x → z ≠ y → m z = m₀ z) hh hm F N ⟨u₀, hy, hp, fun _ _ _ => rfl⟩ ?_ ?_
  · rintro i v m₁ h tk own hv ⟨u, hu, hP, hrest⟩ F₁ N₁
    have e : (fun z => if z = x then some v else m₁ z) = fun z => if z = x then some v else if z = y then some u else m₀ z := by
      funext z
      by_cases h1 : z = x
      · rw [if_pos h1, if_pos h1]
      · rw [if_neg h1, if_neg h1]
        by_cases h2 : z = y
        · rw [if_pos h2, h2, hu]
        · rw [if_neg h2, hrest z h1 h2]
    rw [e] at F₁
    refine wpAny_mono (turn i v u h tk own hv hP F₁ N₁) (fun f s₂ hf => ?_) fun _ _ x => x
    cases f with
    | next =>
      obtain ⟨h', tk', u', rfl, F', N', hP'⟩ := hf
      exact ⟨h', tk', _, rfl, F', N', u', if_pos rfl, hP', fun z h1 h2 => by rw [if_neg h2, if_neg h1, if_neg h2]⟩
    | cont => exact hf
    | brk => exact hf
    | ret v => exact hf
  · rintro m₁ h tk ⟨u, hu, hP, hrest⟩ F₁ N₁
    rw [map_end hu hrest] at F₁
    exact done u _ h tk hP F₁ N₁
end
/-- where two stores of one name end -/
def TwoEnd (h₀ : Heap) (L : Addr) (s : Shared) (x : Str) (m₀ : Str → Option Value) (news : List (Addr × Obj)) (V : Int → Prop) (f : Flow) (s₂ : Shared) : Prop :=
  f = .next ∧ ∃ rm t u h tk, s₂ = { s with heap := h, toks := tk } ∧ V rm ∧ Fr h₀ L h (fun z => if z = x then some (.int rm t) else if z = x then some u else m₀ z) ∧ News h₀ L h news
theorem TwoEnd.intro {h₀ h : Heap} {L : Addr} {s : Shared} {x : Str} {m₀ : Str → Option Value} {news : List (Addr × Obj)} {V : Int → Prop} {rm : Int} {t : Tok} {u : Value} {tk : Nat}
    (F : Fr h₀ L h (fun z => if z = x then some (.int rm t) else if z = x then some u else m₀ z)) (N : News h₀ L h news) (hV : V rm) : TwoEnd h₀ L s x m₀ news V .next { s with heap := h, toks := tk } :=
  ⟨rfl, rm, t, u, h, tk, rfl, hV, F, N⟩
/-- two statements that branch and meet again: what is behind them is walked once -/
theorem two_cut {M : Model} {A : Around} {E : Value → Shared → Prop} {s : Shared} {env : Env} {h₀ : Heap} {L : Addr} {x : Str} {m₀ : Str → Option Value} {news : List (Addr × Obj)} {V : Int → Prop} {st₁ st₂ : Stmt} {rest : List Stmt} {Q : Flow → Shared → Prop}
    (F : Fr h₀ L s.heap m₀) (N : News h₀ L s.heap news)
    (h1 : wpAny M A (exec st₁ env) (fun f s' => match f with | .next => wpAny M A (exec st₂ env) (TwoEnd h₀ L s x m₀ news V) E s' | _ => False) E s)
    (h2 : ∀ rm t u h tk, V rm → Fr h₀ L h (fun z => if z = x then some (.int rm t) else if z = x then some u else m₀ z) → News h₀ L h news → wpAny M A (execs rest env) Q E { s with heap := h, toks := tk }) :
    wpAny M A (exec st₁ env) (fun f s' => match f with | .next => wpAny M A (execs (st₂ :: rest) env) Q E s' | f => Q f s') E s := by
  refine wpAny_mono h1 (fun f s' hf => ?_) fun _ _ x => x
  cases f with
  | next =>
    refine wpAny_execs_cons (wpAny_mono hf (fun f s'' hf' => ?_) fun _ _ x => x)
    obtain ⟨rfl, rm, t, u, h, tk, rfl, hV, F', N'⟩ := hf'
    exact h2 rm t u h tk hV F' N'
  | cont => exact hf.elim
  | brk => exact hf.elim
  | ret v => exact hf.elim
/-- what a page has left -/
def capZ (page kind usable : Int) : Int := usable - (if page = 1 then 32 else 0) - (if kind = 13 ∨ kind = 10 then 8 else 12)
theorem kind_cap (kind : Int) : (if (if kind = 13 then kind == 13 else kind == 10) = true then (8 : Int) else if (if kind = 13 then kind == 13 else kind == 10) = false then 12 else 0) = if kind = 13 ∨ kind = 10 then 8 else 12 := by
  by_cases h1 : kind = 13
  · subst h1; decide
  · rw [if_neg h1]
    by_cases h2 : kind = 10
    · subst h2; decide
    · rw [if_neg (by simpa using h2), if_pos (by simpa using h2), if_neg (by simp [h1, h2])]
set_option maxHeartbeats 1000000 in
theorem cap_does (w : World) (news : List (Addr × Obj)) (page kind usable : Int) (t1 t2 t3 : Tok) :
    Does w 446 446 142 [.int page t1, .int kind t2, .int usable t3] news (fun r news' => ∃ t, r = .int (capZ page kind usable) t ∧ news' = news) := by
  refine does_of ?_
  intro p' loose mean mg mb gd cn cs a ccd cl outer A₀ base h₀ L m s Q E B F X N T hk hret
  refine wpAny_call ?_
  k_dflt cell_enter
  k_steps
  · refine hret _ _ _ _ (by k_asm) (by k_asm) ⟨_, congrArg (Value.int · _) ?_, rfl⟩
    rw [kind_cap]; unfold capZ; rw [if_pos (show page = 1 by assumption)]
  · refine hret _ _ _ _ (by k_asm) (by k_asm) ⟨_, congrArg (Value.int · _) ?_, rfl⟩
    rw [kind_cap]; unfold capZ; rw [if_neg (show ¬ page = 1 by assumption)]
theorem cap_use {w : World} {p : Program} {loose : List Str} {mean : ExcName → Option Value} {mg mb : Str → Option Value} {dp un : Nat} {gd : Option (List Code)} {cn : Str} {cs : Scope} {a : Addr} {ccd : Value} {cl : List (Str × Addr)} {outer : List Env}
    {A₀ : Around} {base h₀ : Heap} {L : Addr} {m : Str → Option Value} {s : Shared} {Q E : Value → Shared → Prop} {news : List (Addr × Obj)} {page kind usable : Int} {t1 t2 t3 : Tok}
    (B : Below A₀ base outer h₀) (F : Fr h₀ L s.heap m) (X : (Mine.hd.heap_39 w.params).In h₀) (N : News h₀ L s.heap news) (T : Top p loose mean mg mb h₀) (hk : cs.kind = .function) (hd : dp ≤ 446) (hu : un ≤ 446)
    (ret : ∀ t h' tk', Fr h₀ L h' m → News h₀ L h' news → Q (.int (capZ page kind usable) t) { s with heap := h', toks := tk' }) :
    wpAny (model PySem.Challenge.rw_xm0755_01.row.prog w) (ktrTop dp un gd cn cs L a ccd cl outer) (call (.ref 142) [.int page t1, .int kind t2, .int usable t3]) Q E s := by
  refine (cap_does w news page kind usable t1 t2 t3).use B F X N T hk hd hu ?_
  rintro r news' h' tk' F' N' ⟨t, rfl, rfl⟩
  exact ret t h' tk' F' N'
/-- what a cell of so many octets takes -/
def costZ (z : Nat) : Int := if (z : Int) < 4 then 6 else 2 + z
def bys (ps : List (Array UInt8 × Tok)) : List Value := ps.map fun p => .bytes p.1 p.2
def tot (ps : List (Array UInt8 × Tok)) : Int := (ps.map fun p => costZ p.1.size).sum
def Small (ps : List (Array UInt8 × Tok)) : Prop := ∀ p ∈ ps, p.1.size ≤ 30
set_option maxHeartbeats 400000 in
theorem cost_does (w : World) (news : List (Addr × Obj)) (b : Array UInt8) (tb : Tok) (hz : b.size ≤ 30) :
    Does w 450 450 123 [.bytes b tb] news (fun r news' => ∃ t, r = .int (costZ b.size) t ∧ news' = news) := by
  refine does_of ?_
  intro p' loose mean mg mb gd cn cs a ccd cl outer A₀ base h₀ L m s Q E B F X N T hk hret
  obtain ⟨ks, hb⟩ : ∃ ks, KBw.bInts b = ks := ⟨_, rfl⟩
  have hl : ks.length = b.size := by rw [← hb, KBw.ints_length]
  refine wpAny_call ?_
  k_dflt cell_enter
  k_steps
  rw [show (2 + if ((ks.length : Nat) : Int) > 4 then ((ks.length : Nat) : Int) else 4) = costZ b.size by unfold costZ; rw [hl]; split <;> split <;> omega]
  exact hret _ _ _ _ (by k_asm) (by k_asm) ⟨_, rfl, rfl⟩
theorem cost_use {w : World} {p : Program} {loose : List Str} {mean : ExcName → Option Value} {mg mb : Str → Option Value} {dp un : Nat} {gd : Option (List Code)} {cn : Str} {cs : Scope} {a : Addr} {ccd : Value} {cl : List (Str × Addr)} {outer : List Env}
    {A₀ : Around} {base h₀ : Heap} {L : Addr} {m : Str → Option Value} {s : Shared} {Q E : Value → Shared → Prop} {news : List (Addr × Obj)} {b : Array UInt8} {tb : Tok}
    (B : Below A₀ base outer h₀) (F : Fr h₀ L s.heap m) (X : (Mine.hd.heap_39 w.params).In h₀) (N : News h₀ L s.heap news) (T : Top p loose mean mg mb h₀) (hk : cs.kind = .function)
    (hz : b.size ≤ 30) (hd : dp ≤ 450) (hu : un ≤ 450)
    (ret : ∀ t h' tk', Fr h₀ L h' m → News h₀ L h' news → Q (.int (costZ b.size) t) { s with heap := h', toks := tk' }) :
    wpAny (model PySem.Challenge.rw_xm0755_01.row.prog w) (ktrTop dp un gd cn cs L a ccd cl outer) (call (.ref 123) [.bytes b tb]) Q E s := by
  refine (cost_does w news b tb hz).use B F X N T hk hd hu ?_
  rintro r news' h' tk' F' N' ⟨t, rfl, rfl⟩
  exact ret t h' tk' F' N'
theorem bys_at {ps : List (Array UInt8 × Tok)} {i : Nat} {v : Value} (h : (bys ps).toArray[i]? = some v) : ∃ p, ps[i]? = some p ∧ v = .bytes p.1 p.2 := by
  rw [List.getElem?_toArray] at h
  unfold bys at h
  rw [List.getElem?_map] at h
  cases hp : ps[i]? with
  | none => rw [hp] at h; cases h
  | some p => rw [hp] at h; exact ⟨p, rfl, (Option.some.inj h).symm⟩
section
local macro_rules | `(tactic| walk_at "CompSrc") => `(tactic| (refine hold ?_))
local macro_rules | `(tactic| walk_at "CompEnd") => `(tactic| (refine hold ?_))
local macro_rules | `(tactic| walk_at "call ref") => `(tactic| (k_here; (with_reducible show wpAny _ _ (call (Value.ref 123) _) _ _ _); k_dflt (refine' cost_use ?k1 ?k2 ?k3 ?k4 ?k5 ?kK ?hz ?hd ?hu ?_; (case k1 => k_asm); (case k2 => k_asm); (case k3 => k_asm); (case k4 => k_asm); (case k5 => k_asm); (case kK => first | exact rfl | assumption); (case hz => assumption); (case hd => exact Nat.le_of_ble_eq_true rfl); (case hu => exact Nat.le_of_ble_eq_true rfl); k_whole); intro t' h' tk' F' N'; (try k_sweep); walk_say "COST"))
set_option maxHeartbeats 400000 in
theorem total_does (w : World) (news : List (Addr × Obj)) (l : Addr) (ps : List (Array UInt8 × Tok)) (n : Nat) (hl : (l, listOf (bys ps).toArray n) ∈ news) (hz : Small ps) (hn : ps.length ≤ 6) :
    Does w 446 446 128 [.ref l] news (fun r news' => ∃ t, r = .int (tot ps) t ∧ news' = news) := by
  refine does_of ?_
  intro p' loose mean mg mb gd cn cs a ccd cl outer A₀ base h₀ L m s Q E B F X N T hk hret
  refine wpAny_call ?_
  k_dflt cell_enter
  k_steps
  refine (?_ : LCg.CompSrc _ _ _ _ _ _ _ _ _ _ _ _ _ _)
  refine' LCg.CompSrc.ledger (ax := l) (its := (bys ps).toArray) (k := n) (news := news) ?a1 ?a2 ?a3 ?a4 ?a5 ?_
  case a1 => exact rfl
  case a2 => k_asm
  case a3 => k_asm
  case a4 => exact hl
  case a5 => rw [PySem.sizeLine_eq]; simp [bys]; omega
  intro g2
  refine rest_ind (fun i ys nx => nx = news ∧ IntsAre ys ((ps.take i).map fun p => costZ p.1.size)) ⟨rfl, .nil⟩ ?turn ?fin
  case turn =>
    rintro i ys nx v I oI C oC D m₂ h tk E' hi ⟨rfl, hys⟩ hv hC hx F N off ne
    obtain ⟨p, hp, rfl⟩ := bys_at hv
    have hz30 : p.1.size ≤ 30 := hz p (List.mem_of_getElem? hp)
    k_steps
    show LCg.CompEnd _ _ _ _ _ _ _ _ _ _ _ _ _ _
    refine' LCg.CompEnd.intro ?e1 ?e2 nx ?e3 ?e4 (.inr ⟨_, hl, rfl, _, rfl⟩) ⟨rfl, ?e5⟩
    case e1 => k_asm
    case e2 => k_asm
    case e3 => kcf_all
    case e4 => assumption
    case e5 => rw [List.take_add_one, hp, Option.toList, List.map_append]; exact IntsAre.append hys (.cons _ _ .nil)
  case fin =>
    rintro ys nx ⟨rfl, hys⟩
    intro D h tk F N o1
    have hlen : (bys ps).toArray.size = ps.length := by simp [bys]
    rw [hlen, List.take_length] at hys
    k_steps
    exact hret _ _ _ _ (by k_asm) (news_sub (by k_asm) (fun y hy => .tail _ hy)) ⟨_, rfl, rfl⟩
end
theorem total_use {w : World} {p : Program} {loose : List Str} {mean : ExcName → Option Value} {mg mb : Str → Option Value} {dp un : Nat} {gd : Option (List Code)} {cn : Str} {cs : Scope} {a : Addr} {ccd : Value} {cl : List (Str × Addr)} {outer : List Env}
    {A₀ : Around} {base h₀ : Heap} {L : Addr} {m : Str → Option Value} {s : Shared} {Q E : Value → Shared → Prop} {news : List (Addr × Obj)} {l : Addr} {ps : List (Array UInt8 × Tok)} {n : Nat}
    (B : Below A₀ base outer h₀) (F : Fr h₀ L s.heap m) (X : (Mine.hd.heap_39 w.params).In h₀) (N : News h₀ L s.heap news) (T : Top p loose mean mg mb h₀) (hk : cs.kind = .function)
    (hl : (l, listOf (bys ps).toArray n) ∈ news) (hz : Small ps) (hn : ps.length ≤ 6) (hd : dp ≤ 446) (hu : un ≤ 446)
    (ret : ∀ t h' tk', Fr h₀ L h' m → News h₀ L h' news → Q (.int (tot ps) t) { s with heap := h', toks := tk' }) :
    wpAny (model PySem.Challenge.rw_xm0755_01.row.prog w) (ktrTop dp un gd cn cs L a ccd cl outer) (call (.ref 128) [.ref l]) Q E s := by
  refine (total_does w news l ps n hl hz hn).use B F X N T hk hd hu ?_
  rintro r news' h' tk' F' N' ⟨t, rfl, rfl⟩
  exact ret t h' tk' F' N'
def roomV {kind d : Int} (_hk : kind = 2 ∨ kind = 5 ∨ kind = 10 ∨ kind = 13) (_hd : d < 3) (P : Int) : Int → Prop := fun rm => rm = P - (if kind > 5 then 8 else 12) - (if 1 + d = 1 then 32 else 0)
theorem cap_room {page kind P : Int} (hk : kind = 2 ∨ kind = 5 ∨ kind = 10 ∨ kind = 13) : capZ page kind P = P - (if kind > 5 then 8 else 12) - (if page = 1 then 32 else 0) := by
  unfold capZ
  rcases hk with rfl | rfl | rfl | rfl <;> split <;> simp <;> omega
theorem small_take {ps : List (Array UInt8 × Tok)} {k : Nat} (h : Small ps) : Small (ps.take k) := fun p hp => h p (List.mem_of_mem_take hp)
theorem small_drop {ps : List (Array UInt8 × Tok)} {k : Nat} (h : Small ps) : Small (ps.drop k) := fun p hp => h p (List.mem_of_mem_drop hp)
theorem pick_hi {ps : List (Array UInt8 × Tok)} {c : Int} (h : 0 ≤ c) : kms_pick (bys ps) none (some c) = bys (ps.take c.toNat) := by
  have hc : ¬ c < 0 := by omega
  unfold kms_pick
  simp only [kms_lo, kms_hi, if_neg hc, List.drop_zero, Nat.sub_zero]
  rw [kmk_take_min]
  unfold bys
  rw [List.map_take]
theorem pick_lo {ps : List (Array UInt8 × Tok)} {c : Int} (h : 0 ≤ c) : kms_pick (bys ps) (some c) none = bys (ps.drop c.toNat) := by
  have hc : ¬ c < 0 := by omega
  unfold kms_pick
  simp only [kms_lo, kms_hi, if_neg hc]
  rw [kmk_drop_min, List.take_of_length_le (by rw [List.length_drop]; omega)]
  unfold bys
  rw [List.map_drop]
theorem bys_atL {ps : List (Array UInt8 × Tok)} {i : Nat} {v : Value} (h : (bys ps)[i]? = some v) : ∃ p, ps[i]? = some p ∧ v = .bytes p.1 p.2 := bys_at (by rw [List.getElem?_toArray]; exact h)
theorem tot_snoc {ps : List (Array UInt8 × Tok)} {i : Nat} {p : Array UInt8 × Tok} (h : ps[i]? = some p) : tot (ps.take (i + 1)) = tot (ps.take i) + costZ p.1.size := by
  unfold tot
  rw [List.take_add_one, h, Option.toList, List.map_append, List.sum_append]
  simp
theorem tot_cut (ps : List (Array UInt8 × Tok)) (k : Nat) : tot (ps.take k) + tot (ps.drop k) = tot ps := by
  unfold tot
  rw [← List.sum_append, ← List.map_append, List.take_append_drop]
theorem tot_lo (ps : List (Array UInt8 × Tok)) : 0 ≤ tot ps := by
  unfold tot
  induction ps with
  | nil => simp
  | cons p ps ih =>
    have : 0 ≤ costZ p.1.size := by unfold costZ; split <;> omega
    simp only [List.map_cons, List.sum_cons]
    omega
theorem bys_snoc {ps : List (Array UInt8 × Tok)} {b : Array UInt8} {t : Tok} : bys ps ++ [.bytes b t] = bys (ps ++ [(b, t)]) := by simp [bys]
theorem rep_in {x : Int} {d : Nat} (h0 : 0 ≤ x) (h1 : x < 256) : KBa.In (List.replicate d [x]).flatten := by
  intro n hn
  obtain ⟨l, hl, hn⟩ := List.mem_flatten.mp hn
  rw [List.eq_of_mem_replicate hl] at hn
  rw [List.mem_singleton.mp hn]
  exact ⟨h0, h1⟩
section
local macro_rules | `(tactic| walk_at "CompSrc") => `(tactic| (refine hold ?_))
local macro_rules | `(tactic| walk_at "CompEnd") => `(tactic| (refine hold ?_))
local macro_rules | `(tactic| k_steps) => `(tactic| repeat' (first | (k_unfold; (try dsimp only)) | (k_end; wrow_close) | (dsimp only; walk1) | walk1 | (leave1; walk_say "STEP leave1"; try dsimp only) | fail "no step"))
local macro_rules | `(tactic| walk_at "eval ListComp") => `(tactic| (refine hold ?_))
local macro_rules | `(tactic| walk_at "exec Assign cons ListComp") => `(tactic| (refine hold ?_))
local macro_rules | `(tactic| walk_at "call ref") => `(tactic| (k_here; (with_reducible show wpAny _ _ (call (Value.ref 128) _) _ _ _); k_dflt (refine' total_use ?k1 ?k2 ?k3 ?k4 ?k5 ?kK ?hl ?hz ?hn ?hd ?hu ?_; (case k1 => k_asm); (case k2 => k_asm); (case k3 => k_asm); (case k4 => k_asm); (case k5 => k_asm); (case kK => first | exact rfl | assumption); (case hl => k_mem); (case hz => first | assumption | exact small_take (by assumption) | exact small_drop (by assumption)); (case hn => first | assumption | (rw [List.length_take]; omega) | (rw [List.length_drop]; omega)); (case hd => exact Nat.le_of_ble_eq_true rfl); (case hu => exact Nat.le_of_ble_eq_true rfl); k_whole); intro t' h' tk' F' N'; (try k_sweep); walk_say "TOTAL"))
local macro_rules | `(tactic| walk_at "subscriptTail Name Slice ref ref") => `(tactic| (k_here; k_dflt (refine' kms_slice_lit ?F ?N ?l ?p ?q ?e ?_ ?s ?t ?z; (case F => k_asm); (case N => k_asm); (case l => exact News.isList (by k_asm) (by k_mem)); (case p => constructor); (case q => constructor); (case e => first | exact pick_hi (by omega) | exact pick_lo (by omega)); (case s => with_unfolding_all rfl); (case t => kmk_pure); (case z => (rw [PySem.sizeLine_eq, List.size_toArray]; omega))); intro D' h' F' N' l1; (try k_lt l1); (try k_sweep); walk_say "SLICE"))
local macro_rules | `(tactic| walk_at "exec Assign cons BinOp") => `(tactic| (refine hold ?_))
local macro_rules | `(tactic| walk_at "exec Assign cons IfExp") => `(tactic| (refine hold ?_))
local macro_rules | `(tactic| walk_at "call ref") => `(tactic| (k_here; (with_reducible show wpAny _ _ (call (Value.ref 142) _) _ _ _); k_dflt (refine' cap_use ?k1 ?k2 ?k3 ?k4 ?k5 ?kK ?hd ?hu ?_; (case k1 => k_asm); (case k2 => k_asm); (case k3 => k_asm); (case k4 => k_asm); (case k5 => k_asm); (case kK => first | exact rfl | assumption); (case hd => exact Nat.le_of_ble_eq_true rfl); (case hu => exact Nat.le_of_ble_eq_true rfl); k_whole); intro t' h' tk' F' N'; (try k_sweep); walk_say "CAP"))
local macro_rules | `(tactic| walk_at "exec For") => `(tactic| (refine hold ?_))
local macro_rules | `(tactic| walk_at "pyIter ref") => `(tactic| (refine hold ?_))
set_option maxHeartbeats 900000 in
theorem roomright_does (w : World) (S : Addr) (o : Obj) (rest : List (Addr × Obj)) (P : Int) (tp : Tok) (ho : SrcOk o) (hoff : ∀ p ∈ rest, p.1 ≠ S) (hP1 : 64 ≤ P) (hP2 : P ≤ 512) :
    Does w 440 440 339 [.ref S, .int P tp] ((S, o) :: rest) (fun r news' => ∃ o', r = .bool true ∧ SrcOk o' ∧ news' = (S, o') :: rest) := by
  refine does_of ?_
  intro p' loose mean mg mb gd cn cs a ccd cl outer A₀ base h₀ L m s Q E B F X N T hk hret
  refine wpAny_call ?_
  k_dflt (refine' code_defC ?k1 ?k2 ?k3 ?k4 ?k5 ?kA ?kF ?kK ?k6 ?k7 ?k8 ?k9 ?kB ?kD ?_ ?c2 ?c3 ?c4; (case kA => exact rfl); (case kF => exact rfl); (case kK => assumption); (case k1 => k_asm); (case k2 => k_asm); (case k3 => k_asm); (case k4 => k_asm); (case k5 => k_asm); (case k6 => k_is); (case k7 => k_is); (case k8 => exact Nat.le_of_ble_eq_true rfl); (case k9 => exact BindsTo.of_eq rfl); (case kB => exact rfl); (case kD => decide +kernel); (case c2 => exact rfl); (case c3 => exact rfl); (case c4 => exact rfl); k_whole; intro g1 L1 h' tk' cells' FG' F' N' Y' B' X' T' l1; (try k_lt l1); k_cells Y'; (try simp only [List.cons_append, List.nil_append] at N'); (try dsimp only); (try k_fold))
  k_steps
  refine (?_ : wpAny _ _ _ _ _ _)
  k_dflt (refine LCg.Assign_ListComp_U (F₀ := by k_asm) (by rfl) (by with_unfolding_all rfl) (by with_unfolding_all rfl) (by decide) (by rfl) (by decide) (by rfl) (by rfl) (by rfl) ?_)
  k_steps
  refine (?_ : LCg.CompSrc _ _ _ _ _ _ _ _ _ _ _ _ _ _)
  refine' LCg.CompSrc.range (news := (L1 + 1, _) :: (S, _) :: rest) ?a1 ?a2 ?a3 ?a4 ?a5 ?a6 ?a7 ?_
  case a1 => exact rfl
  case a2 => k_asm
  case a3 => exact news_sub (by k_asm) (by kcf_all)
  case a4 => assumption
  case a5 => exact small_one (by omega) (by omega) (by omega) (by omega)
  case a6 => exact rangeSize_nat _ _
  case a7 => rw [PySem.sizeLine_eq]; omega
  intro g'
  refine rest_ind (fun i ys nx => ∃ oc o' ps, nx = (L1 + 1, oc) :: (S, o') :: rest ∧ oc.data = .cell (some (.ref S)) ∧ SrcOk o' ∧ ys = bys ps ∧ ps.length = i ∧ Small ps) ⟨_, _, [], rfl, by assumption, by assumption, rfl, rfl, fun _ h => (nomatch h)⟩ ?turn ?fin
  case turn =>
    rintro i ys nx v I oI C oC D m₂ h tk E' hi ⟨oc, o', ps, rfl, hdc, hso, rfl, hlen, hsm⟩ ⟨t, rfl⟩ hC hx F N off ne
    simp only [LCg.Off3, and_true] at off
    have hi6 : i < 7 := by omega
    k_steps
    rename IntsAre _ (List.flatten _) => hI
    rename List.length _ = _ => he1
    rename (0 ≤ _ → _) => he3
    rename _ < (30 : Int) => hd30
    refine KBa.make_K (by k_asm) (by k_asm) rfl (News.isList (by k_asm) (by k_mem)) hI (rep_in (by omega) (by omega)) (by omega) ?_
    intro h' t' k' F' N' hin
    k_steps
    show LCg.CompEnd _ _ _ _ _ _ _ _ _ _ _ _ _ _
    refine' LCg.CompEnd.intro ?e1 ?e2 ((L1 + 1, oc) :: (S, _) :: rest) ?e3 ?e4 trivial ⟨oc, _, _, rfl, hdc, ?e5, bys_snoc, by simp [hlen], ?e6⟩
    case e1 => k_asm
    case e2 => k_asm
    case e3 => kcf_all
    case e4 => (simp only [LCg.Off3, and_true]; assumption)
    case e5 => assumption
    case e6 =>
      intro p hp
      rcases List.mem_append.mp hp with hp | hp
      · exact hsm p hp
      · rw [List.mem_singleton.mp hp, byteArr_size]
        omega
  case fin =>
    rintro ys nx ⟨oc, o', ps, rfl, hdc, hso, rfl, hlen, hsm⟩
    intro D h tk F N o1
    obtain ⟨oa, ob, oz⟩ := o1
    have oa : @Ne Nat (L1 + 1) D := oa
    have ob : @Ne Nat S D := ob
    have hbl : (bys ps).length = ps.length := by simp [bys]
    have hp6 : ps.length ≤ 6 := by omega
    k_steps
    refine (?_ : wpAny _ _ _ _ _ _)
    (rename Fr _ _ _ _ => lF'); (with_unfolding_all refine' For_invVF lF' ?k1 ?k2 ?_)
    case k1 => exact rfl
    case k2 => exact rfl
    k_steps
    refine (?_ : wpAny _ _ _ _ _ _)
    rename Fr _ _ _ _ => F1
    rename News _ _ _ _ => N1
    refine led_fold (l := D) (its := bys ps) (k := (bys ps).length) (x := Str.ofString "raw") (y := Str.ofString "taken") (fun i u => ∃ t, u = .int (tot (ps.take i)) t) (by decide) rfl (by k_mem) F1 N1 rfl ⟨_, rfl⟩ ?turn2 ?done2
    case turn2 =>
      rintro i v u h tk own hv ⟨tu, rfl⟩ F N
      obtain ⟨p, hp, rfl⟩ := bys_atL hv
      obtain ⟨qs, hq⟩ : ∃ qs, KBw.bInts p.1 = qs := ⟨_, rfl⟩
      have hql : qs.length = p.1.size := by rw [← hq, KBw.ints_length]
      have hqs : p.1.size ≤ 30 := hsm p (List.mem_of_getElem? hp)
      have hts := tot_snoc hp
      k_steps
      refine (?_ : wpAny _ _ _ _ _ _)
      k_dflt (refine wpAny_Assign_Name ?_)
      k_steps
      · refine LedEnd.intro (by k_asm) (by k_asm) ⟨_, congrArg (Value.int · _) ?_⟩
        rw [hts]; unfold costZ; rw [if_pos (by omega)]
      · refine LedEnd.intro (by k_asm) (by k_asm) ⟨_, congrArg (Value.int · _) ?_⟩
        rw [hts]; unfold costZ; rw [if_neg (by omega), hql]
    case done2 =>
      rintro u r h tk ⟨tu, rfl⟩ F N
      rw [hbl, List.take_length] at F
      replace N : News g1 L1 h ((D, LCg.lst (bys ps)) :: (L1 + 1, oc) :: (S, _) :: rest) := news_sub N (by kcf_all)
      clear F1 N1
      dsimp only
      k_steps
      · exact absurd rfl (by assumption)
      · exact absurd (tot_cut _ _) (by assumption)
      rename _ ∨ _ => hkind
      rename _ < (3 : Int) => hd3
      have N2 : News g1 L1 _ ((D, LCg.lst (bys ps)) :: (L1 + 1, oc) :: (S, _) :: rest) := news_sub (by k_asm) (by kcf_all)
      refine (?_ : wpAny _ _ _ _ _ _)
      clear F N
      rename Fr _ _ _ _ => F1
      clear l1
      k_dflt (refine two_cut (x := Str.ofString "room") (V := roomV hkind hd3 P) F1 N2 ?r1 ?r2)
      case r1 =>
        k_dflt (refine wpAny_Assign_Name ?_)
        k_steps
        all_goals refine (?_ : wpAny _ _ _ _ _ _)
        all_goals k_dflt (refine wpAny_Assign_Name ?_)
        all_goals k_steps
        all_goals exact TwoEnd.intro (by k_asm) (by k_asm) (by unfold roomV; (repeat' split) <;> first | omega | (exfalso; omega))
      case r2 =>
        intro rm t u h tk hrm F N
        have hcap := (cap_room hkind).trans (show rm = _ from hrm).symm
        k_steps
        · exact absurd hcap (by assumption)
        · exact hret _ _ _ _ (by k_asm) (news_sub (by k_asm) (by kcf_all)) ⟨_, congrArg Value.bool (by rw [hcap]; exact beq_self_eq_true _), by assumption, rfl⟩
end
theorem roomright_use {w : World} {p : Program} {loose : List Str} {mean : ExcName → Option Value} {mg mb : Str → Option Value} {dp un : Nat} {gd : Option (List Code)} {cn : Str} {cs : Scope} {a : Addr} {ccd : Value} {cl : List (Str × Addr)} {outer : List Env}
    {A₀ : Around} {base h₀ : Heap} {L : Addr} {m : Str → Option Value} {s : Shared} {Q E : Value → Shared → Prop} {news : List (Addr × Obj)} {S : Addr} {o : Obj} {P : Int} {tp : Tok}
    (B : Below A₀ base outer h₀) (F : Fr h₀ L s.heap m) (X : (Mine.hd.heap_39 w.params).In h₀) (N : News h₀ L s.heap ((S, o) :: news)) (T : Top p loose mean mg mb h₀) (hk : cs.kind = .function)
    (ho : SrcOk o) (hoff : ∀ p ∈ news, p.1 ≠ S) (h0 : 64 ≤ P) (h1 : P ≤ 512) (hd : dp ≤ 440) (hu : un ≤ 440)
    (ret : ∀ o' h' tk', SrcOk o' → Fr h₀ L h' m → News h₀ L h' ((S, o') :: news) → Q (.bool true) { s with heap := h', toks := tk' }) :
    wpAny (model PySem.Challenge.rw_xm0755_01.row.prog w) (ktrTop dp un gd cn cs L a ccd cl outer) (call (.ref 339) [.ref S, .int P tp]) Q E s := by
  refine (roomright_does w S o news P tp ho hoff h0 h1).use B F X N T hk hd hu ?_
  rintro r news' h' tk' F' N' ⟨o', rfl, ho', rfl⟩
  exact ret o' h' tk' ho' F' N'
section
variable {prog : Program} {w : World} {A : Around} {s : Shared} {K : Frag} {mg mb : Str → Option Value} {p : Program} {loose : List Str} {mean : ExcName → Option Value}
/-- the caller's call of a def of the text -/
theorem codeC_top {R : Result → Shared → Prop} {name qual : Str} {params : Arguments} {body : List Stmt} {scope : Scope} {dV kV doc pm cdv ct oc : Value} {an od : Option Addr} {osl : Array (Option Value)} {f : Addr} {args : Args} {binds : List (Str × Value)}
    (X : K.In s.heap) (T : Top p loose mean mg mb s.heap)
    (ho : K.lookup f = some ⟨oc, od, .func (fnOf name qual params body scope dV kV doc pm an cdv ct), osl⟩) (hcd : codeIn K cdv qual = true) (hroom : A.depth < recursionLimit)
    (hbind : BindsTo s (fnOf name qual params body scope dV kV doc pm an cdv ct) args binds) (hloc : ∀ y ∈ binds, scope.names.lookup y.1 = some .local)
    (h : ∀ h₁, Fr s.heap s.heap.objs.size h₁ (fun y => binds.reverse.lookup y) →
      wpC (model prog w) (A.deeper (envOf qual scope s.heap.objs.size f cdv)) (execs body (envOf qual scope s.heap.objs.size f cdv))
        (fun fl s' => R (.ok (.ret (match fl with | .ret v => v | _ => .none))) s') (fun _ _ => False) { s with heap := h₁, toks := s.toks + binds.length })
    (hco : scope.isCoroutine = false) (hgen : scope.isGenerator = false) (hk : scope.kind = .function) (hcell : ∀ x ∈ scope.names, x.2 ≠ .cell) : codeC (model prog w) A (.call (.ref f) args) R s := by
  refine codeC_call_function hroom (X _ _ ho) rfl hco hgen rfl (codeRec_of X hcd) (hbind _ _ _ _ ?_)
  refine wpAny_newFunctionEnv hcell hloc (fun h₁ hns hsb => ?_) hk
  have hk₁ : ∀ b o, s.heap.get? b = some o → h₁.get? b = some o := fun b o e => hsb.extBut b o (Nat.ne_of_lt (Heap.lt_size e)) (Heap.get?_push_of_some _ e)
  exact ⟨T.nolimit.keeps hk₁, codeC_func (h h₁ ⟨hns, hk₁, Nat.le_refl _⟩)⟩
end
/-- what the call of the law leaves -/
def LawEnd (s : Shared) (v : Value) (s' : Shared) : Prop := v = .bool true ∧ ∃ h' tk, s' = { s with heap := h', toks := tk } ∧ ∀ b o, s.heap.get? b = some o → h'.get? b = some o
/-- a statement that stores nothing: what is behind it is walked with a clean desk -/
def Kept (h₀ : Heap) (L : Addr) (s : Shared) (m : Str → Option Value) (f : Flow) (s₂ : Shared) : Prop := f = .next ∧ ∃ h tk, s₂ = { s with heap := h, toks := tk } ∧ Fr h₀ L h m
theorem C_cut {M : Model} {A : Around} {E : Value → Shared → Prop} {s : Shared} {env : Env} {h₀ : Heap} {L : Addr} {m : Str → Option Value} {st : Stmt} {rest : List Stmt} {Q : Flow → Shared → Prop} (F : Fr h₀ L s.heap m)
    (h1 : wpAny M A (exec st env) (Kept h₀ L s m) E s) (h2 : ∀ h tk, Fr h₀ L h m → wpC M A (execs rest env) Q E { s with heap := h, toks := tk }) : wpC M A (execs (st :: rest) env) Q E s := by
  refine C_execs_cons (C_of (wpAny_mono h1 (fun f s' hf => ?_) fun _ _ x => x))
  obtain ⟨rfl, h, tk, rfl, F'⟩ := hf
  exact h2 h tk F'
theorem var_one : VarOf [] 1 1 := ⟨(fun _ h => nomatch h), .inl ⟨by decide, by decide, by decide, by decide⟩⟩
theorem var_max : VarOf [255, 255, 255, 255, 255, 255, 255, 255] 255 18446744073709551615 := ⟨by decide, .inr ⟨rfl, by decide, by decide, by decide +kernel⟩⟩
section
local macro_rules | `(tactic| k_steps) => `(tactic| repeat' (first | (k_unfold; (try dsimp only)) | (k_end; wrow_close) | (dsimp only; walk1) | walk1 | (leave1; walk_say "STEP leave1"; try dsimp only) | fail "no step"))
local macro_rules | `(tactic| walk_at "call type:bytes cons nil") => `(tactic| (k_here; (with_reducible show wpAny _ _ (call (Value.type "bytes") [Value.int _ _]) _ _ _); k_dflt (refine' call_bytesN ?a ?b ?_; (case a => decide); (case b => decide); k_whole); intro t' k'; walk_say "BYTESN"))
local macro_rules | `(tactic| walk_at "call ref") => `(tactic| (k_here; (with_reducible show wpAny _ _ (call (Value.ref 128) _) _ _ _); k_dflt (refine' total_use (ps := [(_, _), (_, _), (_, _)]) ?k1 ?k2 ?k3 ?k4 ?k5 ?kK ?hl ?hz ?hn ?hd ?hu ?_; (case k1 => k_asm); (case k2 => k_asm); (case k3 => k_asm); (case k4 => k_asm); (case k5 => k_asm); (case kK => first | exact rfl | assumption); (case hl => k_mem); (case hz => (simp [Small])); (case hn => exact Nat.le_of_ble_eq_true rfl); (case hd => exact Nat.le_of_ble_eq_true rfl); (case hu => exact Nat.le_of_ble_eq_true rfl); k_whole); intro t' h' tk' F' N'; (try k_sweep); walk_say "TOTAL"))
local macro_rules | `(tactic| walk_at "call ref") => `(tactic| (k_here; (with_reducible show wpAny _ _ (call (Value.ref 142) _) _ _ _); k_dflt (refine' cap_use ?k1 ?k2 ?k3 ?k4 ?k5 ?kK ?hd ?hu ?_; (case k1 => k_asm); (case k2 => k_asm); (case k3 => k_asm); (case k4 => k_asm); (case k5 => k_asm); (case kK => first | exact rfl | assumption); (case hd => exact Nat.le_of_ble_eq_true rfl); (case hu => exact Nat.le_of_ble_eq_true rfl); k_whole); intro t' h' tk' F' N'; (try k_sweep); walk_say "CAP"))
local macro_rules | `(tactic| walk_at "call ref") => `(tactic| ((with_reducible show wpAny _ _ (call (Value.ref 163) _) _ _ _); (refine hold ?_)))
local macro_rules | `(tactic| walk_at "pyIter ref") => `(tactic| (refine hold ?_))
local macro_rules | `(tactic| walk_at "call ref") => `(tactic| (k_here; (with_reducible show wpAny _ _ (call (Value.ref 308) _) _ _ _); k_dflt (refine' pool_use ?k1 ?k2 ?k3 ?k4 ?k5 ?kK ?hl ?hi ?hn ?h0 ?h1 ?hd ?hu ?_; (case k1 => k_asm); (case k2 => k_asm); (case k3 => k_asm); (case k4 => k_asm); (case k5 => k_asm); (case kK => first | exact rfl | assumption); (case hl => assumption); (case hi => assumption); (case hn => assumption); (case h0 => omega); (case h1 => omega); (case hd => exact Nat.le_of_ble_eq_true rfl); (case hu => exact Nat.le_of_ble_eq_true rfl); k_whole); intro x' o' h' tk' ho' F' N' l1; (try k_lt l1); (try k_sweep); walk_say "POOL"))
local macro_rules | `(tactic| walk_at "call ref") => `(tactic| (k_here; (with_reducible show wpAny _ _ (call (Value.ref 322) _) _ _ _); k_dflt (refine' one_useB 64 513 ?k1 ?k2 ?k3 ?k4 ?k5 ?kK ?U ?o ?t ?tn ?i ?b ?t1 ?t2 ?hd ?hu ?_; (case k1 => k_asm); (case k2 => k_asm); (case k3 => k_asm); (case k4 => k_asm); (case k5 => k_asm); (case kK => first | exact rfl | assumption); (case U => k_updF); (case o => assumption); (case t => k_mem); (case tn => k_ne); (case i => l_ints); (case b => (simp only [List.forall_mem_cons, List.not_mem_nil, false_implies, implies_true, and_true]; refine ⟨by decide, by decide, by decide, by decide, by omega⟩)); (case t1 => exact Nat.le_of_ble_eq_true rfl); (case t2 => exact Nat.le_of_ble_eq_true rfl); (case hd => exact Nat.le_of_ble_eq_true rfl); (case hu => exact Nat.le_of_ble_eq_true rfl); k_whole); intro r' t' o' h' tk' hrlo' hrhi' hso' F' N'; (try dsimp only at N'); (try k_sweep); walk_say "ONE"))
local macro_rules | `(tactic| walk_at "call ref") => `(tactic| (k_here; (with_reducible show wpAny _ _ (call (Value.ref 334) _) _ _ _); k_dflt (refine' chain_use ?k1 ?k2 ?k3 ?k4 ?k5 ?kK ?ho ?hoff ?h0 ?h1 ?hd ?hu ?_; (case k1 => k_asm); (case k2 => k_asm); (case k3 => k_asm); (case k4 => k_asm); (case k5 => k_asm); (case kK => first | exact rfl | assumption); (case ho => assumption); (case hoff => k_all); (case h0 => omega); (case h1 => omega); (case hd => exact Nat.le_of_ble_eq_true rfl); (case hu => exact Nat.le_of_ble_eq_true rfl); k_whole); intro o' h' tk' ho' F' N'; (try k_sweep); walk_say "CHAIN"))
local macro_rules | `(tactic| walk_at "call ref") => `(tactic| (k_here; (with_reducible show wpAny _ _ (call (Value.ref 339) _) _ _ _); k_dflt (refine' roomright_use ?k1 ?k2 ?k3 ?k4 ?k5 ?kK ?ho ?hoff ?h0 ?h1 ?hd ?hu ?_; (case k1 => k_asm); (case k2 => k_asm); (case k3 => k_asm); (case k4 => k_asm); (case k5 => k_asm); (case kK => first | exact rfl | assumption); (case ho => assumption); (case hoff => k_all); (case h0 => omega); (case h1 => omega); (case hd => exact Nat.le_of_ble_eq_true rfl); (case hu => exact Nat.le_of_ble_eq_true rfl); k_whole); intro o' h' tk' ho' F' N'; (try k_sweep); walk_say "ROOM"))
local macro_rules | `(tactic| walk_at "call ref") => `(tactic| (k_here; (with_reducible show wpAny _ _ (call (Value.ref 349) _) _ _ _); k_dflt (refine' rowright_use ?k1 ?k2 ?k3 ?k4 ?k5 ?kK ?ho ?hoff ?hd ?hu ?_; (case k1 => k_asm); (case k2 => k_asm); (case k3 => k_asm); (case k4 => k_asm); (case k5 => k_asm); (case kK => first | exact rfl | assumption); (case ho => assumption); (case hoff => k_all); (case hd => exact Nat.le_of_ble_eq_true rfl); (case hu => exact Nat.le_of_ble_eq_true rfl); k_whole); intro o' h' tk' ho' F' N'; (try k_sweep); walk_say "ROWID"))
set_option maxHeartbeats 1000000 in
theorem law_C (w : World) {p : Program} {loose : List Str} {mean : ExcName → Option Value} {mg mb : Str → Option Value} {s : Shared} {l : Addr} {vs : List Value} {ks : List Int} (X : (Mine.hd.heap_39 w.params).In s.heap) (T : Top p loose mean mg mb s.heap)
    (hl : s.heap.IsList l vs.toArray) (hi : IntsAre vs ks) (hn : ks.length ≤ 63) :
    wpC (model PySem.Challenge.rw_xm0755_01.row.prog w) callerA (call (.ref 356) [.ref l]) (LawEnd s) (fun _ _ => False) s := by
  have B : Below callerA s.heap [] s.heap := below_caller (Top.heap T)
  refine C_call ?_
  k_dflt (refine' codeC_top X T ?k6 ?k7 ?k8 ?k9 ?kB ?_ ?c2 ?c3 ?c4 ?c5; (case k6 => k_is); (case k7 => k_is); (case k8 => exact Nat.le_of_ble_eq_true rfl); (case k9 => exact BindsTo.of_eq rfl); (case c5 => decide); (case kB => exact locs rfl); (case c2 => exact rfl); (case c3 => exact rfl); (case c4 => exact rfl); k_whole; intro h₁ F)
  refine C_cut F ?_ ?_
  · have N : News s.heap s.heap.objs.size h₁ [] := News.nil
    k_steps
    exact ⟨rfl, _, _, rfl, by k_asm⟩
  intro h2 tk2 F2
  clear F
  refine C_cut F2 ?_ ?_
  · have N : News s.heap s.heap.objs.size h2 [] := News.nil
    k_steps
    · exact ⟨rfl, _, _, rfl, by k_asm⟩
    · exfalso
      rename ¬ (_ ≤ _) => hne
      exact hne (by simp [tot, costZ, capZ])
  intro h3 tk3 F3
  clear F2
  refine C_cut F3 ?_ ?_
  · have N : News s.heap s.heap.objs.size h3 [] := News.nil
    k_steps
    refine (?_ : wpAny _ _ _ _ _ _)
    k_dflt (refine' leafrow_use (i1 := []) (l1 := 1) (i2 := [255, 255, 255, 255, 255, 255, 255, 255]) (l2 := 255) (post := []) (n1 := 1) (n2 := 18446744073709551615) ?k1 ?k2 ?k3 ?k4 ?k5 ?kK ?hb ?hv1 ?hv2 ?hz ?hd ?hu ?_; (case k1 => k_asm); (case k2 => k_asm); (case k3 => k_asm); (case k4 => k_asm); (case k5 => k_asm); (case kK => exact rfl); (case hb => decide +kernel); (case hv1 => exact var_one); (case hv2 => exact var_max); (case hz => decide +kernel); (case hd => exact Nat.le_of_ble_eq_true rfl); (case hu => exact Nat.le_of_ble_eq_true rfl))
    intro t3 h4 tk4 F4 N4
    k_steps
    exact ⟨rfl, _, _, rfl, by k_asm⟩
  intro h4 tk4 F4
  clear F3
  have N4 : News s.heap s.heap.objs.size h4 [] := News.nil
  refine C_execs_cons (C_For ?_)
  k_steps
  refine (?_ : wpAny _ _ _ _ _ _)
  rename IsRange _ _ _ _ _ _ _ _ => R1
  rename Fr _ _ _ _ => F5
  obtain ⟨bb, hb0, hb1, R1⟩ : ∃ bb : Int, 0 ≤ bb ∧ bb ≤ 2 ∧ IsRange _ _ 0 bb 1 _ _ _ := ⟨_, (by (repeat' split) <;> omega), (by (repeat' split) <;> omega), R1⟩
  refine wpAny_pyIter_range R1 (small_one (by omega) (by omega) (by omega) (by omega)) ?_
  refine codeC_forLoop_range (h₀ := s.heap) (n := (bb - 0).toNat) (fun m => m (Str.ofString "script") = some (.ref l)) rfl rfl rfl (next_is_new F5) (Nat.ne_of_gt F5.ns.lt) ?hit (F5.push _) ?hj ?turn ?done
  case hit => rw [rangeSize_nat]; exact Heap.get?_push_size _ rfl
  case hj => rfl
  case turn =>
    intro i t m₁ h tk o hi2 hJ F N
    have hi3 : i < 2 := by omega
    have F := fr_known F (x := Str.ofString "script") (v := .ref l) (by show (if _ then _ else _) = _; rw [if_neg (by decide)]; exact hJ)
    clear F5
    refine C_execs_cons (C_of ?_)
    k_steps
    refine C_execs_cons (C_of ?_)
    k_steps
    rename News _ _ _ [_, _, _] => N5
    have N6 := news_sub N5 (fun p hp => List.Mem.tail _ hp)
    clear N5
    refine C_execs_cons (C_of ?_)
    k_steps
    refine C_execs_cons (C_If (C_isOr (C_isNot (C_isCall (C_Call ?_)))))
    k_steps
    k_dflt (refine' C_callWith_K ?k1 ?k2 ?_; (case k1 => k_asm); (case k2 => k_is))
    k_steps
    k_dflt (refine' (childright_does w _ _ _ ?ho ?hoff).use ?k1 ?k2 ?k3 ?k4 ?k5 ?kK ?hd ?hu ?_; (case k1 => k_asm); (case k2 => k_asm); (case k3 => k_asm); (case k4 => k_asm); (case k5 => k_asm); (case kK => exact rfl); (case ho => assumption); (case hoff => k_all); (case hd => exact Nat.le_of_ble_eq_true rfl); (case hu => exact Nat.le_of_ble_eq_true rfl))
    rintro r5 news5 h5 tk5 F5 N5 ⟨o5, rfl, ho5, hn5⟩
    rw [hn5] at N5
    k_steps
    exact C_of (wpAny_execs_nil (C_of (wpAny_execs_nil ⟨_, _, _, rfl, by k_asm, news_sub (by k_asm) (fun p hp => List.Mem.tail _ hp), rfl⟩)))
  case done =>
    intro m₁ h tk hJ F
    dsimp only
    refine C_of ?_
    have N : News s.heap s.heap.objs.size h [] := News.nil
    k_steps
    exact ⟨rfl, h, tk, rfl, fun b o e => F.keep b o e⟩
end
set_option maxHeartbeats 1000000 in
theorem law_holds : PySem.Challenge.rw_xm0755_01.Holds := by
  refine Mine.hd ?_
  intro w s₀ s₁ mg mb G Y fa o pm cd doc dV kV ho hd hcd hD hmg hg args vals as hpre hlay hrd hwl hlo
  have KX := kIn_of Y
  refine Ground.open G ?_
  intro T B D TE TW
  have h356 : mg (PySem.Str.ofString "law") = some (.ref 356) := mg_of KX T.g (by k_is)
  obtain rfl : fa = 356 := by
    have e := hmg.symm.trans h356
    cases e
    rfl
  clear hmg
  wrow_args hpre hlay hrd hwl hlo
  rename Heap.IsList _ _ _ => hL
  rename IntsAre _ _ => hI
  rename ¬ (_ < _) => hn
  refine C_mono (law_C w KX T hL hI (by omega)) (fun v s' hv => ?_) (fun _ _ x => x)
  obtain ⟨rfl, h', tk, rfl, hk⟩ := hv
  refine GoodW.toG ⟨.inl ⟨.bool true, .bool true, [], rfl, raisesW_false (by wrow_none_raised), .bool true, ?_, fun _ => ⟨List.nodup_nil, fun _ h => nomatch h⟩⟩, hk, rfl, hg⟩
  first
    | rfl
    | wrow_post
end Mine

theorem PySem.Challenge.cw_xm0755_01_holds : PySem.Challenge.rw_xm0755_01.Holds := by
  exact Mine.law_holds
