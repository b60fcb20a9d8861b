import PyProof.Rows.All
import Wide.All
import OpenK.AllK
import Wide.FinOn
import Lean
import PySem.Challenge.RW_pf0268_01
section
open Lean Meta
namespace Mine.Sh
/-- recursion through a cell -/
def knot (F : (Expr → MetaM Expr) → Expr → MetaM Expr) : MetaM (Expr → MetaM Expr) := do
  let r ← IO.mkRef (fun (e : Expr) => (return e : MetaM Expr))
  let f := fun a => do (← r.get) a
  r.set (F f)
  return f
/-- tables by number: 0 the skeleton, 1 the references to a part, 2 the part's variable, 3 a binder's lets, 4 what is written -/
def get (r : IO.Ref (Std.HashMap Expr Expr)) (k : Nat) (e : Expr) : MetaM Expr := return (← r.get).getD (.app (.bvar k) e) (.bvar 0)
def put (r : IO.Ref (Std.HashMap Expr Expr)) (k : Nat) (e v : Expr) : MetaM Expr := do r.modify (·.insert (.app (.bvar k) e) v); return v
def rebuild (f : Expr → MetaM Expr) (e : Expr) : MetaM Expr := do
  match ← e.traverseChildren f with
  | .lam _ t b i => return .lam `x t b i
  | .forallE _ t b i => return .forallE `x t b i
  | .mdata _ b => return b
  | r => return r
/-- the mark of a binder whose variable is free -/
def isMark (e : Expr) : Bool := e.isAppOf `Mine.Sh.binder
/-- the binders of a proof become free variables -/
def skelF (r : IO.Ref (Std.HashMap Expr Expr)) (lc : IO.Ref LocalContext) (self : Expr → MetaM Expr) (e : Expr) : MetaM Expr := do
  let o ← get r 0 e
  unless o.isBVar do return o
  if let .lam n t b i := e then
    let x ← mkFreshFVarId
    lc.modify (·.mkLocalDecl x n t i)
    put r 0 e (mkApp2 (.const `Mine.Sh.binder []) (.fvar x) (.lam n t (← withLCtx' ((← getLCtx).mkLocalDecl x n t i) (self (b.instantiate1 (.fvar x)))) i))
  else
    let f := e.getAppFn
    unless e.isApp && (f.isConst || f.isFVar) do return e
    put r 0 e (mkAppN f (← e.getAppArgs.mapM fun a => do
      if a.isLambda || a.isApp then
        if ← isProof a then return ← self a
      return a))
/-- counts the references to the parts of a term (each node once) -/
def countF (r : IO.Ref (Std.HashMap Expr Expr)) (ord : IO.Ref (Array Expr)) (self : Expr → MetaM Expr) (e : Expr) : MetaM Expr := do
  if e.hasFVar && !e.isFVar then
    let n ← get r 1 e
    discard <| put r 1 e (.bvar n.looseBVarRange)
    if n.looseBVarRange == 1 then
      discard <| rebuild self e
      ord.modify (·.push e)
  return e
/-- a term, its shared parts replaced by their variables; a binder closed again, its lets behind it -/
def emitF (r : IO.Ref (Std.HashMap Expr Expr)) (self : Expr → MetaM Expr) (e : Expr) : MetaM Expr := do
  unless e.hasFVar do return e
  let o ← get r 4 e
  unless o.isBVar do return o
  if isMark e then
    let x := e.appFn!.appArg!
    let l ← self e.appArg!
    let ls := (← get r 3 x).getAppArgs
    let mut b := l.bindingBody!
    for i in [0:ls.size/3] do
      let j := ls.size - 3 - 3 * i
      b := .letE `x ls[j+2]! (← rebuild self ls[j]!) (b.abstract #[ls[j+1]!]) false
    put r 4 e (.lam `x l.bindingDomain! (b.abstract #[x]) l.binderInfo)
  else put r 4 e (← rebuild self e)
def shrink (v : Expr) : MetaM Expr := do
  let r ← IO.mkRef ∅
  let ord ← IO.mkRef #[]
  let lc ← IO.mkRef (← getLCtx)
  let e ← (← knot (skelF r lc)) v
  discard <| (← knot (countF r ord)) e
  let c ← lc.get
  let ts ← ord.get
  if ts.size < 300 then return v
  withLCtx' c do
    for t in ts do
      unless t.hasLooseBVars || (← get r 1 t).looseBVarRange < 3 || (t.find? isMark).isSome do
        let τ ← try inferType t catch _ => pure t
        unless τ.hasFVar do
          let zs := (collectFVars {} t).fvarIds
          let x := zs.foldl (fun b z => if (c.get! z).index ≥ (c.get! b).index then z else b) zs[0]!
          let y := .fvar (← mkFreshFVarId)
          discard <| put r 3 (.fvar x) (mkApp3 (← get r 3 (.fvar x)) t y τ)
          discard <| put r 2 t y
    (← knot fun self e => do
      let y ← get r 2 e
      if y.isFVar then return y else emitF r self e) e
open Lean.Elab.Tactic in
/-- the first step of a proof that `fin` is to make smaller -/
def mark : TacticM Unit := do
  let g ← getMainGoal
  g.setTag `shrinkRoot
  let m ← mkFreshExprSyntheticOpaqueMVar (← g.getType)
  g.assign m
  replaceMainGoal [m.mvarId!]
open Lean.Elab.Tactic in
/-- the last step of a proof: the marked goal's proof is made smaller -/
def fin : TacticM Unit := do
  if let some g := (← getMCtx).findUserName? `shrinkRoot then
    g.withContext do
      let v ← instantiateMVars (mkMVar g)
      if v.hasExprMVar then throwError "a hole is left"
      let xs ← getLocalHyps
      let w ← shrink (← mkLambdaFVars xs v)
      modifyMCtx fun c => { c with eAssignment := c.eAssignment.insert g (w.beta xs) }
/-- omega on `hs` and the facts that stand ahead of the goal's sign -/
def omProof (hs : Array Expr) (t : Expr) : MetaM Expr := do
  let m ← mkFreshExprSyntheticOpaqueMVar t
  let (xs, g) ← m.mvarId!.intros
  g.withContext do Lean.Elab.Tactic.Omega.omega (hs ++ xs.map mkFVar).toList g {}
  instantiateMVars m
/-- omega, with the facts that it needs alone, as a closed lemma, lengths as variables -/
def omg : Lean.Elab.Tactic.TacticM Unit := Lean.Elab.Tactic.liftMetaFinishingTactic fun g => do
  if let some g ← g.falseOrByContra then
    g.withContext do
      let hs ← getLocalHyps
      let p ← omProof hs (← g.getType)
      let hs ← hs.filterM fun h => if p.containsFVar h.fvarId! then isProof h else return false
      let mut t ← mkForallFVars hs (← g.getType)
      let mut as := hs
      for _ in [0:20] do
        if let some a := t.find? fun e => e.hasFVar && !e.hasLooseBVars && (e.isAppOfArity ``List.length 2 || e.isAppOfArity ``Array.size 2) then
          t := .forallE `x (.const ``Nat []) (← kabstract t a) .default
          as := #[a] ++ as
      g.assign (mkAppN (← mkAuxTheorem t (← omProof #[] t)) as)
/-- the walk's lines, but the oldest `n`, are taken away -/
def keep (n : Nat) : Lean.Elab.Tactic.TacticM Unit := PySem.W.kExtra.modify fun l => l.drop (l.length - n)
end Mine.Sh
end
open PySem PySem.W PyProof.Rows
set_option Elab.async false
set_option maxRecDepth 100000
set_option maxHeartbeats 0
set_option rowWalk.seconds 0
namespace Mine
local macro_rules | `(tactic| omega) => `(tactic| run_tac Mine.Sh.omg)
theorem mem_step {α : Type} {a : α} {l l2 : List α} (h : a ∈ l2) (k : ∀ q ∈ l, q ∈ l2) : ∀ q ∈ a :: l, q ∈ l2 := List.forall_mem_cons.mpr ⟨h, k⟩
theorem app_step {α : Type} {m l l2 : List α} (h : ∀ q ∈ m, q ∈ l2) (k : ∀ q ∈ l, q ∈ l2) : ∀ q ∈ m ++ l, q ∈ l2 := fun q hq => (List.mem_append.mp hq).elim (h q) (k q)
theorem sub_tail {α : Type} {b : α} {l l2 : List α} (h : ∀ q ∈ l, q ∈ l2) : ∀ q ∈ l, q ∈ b :: l2 := fun q hq => List.Mem.tail b (h q hq)
theorem sub_right {α : Type} {m l l2 : List α} (h : ∀ q ∈ l, q ∈ l2) : ∀ q ∈ l, q ∈ m ++ l2 := fun q hq => List.mem_append_right m (h q hq)
-- HD
section
open Lean Meta Elab Tactic in
noncomputable def hd.heap_39 : PySem.Params → PySem.W.Frag := by
  run_tac do
    let g ← getMainGoal
    let env ← getEnv
    let (K, _) ← mkFrag (← progOf (mkConst ``PySem.Challenge.pw_pf0268_01)) (some "law")
    let some v := (← getConstInfo K.constName!).value? | throwError "no list"
    setEnv env
    g.assign v
open Lean Meta Elab Tactic in
noncomputable def hd.keys : List PySem.Addr := by
  run_tac do
    let g ← getMainGoal
    let env ← getEnv
    let (_, as) ← mkFrag (← progOf (mkConst ``PySem.Challenge.pw_pf0268_01)) (some "law")
    setEnv env
    g.assign as
theorem hd.keysOk : ∀ P, hd.keys = (hd.heap_39 P).map (·.1) := fun _ => by kernel_rfl
abbrev hd.prog : Program := Challenge.rw_pf0268_01.row.prog
open Lean Meta Elab Tactic in
noncomputable def hd.view_39 : Program := by
  run_tac do
    let g ← getMainGoal
    let pE := mkConst ``PySem.Challenge.pw_pf0268_01
    let .ok c ← openProbe (← progOf pE) | throwError "no head"
    let main ← whnfD (← mkAppM ``Program.main #[pE])
    let some cells ← cellsD? (← mkAppM ``Module.body #[main]) | throwError "no body"
    let body ← mkListLit (mkConst ``PySem.Stmt) (c.keep.filterMap fun i => cells[i]?)
    let bS ← Term.exprToSyntax body
    logInfo m!"{c.keep} of {cells.length}; {c.loose.map (·.toString)}; {c.lv.map (·.1.toString)} {c.steps} {c.gens} {c.rows0} {c.rows}"
    let qV ← instantiateMVars (← Term.elabTerm (← `(({ hd.prog with main := { (hd.prog).main with body := $bS } } : Program))) none)
    g.assign qV
end
-- HDR
section
noncomputable abbrev hd.hook : Hook := kHook hd.heap_39 hd.keys hd.keysOk
open Lean Meta Elab Tactic in
theorem left : LeftO Challenge.rw_pf0268_01.row.toRowW.prog hd.view_39 [Str.ofString "SUM_PRIME", Str.ofString "AWAITED"]
    (fun s => xlAt hd.view_39 [(Str.ofString "SUM_PRIME", WData.int 2305843009213693951)] s && recOk (RowW.records Challenge.rw_pf0268_01.row.toRowW) s) (Hook.obs hd.hook) (Hook.val hd.hook) 4742 := by
  run_tac Mine.Sh.mark
  run_tac do
    let g ← getMainGoal
    let env0 ← getEnv
    let t0 ← IO.monoMsNow
    let T ← instantiateMVars (← g.getType)
    let pE := T.consumeMData.getAppArgs[0]!
    leftByPieces g pE (← progOf pE) []
    let pf ← instantiateMVars (mkMVar g)
    let env1 ← getEnv
    let t1 ← IO.monoMsNow
    let mut todo : List (Name × Bool) := (pf.getUsedConstants.toList.map (·, false))
    let mut seen : NameSet := {}
    let mut out : Array ConstantInfo := #[]
    for _ in [0:1000000] do
      let (c, back) :: rest := todo | break
      todo := rest
      let some ci := env1.find? c | continue
      let ci := if "te".isPrefixOf (c.getString!) && (`PySem.W.Fast).isPrefixOf c then (match ci with
        | .thmInfo t => (match t.type.eq? with
          | some (ty, a, _) => .thmInfo { t with value := mkApp2 (mkConst ``Eq.refl t.type.getAppFn.constLevels!) ty a }
          | none => ci)
        | _ => ci) else ci
      if back then
        out := out.push ci
      else
        unless seen.contains c || env0.contains c do
          seen := seen.insert c
          todo := (c, true) :: todo
          for x in ci.type.getUsedConstants do todo := (x, false) :: todo
          if let some v := ci.value? (allowOpaque := true) then for x in v.getUsedConstants do todo := (x, false) :: todo
    setEnv env0
    for ci in out do
      match ci with
      | .defnInfo d => addDecl (.defnDecl d)
      | .thmInfo t => addDecl (.thmDecl t)
      | _ => throwError "another kind"
    let t2 ← IO.monoMsNow
    logInfo m!"{out.size} declarations; {t1 - t0} ms, {t2 - t1} ms"
  run_tac Mine.Sh.fin
end
-- G1
section
open PySem.Sem (wp)
noncomputable def badIds : List String := Builtin.Bytes.decodersThatHold ++ ["bytearray.__contains__", "bytearray.__mod__", "bytearray.__rmod__", "_struct.pack_into.held", "bytearray.find.held"]
noncomputable def bad : Code → Bool
  | .builtin id _ => badIds.contains id
  | _ => false
noncomputable def Good (Γ : Ctx) : Prop := bad Γ.code = false ∧ ∀ x ∈ Γ.below, bad x.1 = false
theorem Good.enter {Γ : Ctx} (g : Good Γ) {c : Code} (hc : bad c = false) (h : Option Value) (p : Pos) : Good (Γ.enter c h p) :=
  ⟨hc, fun x hx => by
    rcases List.mem_cons.mp hx with rfl | hx
    · exact g.1
    · exact g.2 x hx⟩
theorem Good.goto {Γ : Ctx} (g : Good Γ) {c : Code} (hc : bad c = false) : Good (Γ.goto c) := ⟨hc, g.2⟩
noncomputable def wpG {α : Type} (M : Model) (A : Around) (t : Sem α) (Q : α → Shared → Prop) (E : Value → Shared → Prop) (s : Shared) : Prop :=
  ∀ Γ p, Γ.In A → Good Γ → wp M Γ t (fun a _ s' => Q a s') (fun e _ s' => E e s') p s
noncomputable def codeG (M : Model) (A : Around) (c : Code) (R : Result → Shared → Prop) (s : Shared) : Prop :=
  ∀ Γ p, Γ.code = c → Γ.Below A → Good Γ → wpCode M Γ R p s
section
variable {α β : Type} {M : Model} {A : Around} {E : Value → Shared → Prop} {s : Shared} {c : Code} {R R' : Result → Shared → Prop}
theorem wpG_any {t : Sem α} {Q : α → Shared → Prop} (h : wpAny M A t Q E s) : wpG M A t Q E s := fun Γ p hΓ _ => h Γ p hΓ
theorem codeG_any (h : codeAny M A c R s) : codeG M A c R s := fun Γ p hc hΓ _ => h Γ p hc hΓ
theorem codeG_mono (h : codeG M A c R s) (hR : ∀ r s, R r s → R' r s) : codeG M A c R' s := fun Γ p hc hΓ g => wpCode_mono hR (h Γ p hc hΓ g)
theorem wpG_pure {a : α} {Q : α → Shared → Prop} (h : Q a s) : wpG M A (pure a) Q E s := fun _ _ _ _ => h
theorem wpG_mono {t : Sem α} {Q Q' : α → Shared → Prop} {E' : Value → Shared → Prop} (h : wpG M A t Q E s) (hQ : ∀ a s, Q a s → Q' a s) (hE : ∀ e s, E e s → E' e s) : wpG M A t Q' E' s :=
  fun Γ p hΓ g => Sem.wp_mono M Γ t (fun a _ s => hQ a s) (fun e _ s => hE e s) p s (h Γ p hΓ g)
theorem wpG_bind {m : Sem α} {f : α → Sem β} {Q : β → Shared → Prop} (h : wpG M A m (fun a s' => wpG M A (f a) Q E s') E s) : wpG M A (m >>= f) Q E s := fun Γ p hΓ g => by
  rw [Sem.wp_bind']
  exact Sem.wp_mono M Γ m (fun a p' s' h' => h' Γ p' hΓ g) (fun _ _ _ h' => h') p s (h Γ p hΓ g)
theorem wpG_holding {vs : List Value} {m : Sem α} {Q : α → Shared → Prop} (h : wpG M A m Q E s) : wpG M A (holding vs m) Q E s :=
  fun Γ p hΓ g => by rw [Sem.wp_holding]; exact h Γ p hΓ g
theorem wpG_standAt {pos : Pos} {Q : Unit → Shared → Prop} (h : Q () s) : wpG M A (standAt pos) Q E s := fun _ _ _ _ => h
theorem wpG_onRaise {m : Sem α} {k : Value → Sem Unit} {Q : α → Shared → Prop} (h : wpG M A m Q (fun e s' => wpG M A (k e) (fun _ s'' => E e s'') E s') s) : wpG M A (m.onRaise k) Q E s := fun Γ p hΓ g => by
  rw [Sem.wp_onRaise]
  exact Sem.wp_mono M Γ m (fun _ _ _ h' => h') (fun e p' s' h' => h' Γ p' hΓ g) p s (h Γ p hΓ g)
theorem wpG_attempt {m : Sem α} {Q : Except Value α → Shared → Prop} (h : wpG M A m (fun a => Q (.ok a)) (fun e => Q (.error e)) s) : wpG M A m.attempt Q E s :=
  fun Γ p hΓ g => by rw [Sem.wp_attempt]; exact h Γ p hΓ g
theorem wpG_stack {Q : List (Code × Pos) → Shared → Prop} (h : ∀ st : List (Code × Pos), (∀ x ∈ st, bad x.1 = false) → Q st s) : wpG M A stack Q E s := fun Γ p _ g => by
  show Q ((Γ.code, p) :: Γ.below) s
  refine h _ fun x hx => ?_
  rcases List.mem_cons.mp hx with rfl | hx
  · exact g.1
  · exact g.2 x hx
theorem wpG_run {h : Option Value} {Q : Flow → Shared → Prop} (hb : bad c = false) (hc : codeG M (A.mark h) c (fun r s' => match r with | .ok f => Q f s' | .error e => E e s') s) (hnb : h ≠ some byPass := by intro x; cases x) : wpG M A (run c h) Q E s :=
  fun Γ p hΓ g => by rw [Sem.wp_run]; exact hc _ p rfl (hΓ.enter c h p hnb) (g.enter hb h p)
theorem wpG_runValue {Q : Value → Shared → Prop} (hb : bad c = false) (hc : codeG M A c (fun r s' => match r with | .ok (.ret v) => Q v s' | .ok _ => False | .error e => E e s') s) : wpG M A (runValue c) Q E s := fun Γ p hΓ g => by
  rw [Sem.wp_runValue]; exact hc _ p rfl (hΓ.enter c none p (by intro x; cases x)) (g.enter hb none p)
theorem wpG_call {f : Value} {pos : List Value} {kw : List (Str × Value)} {Q : Value → Shared → Prop}
    (hc : codeG M A (.call f ⟨pos, kw⟩) (fun r s' => match r with | .ok (.ret v) => Q v s' | .ok _ => False | .error e => E e s') s) : wpG M A (call f pos kw) Q E s := wpG_runValue rfl hc
theorem codeG_of_tree (h : wpG M (A.under c) (M.den c) (fun fin s' => match fin with | .done f => R (.ok f) s' | .again c' => c'.quiet = true ∧ bad c' = false ∧ codeG M A c' R s') (fun e s' => R (.error e) s') s) : codeG M A c R s := fun Γ p hc hΓ g => by
  rw [wpCode_iff_wp, hc]
  refine Sem.wp_mono M Γ _ (fun fin p' s' h' => ?_) (fun _ _ _ h' => h') p s (h Γ p (hc ▸ hΓ.in) g)
  cases fin with
  | done f => exact h'
  | again c' => exact ⟨h'.1, h'.2.2 (Γ.goto c') p' rfl (hΓ.goto c') (g.goto h'.2.1)⟩
end
section
variable {prog : Program} {w : World} {A : Around} {E : Value → Shared → Prop} {s : Shared} {R : Result → Shared → Prop}
theorem codeG_builtin {id : String} {args : Args} {b : Builtin} (hb : entryFor table id = some b)
    (h : wpG (model prog w) (A.under (.builtin id args)) (b args) (fun fin s' => match fin with | .done f => R (.ok f) s' | .again c' => c'.quiet = true ∧ bad c' = false ∧ codeG (model prog w) A c' R s') (fun e s' => R (.error e) s') s) :
    codeG (model prog w) A (.builtin id args) R s := by
  run_tac Mine.Sh.mark
  refine codeG_of_tree ?_
  show wpG _ _ (match entryFor table id with | some b => b args | none => unsupported ((withoutEnding? id "#data").getD id)) _ _ s
  rw [hb]; exact h
  run_tac Mine.Sh.fin
theorem codeG_func {body env} (h : wpG (model prog w) (A.deeper env) (execs body env) (fun f s' => R (.ok (.ret (match f with | .ret v => v | _ => .none))) s')
      (fun e s' => wpG (model prog w) (A.deeper env) (leaving env e) (fun _ s'' => R (.error e) s'') (fun e' s'' => R (.error e') s'') s') s) :
    codeG (model prog w) A (.func body env) R s := by
  run_tac Mine.Sh.mark
  refine codeG_of_tree ?_
  show wpG _ (A.deeper env) (do point; match ← (execs body env).onRaise (leaving env) with | .ret v => ret v | _ => ret .none) _ _ s
  refine wpG_bind (wpG_any (wpAny_point (wpG_bind (wpG_onRaise (wpG_mono h (fun f s' h' => ?_) fun _ _ h' => h')))))
  cases f <;> exact wpG_pure h'
  run_tac Mine.Sh.fin
theorem codeG_call_function {a : Addr} {args : Args} {o : Obj} {fd : FuncData} {body : List Stmt} (hroom : A.depth < recursionLimit)
    (ho : s.heap.get? a = some o) (hd' : o.data = .func fd) (hco : fd.scope.isCoroutine = false) (hgen : fd.scope.isGenerator = false) (hbody : fd.body = .stmts body) (hcd : s.heap.CodeRec fd.code fd.qualname)
    (h : wpAny (model prog w) A.in1 (bindArgs fd args) (fun binds s₁ =>
      wpAny (model prog w) A.in1 (newFunctionEnv fd.scope fd.globals fd.closure binds (fd.qualname ++ ".<locals>.") (some a) fd.code none fd.builtins)
        (fun env s₂ => s₂.heap.NoLimit ∧ codeG (model prog w) A (.func body env) R s₂) (fun e s' => R (.error e) s') s₁) (fun e s' => R (.error e) s') s) :
    codeG (model prog w) A (.call (.ref a) args) R s := by
  run_tac Mine.Sh.mark
  refine codeG_of_tree (wpG_any ?_)
  show wpAny _ A.in1 (callAny (.ref a) args) _ _ s
  simp only [callAny]
  refine wpAny_bind (wpAny_load ho ?_)
  obtain ⟨c, oc, vs, tq, hc, hoc, hdc, hq⟩ := hcd
  simp only [hd', callFunction, hco, hgen, hbody, hc]
  rw [hc] at h
  refine wpAny_bind (m := field (.ref c) 1) (wpAny_field hoc hdc hq (wpAny_bind (wpAny_pure ?_)))
  exact wpAny_bind (wpAny_mono h (fun binds s₁ h₁ => wpAny_bind (wpAny_mono h₁ (fun env s₂ h₂ => wpAny_bind (wpAny_enterFrame h₂.1 hroom
    (wpAny_pure (And.intro rfl (And.intro rfl h₂.2))))) fun _ _ h' => h')) fun _ _ h' => h')
  run_tac Mine.Sh.fin
theorem codeG_def {A₀ : Around} {base h₀ : Heap} {outer : List Env} {L : Addr} {m mg mb : Str → Option Value} {env : Env} {news : List (Addr × Obj)} {K : Frag} {p : Program} {loose : List Str} {mean : ExcName → Option Value}
    {name qual : Str} {params : Arguments} {body : List Stmt} {scope : Scope} {dV kV doc pm cdv ct oc : Value} {an od : Option Addr} {osl : Array (Option Value)} {f : Addr} {args : Args} {binds : List (Str × Value)}
    (B : Below A₀ base outer h₀) (F : Fr h₀ L s.heap m) (X₀ : K.In h₀) (N : News h₀ L s.heap news) (T : Top p loose mean mg mb h₀) (hA : A.frames = some (env :: outer)) (hf : env.frame = some L) (hke : env.scope.kind = .function)
    (ho : K.lookup f = some ⟨oc, od, .func (fnOf name qual params body scope dV kV doc pm an cdv ct), osl⟩) (hcd : codeIn K cdv qual = true) (hroom : A.depth < recursionLimit)
    (hbind : BindsTo s (fnOf name qual params body scope dV kV doc pm an cdv ct) args binds) (hloc : ∀ y ∈ binds, scope.names.lookup y.1 = some .local)
    (h : ∀ g L' h₁, Fr h₀ L g m → Fr g L' h₁ (fun y => binds.reverse.lookup y) → News g L' h₁ news → Below A base (env :: outer) g → K.In g → Top p loose mean mg mb g →
      wpG (model prog w) (A.deeper (envOf qual scope L' f cdv)) (execs body (envOf qual scope L' f cdv))
        (fun fl s' => LeaveK h₀ L m g R (match fl with | .ret v => v | _ => .none) s')
        (fun e s' => wpG (model prog w) (A.deeper (envOf qual scope L' f cdv)) (leaving (envOf qual scope L' f cdv) e) (fun _ s'' => R (.error e) s'') (fun e' s'' => R (.error e') s'') s')
        { s with heap := h₁, toks := s.toks + binds.length })
    (hco : scope.isCoroutine = false) (hgen : scope.isGenerator = false) (hk : scope.kind = .function)
    (hcell : ∀ x ∈ scope.names, x.2 ≠ .cell) : codeG (model prog w) A (.call (.ref f) args) R s := by
  run_tac Mine.Sh.mark
  obtain ⟨FG, BG, st, lv⟩ := groundX (R := R) B F N hA hf hke
  have X := X₀.keeps F.keep
  refine codeG_call_function (fd := fnOf name qual params body scope dV kV doc pm an cdv ct) (body := body) hroom (X _ _ ho) rfl hco hgen rfl (codeRec_of X hcd) (hbind _ _ _ _ ?_)
  refine wpAny_newFunctionEnv hcell hloc (fun h₁ hns₁ hsb₁ => ⟨(T.nolimit.keeps F.keep).fresh _ hsb₁, codeG_func ?_⟩) hk
  have hk₁ : ∀ b o, s.heap.get? b = some o → h₁.get? b = some o := fun b o e => hsb₁.extBut b o (Nat.ne_of_lt (Heap.lt_size e)) (Heap.get?_push_of_some _ e)
  exact wpG_mono (h _ s.heap.objs.size h₁ FG ⟨hns₁, fun b o e => hk₁ b o (of_hideAll _ e), Nat.le_of_eq (hideAll_size _ _)⟩
    (fun p hp => ⟨hk₁ _ _ (N p hp).1, Nat.ne_of_lt (Heap.lt_size (N p hp).1), hideAll_none _ (List.mem_map_of_mem hp)⟩) BG (X₀.keeps st) (T.keeps st)) (fun fl s' hl => lv _ _ hl) fun _ _ y => y
  run_tac Mine.Sh.fin
end
end
-- BA
section
open PySem.Sem (wp)
theorem ba_mro : mroOf (.type "bytearray") = pure [.type "bytearray", .type "object"] := by rw [mroOf_type]; kernel_rfl
theorem ba_lookup_new : typeLookup (.type "bytearray") "__new__" = pure (some (.builtin "bytearray.__new__")) := by rw [typeLookup_type, builtinLookup_eq_fast]; kernel_rfl
theorem ba_slot_init : Slot "bytearray" "__init__" "bytearray.__init__" :=
  .of (owner := "bytearray") (n := "__init__") (by rw [typeLookup_type, builtinLookup_eq_fast]; kernel_rfl) (by decide +kernel) (by decide +kernel) (by decide +kernel)
    (by first | exact .inl (by decide +kernel) | exact .inr (by decide +kernel)) (by rw [isSubtype_type]; kernel_rfl)
theorem ba_called : TypeCalled "bytearray" "bytearray.__new__" "bytearray.__init__" :=
  ⟨by decide +kernel, by decide +kernel, ⟨_, _, ba_mro⟩, madeBy_type ba_mro ba_lookup_new (by decide +kernel), by decide +kernel, by rw [isSubtype_type]; kernel_rfl, ba_slot_init⟩
theorem ba_typeCall (a : Value) : checkTypeCall "bytearray" ⟨[a], []⟩ = pure () := by kernel_rfl
theorem ba_newCall (a : Value) : checkBuiltinCall "bytearray.__new__" ⟨[.type "bytearray", a], []⟩ = pure () := by kernel_rfl
theorem ba_plain_new : plainId "bytearray.__new__" = true := by decide +kernel
theorem ba_plain_init : plainId "bytearray.__init__" = true := by decide +kernel
theorem ba_entry_new : entryFor table "bytearray.__new__" = some Builtin.«list.__new__» := entryFor_alias (id' := "list.__new__") (by kernel_rfl) rfl (by decide +kernel) (by kernel_rfl)
theorem ba_entry_init : entryFor table "bytearray.__init__" = some Builtin.«bytearray.__init__» := by first | exact entryFor_of_fast (by kernel_rfl) | exact entryFor_of_tree (by kernel_rfl)
theorem ba_init_bad : bad (.builtin "bytearray.__init__" a) = false := by show badIds.contains "bytearray.__init__" = false; decide +kernel
theorem ba_type_bad : bad (.builtin "type.__call__" a) = false := by show badIds.contains "type.__call__" = false; decide +kernel
set_option maxRecDepth 1000000 in
set_option maxHeartbeats 4000000 in
theorem ba_owner_new : ("bytearray.__new__".splitOn ".__new__").headD "" = "bytearray" := by simp +decide [String.splitOn, String.splitOnAux]
theorem ba_sub_self : isSubtype (.type "bytearray") (.type "bytearray") = pure true := by rw [isSubtype_type]; kernel_rfl
section
variable {prog : Program} {w : World} {A : Around} {E : Value → Shared → Prop} {s : Shared}
theorem ba_new (a : Value) {Q₁ : Value → Shared → Prop}
    (h : Q₁ (.ref s.heap.objs.size) { s with heap := s.heap.push { cls := .type "bytearray", data := .bytearray #[] } }) :
    codeAny (model prog w) A (.call (.builtin "bytearray.__new__") ⟨[.type "bytearray", a], []⟩) (wants Q₁ E) s := by
  run_tac Mine.Sh.mark
  refine codeAny_of_tree ?_
  show wpAny _ A.in1 (do checkBuiltinCall "bytearray.__new__" ⟨[.type "bytearray", a], []⟩; again (.builtin "bytearray.__new__" ⟨[.type "bytearray", a], []⟩)) _ _ s
  refine wpAny_bind (wpAny_of_eq (ba_newCall a) (wpAny_pure ⟨plainId_quiet ba_plain_new _, codeAny_builtin_stack ba_entry_new rfl fun p st => ?_⟩))
  rw [Around.under_plainId ba_plain_new _]
  have hsub := ba_sub_self
  have hown := ba_owner_new
  obtain ⟨hp, g, d, tk, os⟩ := s
  simp only [hown]
  wp_walk
  exact h
  run_tac Mine.Sh.fin
theorem ba_release : typeLookup (.type "bytearray") "__release_buffer__" = pure (some (.builtin "bytearray.__release_buffer__")) := by rw [typeLookup_type, builtinLookup_eq_fast]; kernel_rfl
theorem ba_bind (v : Value) : Builtin.Bytes.bindOptional "bytearray.__init__" "bytearray" ["source", "encoding", "errors"] [v] [] = pure [some v, none, none] := by kernel_rfl
theorem int_index : typeLookup (.type "int") "__index__" = pure (some (.builtin "int.__index__")) := by rw [typeLookup_type, builtinLookup_eq_fast]; kernel_rfl
theorem gif_false {α : Type} {M : Model} {c : Bool} {a b : Sem α} {Q : α → Shared → Prop} (hc : c = false) (h : wpG M A b Q E s) : wpG M A (if c = true then a else b) Q E s := by
  subst hc
  exact h
theorem gif_true {α : Type} {M : Model} {c : Bool} {a b : Sem α} {Q : α → Shared → Prop} (hc : c = true) (h : wpG M A a Q E s) : wpG M A (if c = true then a else b) Q E s := by
  subst hc
  exact h
theorem ba_own {S : Addr} {M : Model} {Q : Bool → Shared → Prop} (hT : s.TypeIs (.ref S) "bytearray") (h : Q false s) : wpAny M A (Builtin.Bytes.ownRelease (.ref S)) Q E s := by
  run_tac Mine.Sh.mark
  unfold Builtin.Bytes.ownRelease Builtin.Bytes.slotIsOwn
  refine wpAny_bind (wpAny_bind (wpAny_specialOf hT ba_release ?_))
  dsimp only
  refine bm_if_false (by decide +kernel) ?_
  refine wpAny_isInstance (T := "bytearray") (b := true) hT (by
    have e : ("bytearray.__release_buffer__".dropRight ("__release_buffer__".length + 1)) = "bytearray" := by decide +kernel
    rw [e]; exact ba_sub_self) ?_
  exact wpAny_pure h
  run_tac Mine.Sh.fin
theorem ba_not_exported {M : Model} {S : Addr} {Q : Bool → Shared → Prop} (h : Q false s) : wpG M A (Builtin.Bytes.exported (.ref S)) Q E s := by
  run_tac Mine.Sh.mark
  unfold Builtin.Bytes.exported
  refine wpG_bind (wpG_stack fun st hst => wpG_pure ?_)
  have key : ∀ b, b = false → Q b s := fun b e => e ▸ h
  refine key _ ?_
  rw [List.any_eq_false]
  intro x hx
  have hb := hst x hx
  split
  · exact absurd hb (by show ¬ badIds.contains "bytearray.__contains__" = false; decide +kernel)
  · exact absurd hb (by show ¬ badIds.contains "bytearray.__mod__" = false; decide +kernel)
  · exact absurd hb (by show ¬ badIds.contains "bytearray.__rmod__" = false; decide +kernel)
  · exact absurd hb (by show ¬ badIds.contains "_struct.pack_into.held" = false; decide +kernel)
  · exact absurd hb (by show ¬ badIds.contains "bytearray.find.held" = false; decide +kernel)
  · intro hh
    have h2 := (Bool.and_eq_true_iff.mp hh).2
    have h3 : badIds.contains _ = false := hb
    unfold badIds at h3
    rw [List.contains_iff_mem] at h2
    have h4 := List.contains_iff_mem.mpr (List.mem_append_left ["bytearray.__contains__", "bytearray.__mod__", "bytearray.__rmod__", "_struct.pack_into.held", "bytearray.find.held"] h2)
    rw [h3] at h4
    cases h4
  · exact Bool.false_ne_true
  run_tac Mine.Sh.fin
theorem ba_write {M : Model} {S : Addr} {b b' : Array UInt8} {f : Array UInt8 → Array UInt8} {Q : Unit → Shared → Prop} (hS : s.heap.get? S = some { cls := .type "bytearray", data := .bytearray b }) (e : f b = b') (hz : b'.size ≤ 1000)
    (h : ∀ h', Heap.SameBut S s.heap h' → h'.get? S = some { cls := .type "bytearray", data := .bytearray b' } → Q () { s with heap := h' }) : wpAny M A (Builtin.Bytes.write (.ref S) f) Q E s := by
  run_tac Mine.Sh.mark
  show wpAny _ _ (updateBytearray S f) _ _ _
  unfold updateBytearray
  refine wpAny_bind (wpAny_load hS ?_)
  show wpAny _ _ (update S (Obj.mapBytearray f) >>= fun _ => lookBehind S) _ _ _
  refine wpAny_bind (wpAny_update hS ?_)
  have hS₂ : (s.heap.update S (Obj.mapBytearray f)).get? S = some { cls := .type "bytearray", data := .bytearray b' } := by
    rw [← e]
    exact Heap.get?_update_self (Obj.mapBytearray f) hS rfl
  refine wpAny_lookBehind hS₂ ?_ (h _ (Heap.SameBut.update ..) hS₂)
  show (if b'.size > sizeLine then some "bytearray:memory" else none) = none
  rw [if_neg]
  rw [sizeLine_eq]
  omega
  run_tac Mine.Sh.fin
theorem ba_init {S : Addr} {n : Int} {t : Tok} {P : PySem.Fin → Shared → Prop} (h0 : 0 < n) (h8 : n ≤ 1000) (hS : s.heap.get? S = some { cls := .type "bytearray", data := .bytearray #[] })
    (hP : ∀ h', Heap.SameBut S s.heap h' → h'.get? S = some { cls := .type "bytearray", data := .bytearray (Array.replicate n.toNat 0) } → P (.done (.ret .none)) { s with heap := h' }) :
    wpG (model prog w) A (Builtin.«bytearray.__init__» ⟨[.ref S, .int n t], []⟩) P E s := by
  run_tac Mine.Sh.mark
  have hT : s.TypeIs (.ref S) "bytearray" := ⟨_, hS, rfl⟩
  unfold Builtin.«bytearray.__init__»
  refine wpG_bind (wpG_any (ba_own hT ?_))
  refine gif_false rfl ?_
  refine wpG_bind (wpG_any (wpAny_of_eq (ba_bind _) ?_))
  refine wpG_bind (wpG_any (wpAny_of_eq (a := ()) rfl ?_))
  refine wpG_bind (wpG_any (wpAny_of_eq (a := ()) rfl ?_))
  refine wpG_bind ?_
  show wpG _ _ (Builtin.Bytes.exported (.ref S) >>= _) _ _ _
  refine wpG_bind (ba_not_exported ?_)
  show wpG _ _ (Builtin.Bytes.exportsOf (.ref S) >>= _) _ _ _
  refine wpG_bind (wpG_any ?_)
  unfold Builtin.Bytes.exportsOf
  refine wpAny_bind (wpAny_load hS (wpAny_pure ?_))
  refine wpG_pure ?_
  refine gif_false (by decide) ?_
  refine wpG_bind (wpG_any (ba_write hS (b' := #[]) rfl (by decide) fun h₁ hs₁ hS₁ => ?_))
  refine wpG_any ?_
  have hT₁ : ({ s with heap := h₁ } : Shared).TypeIs (.ref S) "bytearray" := ⟨_, hS₁, rfl⟩
  refine wpAny_bind (wpAny_of_eq (a := none) rfl ?_)
  refine bm_if_false rfl ?_
  refine wpAny_bind (wpAny_of_eq (a := ()) rfl ?_)
  refine wpAny_bind (wpAny_specialOf (T := "int") (v := .int n t) rfl int_index ?_)
  refine bm_if_true rfl ?_
  refine wpAny_bind (wpAny_attempt (wpAny_of_eq (rfl : asIndex (.int n t) = pure n) ?_))
  dsimp only
  refine bm_if_false (by simp only [Builtin.Bytes.fitsIndex, Bool.not_eq_false', Bool.and_eq_true, decide_eq_true_eq]; omega) ?_
  refine wpAny_ite ?_
  rw [if_neg (by omega)]
  refine bm_if_false (by rw [beq_eq_false_iff_ne]; omega) ?_
  refine bm_if_false (by simp only [Builtin.Bytes.tooLong, sizeLine_eq, decide_eq_false_iff_not]; omega) ?_
  refine wpAny_bind (wpAny_rule ?_)
  refine wpAny_ite ?_
  rw [if_pos (by omega)]
  refine wpAny_bind (ba_write hS₁ (b' := Array.replicate n.toNat 0) rfl (by rw [Array.size_replicate]; omega) fun h₂ hs₂ hS₂ => ?_)
  exact wpAny_pure (hP h₂ (hs₁.trans hs₂) hS₂)
  run_tac Mine.Sh.fin
theorem ba_call {n : Int} {t : Tok} {Q : Value → Shared → Prop} (h0 : 0 < n) (h8 : n ≤ 1000)
    (hQ : ∀ h', (∀ b o, s.heap.get? b = some o → h'.get? b = some o) → h'.get? s.heap.objs.size = some { cls := .type "bytearray", data := .bytearray (Array.replicate n.toNat 0) } → Q (.ref s.heap.objs.size) { s with heap := h' }) :
    wpG (model prog w) A (call (.type "bytearray") [.int n t]) Q E s := by
  run_tac Mine.Sh.mark
  obtain ⟨c, tl, hmro⟩ := ba_called.mro
  have hmade := ba_called.made
  have hsub := ba_called.sub
  have h1 := ba_called.notType
  have h2 := ba_called.canCreate
  refine wpG_call (codeG_of_tree ?_)
  show wpG _ _ (callAny (.type "bytearray") _) _ _ _
  refine wpG_pure ⟨Code.quiet_builtin _ (by decide +kernel), ba_type_bad, codeG_builtin F.entry_type_call ?_⟩
  rw [Around.under_plain (weight_type_call_type "bytearray" [.int n t] []) rfl]
  unfold Builtin.«type.__call__»
  refine gif_false h1 ?_
  refine gif_false h2 ?_
  refine wpG_bind (wpG_any (wpAny_of_eq (ba_typeCall _) ?_))
  refine wpG_bind (wpG_any (wpAny_of_eq hmro ?_))
  refine gif_false rfl ?_
  refine wpG_bind (wpG_any (wpAny_of_eq hmade ?_))
  refine wpG_bind (wpG_pure ?_)
  have new := ba_new (prog := prog) (w := w) (A := A.in1) (E := fun _ _ => False) (s := s) (.int n t) (Q₁ := fun v s₁ => v = .ref s.heap.objs.size ∧ s₁ = { s with heap := s.heap.push { cls := .type "bytearray", data := .bytearray #[] } }) ⟨rfl, rfl⟩
  refine wpG_bind (wpG_holding (wpG_any (wpAny_call (codeAny_mono new fun r s₁ hr => ?_))))
  match r, hr with
  | .error _, hr => exact False.elim hr
  | .ok .next, hr => exact False.elim hr
  | .ok .brk, hr => exact False.elim hr
  | .ok .cont, hr => exact False.elim hr
  | .ok (.ret v), hr =>
    obtain ⟨rfl, rfl⟩ := hr
    have hS : (s.heap.push { cls := .type "bytearray", data := .bytearray #[] }).get? s.heap.objs.size = some { cls := .type "bytearray", data := .bytearray #[] } := Heap.get?_push_size _ rfl
    refine wpG_bind (wpG_any (wpAny_isInstance (T := "bytearray") (b := true) ⟨_, hS, rfl⟩ hsub ?_))
    refine gif_false rfl ?_
    have hTS : ({ s with heap := s.heap.push { cls := .type "bytearray", data := .bytearray #[] } } : Shared).TypeIs (.ref s.heap.objs.size) "bytearray" := ⟨_, hS, rfl⟩
    refine wpG_bind (wpG_holding ?_)
    unfold callSpecial?
    refine wpG_bind (wpG_any (wpAny_specialOf hTS ba_slot_init.lookup ?_))
    dsimp only
    refine wpG_holding (wpG_bind (wpG_any (wpAny_of_eq (ba_slot_init.bind _) ?_)))
    dsimp only
    refine wpG_bind (wpG_call (codeG_of_tree ?_))
    show wpG _ _ (do checkBuiltinCall "bytearray.__init__" ⟨[.ref s.heap.objs.size, .int n t], []⟩; again (.builtin "bytearray.__init__" ⟨[.ref s.heap.objs.size, .int n t], []⟩)) _ _ _
    refine wpG_bind (wpG_any (ba_slot_init.check _ _ _ _ _ _ _ _ hTS (by unfold argsOk; kernel_rfl) (wpG_pure ⟨plainId_quiet ba_plain_init _, ba_init_bad, codeG_builtin ba_entry_init ?_⟩)))
    refine ba_init h0 h8 hS fun h' hs' hS' => ?_
    refine wpG_pure (wpG_pure ?_)
    exact hQ h' (fun b o hb => (hs'.2 b (Nat.ne_of_lt (Heap.lt_size hb))).trans (Heap.get?_push_of_some _ hb)) hS'
  run_tac Mine.Sh.fin
end
end
-- BB
section
open PySem.Sem (wp)
theorem ba_slot_set : Slot "bytearray" "__setitem__" "bytearray.__setitem__" :=
  .of (owner := "bytearray") (n := "__setitem__") (by rw [typeLookup_type, builtinLookup_eq_fast]; kernel_rfl) (by decide +kernel) (by decide +kernel) (by decide +kernel)
    (by first | exact .inl (by decide +kernel) | exact .inr (by decide +kernel)) (by rw [isSubtype_type]; kernel_rfl)
theorem ba_entry_set : entryFor table "bytearray.__setitem__" = some Builtin.«bytearray.__setitem__» := by first | exact entryFor_of_fast (by kernel_rfl) | exact entryFor_of_tree (by kernel_rfl)
theorem ba_args_set (a b c : Value) : argsOk "bytearray.__setitem__" ⟨[a, b, c], []⟩ := by unfold argsOk; kernel_rfl
theorem ba_no_bytes : typeLookup (.type "bytearray") "__bytes__" = pure none := by rw [typeLookup_type, builtinLookup_eq_fast]; kernel_rfl
theorem ba_no_index : typeLookup (.type "bytearray") "__index__" = pure none := by rw [typeLookup_type, builtinLookup_eq_fast]; kernel_rfl
theorem ba_buffer : typeLookup (.type "bytearray") "__buffer__" = pure (some (.builtin "bytearray.__buffer__")) := by rw [typeLookup_type, builtinLookup_eq_fast]; kernel_rfl
section
variable {prog : Program} {w : World} {A : Around} {E : Value → Shared → Prop} {s : Shared}
theorem ba_payload {M : Model} {S : Addr} {b : Array UInt8} {Q : Array UInt8 → Shared → Prop} (hS : s.heap.get? S = some { cls := .type "bytearray", data := .bytearray b }) (h : Q b s) : wpAny M A (Builtin.Bytes.payload (.ref S)) Q E s := by
  unfold Builtin.Bytes.payload Builtin.Bytes.payload?
  refine wpAny_bind (wpAny_bind (wpAny_load hS ?_))
  exact wpAny_pure (wpAny_pure h)
theorem ba_setItem {S : Addr} {b : Array UInt8} {i v : Int} {ti tv : Tok} {Q : Unit → Shared → Prop} (hS : s.heap.get? S = some { cls := .type "bytearray", data := .bytearray b }) (hz : b.size ≤ 1000) (h0 : 0 ≤ i) (h1 : i < b.size) (hv0 : 0 ≤ v) (hv1 : v < 256)
    (hQ : ∀ h', Heap.SameBut S s.heap h' → h'.get? S = some { cls := .type "bytearray", data := .bytearray (b.setIfInBounds i.toNat v.toNat.toUInt8) } → Q () { s with heap := h' }) :
    wpAny (model prog w) A (setItem (.ref S) (.int i ti) (.int v tv)) Q E s := by
  run_tac Mine.Sh.mark
  have hT : s.TypeIs (.ref S) "bytearray" := ⟨_, hS, rfl⟩
  unfold setItem
  refine wpAny_holding ?_
  refine wpAny_bind (wpAny_sequenceKey hT (by decide) ?_)
  refine wpAny_bind (wpAny_callSpecial?_slot (name := Str.ofString "__setitem__") hT ba_slot_set
    (wpAny_call_entry ba_slot_set hT ba_entry_set ?_ (ba_args_set _ _ _)))
  unfold Builtin.«bytearray.__setitem__»
  refine bm_if_false rfl ?_
  refine wpAny_bind ?_
  unfold Builtin.Bytes.subscript?
  refine wpAny_bind (wpAny_specialOf (T := "int") (v := .int i ti) rfl int_index ?_)
  refine bm_if_false rfl ?_
  refine wpAny_bind (wpAny_of_eq (rfl : asIndex (.int i ti) = pure i) ?_)
  refine bm_if_false (by simp only [Builtin.Bytes.fitsIndex, Bool.not_eq_false', Bool.and_eq_true, decide_eq_true_eq]; omega) ?_
  refine wpAny_pure ?_
  dsimp only
  refine wpAny_bind ?_
  unfold Builtin.Bytes.byteValue
  refine wpAny_bind (wpAny_of_eq (rfl : asIndex (.int v tv) = pure v) ?_)
  refine bm_if_false (by simp only [Bool.or_eq_false_iff, decide_eq_false_iff_not]; omega) ?_
  refine wpAny_pure ?_
  refine wpAny_bind (ba_payload hS ?_)
  have hk : seqIndex? i b.size = some i.toNat := by
    have h2 : ¬ i < 0 := by omega
    have h3 : i.toNat < b.size := by omega
    simp only [seqIndex?]
    split <;> simp_all <;> omega
  rw [hk]
  dsimp only
  refine wpAny_bind (ba_write hS (b' := b.setIfInBounds i.toNat v.toNat.toUInt8) rfl (by simp; exact hz) fun h' hs' hS' => ?_)
  exact wpAny_pure ⟨_, rfl, wpAny_pure (hQ h' hs' hS')⟩
  run_tac Mine.Sh.fin
theorem ba_bytes {S : Addr} {b : Array UInt8} {Q : Value → Shared → Prop} (hS : s.heap.get? S = some { cls := .type "bytearray", data := .bytearray b }) (hz : b.size ≤ 1000)
    (hQ : ∀ t k, Q (.bytes b t) { s with toks := k }) : wpAny (model prog w) A (call (.type "bytes") [.ref S]) Q E s := by
  run_tac Mine.Sh.mark
  have hT : s.TypeIs (.ref S) "bytearray" := ⟨_, hS, rfl⟩
  refine callType_codes (Q₁ := fun obj s₁ => s₁.TypeIs obj "bytes" ∧ Q obj s₁) F.bm_called (F.bm_typeCall _) F.entry_object_init ?_ fun obj s₁ h₁ => ?_
  · refine codeAny_of_tree ?_
    show wpAny _ A.in1.in1 (do checkBuiltinCall "bytes.__new__" ⟨[.type "bytes", .ref S], []⟩; again (.builtin "bytes.__new__" ⟨[.type "bytes", .ref S], []⟩)) _ _ s
    refine wpAny_bind (wpAny_of_eq (F.bm_newCall _) (wpAny_pure ⟨plainId_quiet F.bm_plain _, codeAny_builtin F.bm_entry ?_⟩))
    rw [Around.under_plainId F.bm_plain _]
    unfold Builtin.«bytes.__new__»
    refine wpAny_bind (wpAny_of_eq (a := true) rfl ?_)
    refine bm_if_false rfl ?_
    refine wpAny_bind (wpAny_of_eq F.bm_sub ?_)
    refine bm_if_false rfl ?_
    refine wpAny_bind (wpAny_of_eq (F.bm_bind _) ?_)
    refine wpAny_bind (wpAny_of_eq (a := ()) rfl ?_)
    refine wpAny_bind (wpAny_of_eq (a := ()) rfl ?_)
    refine bm_if_false rfl ?_
    refine wpAny_bind (wpAny_specialOf hT ba_no_bytes ?_)
    refine wpAny_bind (wpAny_bind ?_)
    show wpAny _ _ (load S >>= _) _ _ _
    refine wpAny_bind (wpAny_load hS ?_)
    refine wpAny_pure (wpAny_pure ?_)
    refine bm_if_false rfl ?_
    refine wpAny_bind (wpAny_specialOf hT ba_no_index ?_)
    refine bm_if_true rfl ?_
    first
      | show wpAny _ _ (Builtin.Bytes.buffer? "bytes.__new__" (.ref S) true >>= _) _ _ _
      | (refine wpAny_bind ?_; show wpAny _ _ (Builtin.Bytes.buffer? "bytes.__new__" (.ref S) true >>= _) _ _ _)
    refine wpAny_bind ?_
    unfold Builtin.Bytes.buffer?
    refine wpAny_bind (wpAny_specialOf hT ba_buffer ?_)
    dsimp only
    refine wpAny_bind ?_
    unfold Builtin.Bytes.slotIsOwn
    refine wpAny_bind (wpAny_specialOf hT ba_buffer ?_)
    dsimp only
    refine bm_if_false (by decide +kernel) ?_
    refine wpAny_isInstance (T := "bytearray") (b := true) hT (by
      have e : ("bytearray.__buffer__".dropRight ("__buffer__".length + 1)) = "bytearray" := by decide +kernel
      rw [e]; exact ba_sub_self) ?_
    refine bm_if_false rfl ?_
    refine wpAny_bind (wpAny_specialOf hT ba_buffer ?_)
    refine wpAny_bind (ba_own hT ?_)
    refine bm_if_false rfl ?_
    refine wpAny_bind (ba_payload hS ?_)
    refine wpAny_pure ?_
    refine wpAny_bind (wpAny_rule ?_)
    refine wpAny_bind (wpAny_mkBytes ?_ (by rw [sizeLine_eq]; omega))
    show wpAny _ _ (if (Value.type "bytes" == Value.type "bytes") = true then _ else _) _ _ _
    refine bm_if_true (by decide) ?_
    first
      | exact wpAny_pure ⟨PySem.W.typeIs_bytes _ _ _, hQ _ _⟩
      | exact wpAny_bind (wpAny_pure (wpAny_pure ⟨PySem.W.typeIs_bytes _ _ _, hQ _ _⟩))
  · exact ⟨h₁.1, F.args_object_init_2 obj _, object_init_meets F.bm_called.init.lookup F.bm_called.made (by decide) prog w A.in1 _ s₁ ⟨h₁.1, rfl, h₁.2⟩⟩
  run_tac Mine.Sh.fin
end
end
-- G2
section
open PySem.Sem (wp)
section
variable {M : Model} {A : Around} {E : Value → Shared → Prop} {s : Shared} {env : Env}
theorem wpG_ofEq {α : Type} {t t' : Sem α} {Q : α → Shared → Prop} (e : t = t') (h : wpG M A t' Q E s) : wpG M A t Q E s := e ▸ h
theorem wpG_keep {α : Type} {vs : List Value} {m : Sem α} {Q : α → Shared → Prop} (h : wpG M A m Q E s) : wpG M A (m.keep vs) Q E s :=
  fun Γ p hΓ g => by rw [Sem.wp_keep]; exact h Γ p hΓ g
theorem wpG_operate {vs : List Value} {m : Sem Value} {Q : Value → Shared → Prop} (h : wpG M A m Q E s) : wpG M A (operate vs m) Q E s :=
  fun Γ p hΓ g => by rw [Sem.wp_operate]; exact h Γ p hΓ g
theorem wpG_seq {α β : Type} {m : Sem α} {f : α → Sem β} {Q : β → Shared → Prop} {R : α → Shared → Prop} (h : wpG M A m R E s) (k : ∀ a s', R a s' → wpG M A (f a) Q E s') : wpG M A (m >>= f) Q E s :=
  wpG_bind (wpG_mono h k fun _ _ x => x)
theorem wpG_execs_nil {Q : Flow → Shared → Prop} (h : Q .next s) : wpG M A (execs [] env) Q E s := fun _ _ _ _ => h
theorem wpG_execs_cons {st rest} {Q : Flow → Shared → Prop}
    (h : wpG M A (exec st env) (fun f s' => match f with | .next => wpG M A (execs rest env) Q E s' | f => Q f s') E s) : wpG M A (execs (st :: rest) env) Q E s := by
  rw [execs_cons]
  refine wpG_seq h fun f s' h' => ?_
  cases f <;> first | exact h' | exact wpG_pure h'
theorem wpG_Return_some {e pos} {Q : Flow → Shared → Prop} (h : wpG M A (eval e env) (fun v => Q (.ret v)) E s) : wpG M A (exec (.Return (some e) pos) env) Q E s := by
  rw [exec_Return_some]
  exact wpG_bind (wpG_standAt (wpG_seq h fun _ _ h' => wpG_pure h'))
theorem wpG_Assign_Name {x pos' value pos} {Q : Flow → Shared → Prop}
    (h : wpG M A (eval value env) (fun v s₁ => wpAny M A (storeName env x v) (fun _ => Q .next) E s₁) E s)
    (hs : swapsWith value (some (.Name x pos')) pos.line env = pure false := by rfl) : wpG M A (exec (.Assign [.Name x pos'] value pos) env) Q E s := by
  run_tac Mine.Sh.mark
  rw [exec_Assign_Name env x pos' value pos hs]
  exact wpG_bind (wpG_standAt (wpG_seq h fun v s₁ h₁ => wpG_bind (wpG_standAt (wpG_seq (wpG_any (wpAny_bindName h₁)) fun _ _ h' => wpG_pure h'))))
  run_tac Mine.Sh.fin
theorem wpG_If {test body orelse pos} {Q : Flow → Shared → Prop}
    (h : wpG M A (isTrue test env (eval test env)) (fun b s₂ => if b then wpG M A (execs body env) Q E s₂ else wpG M A (execs orelse env) Q E s₂) E s) :
    wpG M A (exec (.If test body orelse pos) env) Q E s := by
  rw [exec_If]
  refine wpG_bind (wpG_standAt (wpG_seq h fun b s₂ h₂ => ?_))
  cases b <;> exact h₂
theorem wpG_BinOp {l op r pos} {Q : Value → Shared → Prop}
    (h : wpG M A (eval l env) (fun a s₁ => wpG M A (eval r env) (fun b s₂ => wpAny M A (binaryOp op a b) Q E s₂) E s₁) E s) :
    wpG M A (eval (.BinOp l op r pos) env) Q E s := by
  rw [eval_BinOp]
  exact wpG_seq h fun a s₁ h₁ => wpG_seq (wpG_holding h₁) fun b s₂ h₂ => wpG_bind (wpG_standAt (wpG_operate (wpG_any h₂)))
theorem wpG_isTrue_Compare1 {l op r pos whole} {Q : Bool → Shared → Prop}
    (h : wpG M A (eval l env) (fun a s₁ => wpG M A (eval r env) (fun b s₂ => wpAny M A (compareOp op a b) (fun c s₃ => wpAny M A (truthy c) Q E s₃) E s₂) E s₁) E s)
    (hm : behindInMarks op r = false := by with_unfolding_all rfl) : wpG M A (isTrue (.Compare l [op] [r] pos) env whole) Q E s := by
  run_tac Mine.Sh.mark
  rw [isTrue_Compare1, markedBehindIn_of_false hm]
  exact wpG_seq h fun a s₁ h₁ => wpG_seq (wpG_holding h₁) fun b s₂ h₂ => wpG_bind (wpG_standAt (wpG_seq (wpG_operate (wpG_any h₂)) fun c s₃ h₃ => wpG_holding (wpG_any h₃)))
  run_tac Mine.Sh.fin
theorem wpG_Compare1 {l op r pos} {Q : Value → Shared → Prop}
    (h : wpG M A (eval l env) (fun a s₁ => wpG M A (eval r env) (fun b s₂ => wpAny M A (compareOp op a b) Q E s₂) E s₁) E s)
    (hm : behindInMarks op r = false := by with_unfolding_all rfl) : wpG M A (eval (.Compare l [op] [r] pos) env) Q E s := by
  run_tac Mine.Sh.mark
  rw [eval_Compare1, markedBehindIn_of_false hm]
  exact wpG_seq h fun a s₁ h₁ => wpG_seq (wpG_holding h₁) fun b s₂ h₂ => wpG_bind (wpG_standAt (wpG_operate (wpG_any h₂)))
  run_tac Mine.Sh.fin
theorem wpG_isTrue_Or2 {x y : Expr} {pos : Pos} {whole : Sem Value} {Q : Bool → Shared → Prop}
    (h : wpG M A (isTrue x env (eval x env)) (fun b s₁ => if b then Q true s₁ else wpG M A (isTrue y env (eval y env)) Q E s₁) E s) :
    wpG M A (isTrue (.BoolOp .Or [x, y] pos) env whole) Q E s := by
  run_tac Mine.Sh.mark
  rw [arm_isTrue_BoolOp]
  show wpG M A (do match BoolOp.Or, ← isTrue x env (eval x env) with | .And, false => pure false | .Or, true => pure true | _, _ => allTrue .Or [y] env) Q E s
  refine wpG_seq h fun b s₁ h₁ => ?_
  cases b
  · show wpG M A (do match BoolOp.Or, ← isTrue y env (eval y env) with | .And, false => pure false | .Or, true => pure true | _, _ => allTrue .Or [] env) Q E s₁
    refine wpG_seq h₁ fun b s₂ h₂ => ?_
    cases b <;> exact wpG_pure h₂
  · exact wpG_pure h₁
  run_tac Mine.Sh.fin
theorem wpG_IfExp {test body orelse : Expr} {pos : Pos} {Q : Value → Shared → Prop}
    (h : wpG M A (isTrue test env (eval test env)) (fun b s₁ => if b then wpG M A (eval body env) Q E s₁ else wpG M A (eval orelse env) Q E s₁) E s) :
    wpG M A (eval (.IfExp test body orelse pos) env) Q E s := by
  rw [arm_eval_IfExp]
  refine wpG_seq h fun b s₁ h₁ => ?_
  cases b <;> exact h₁
theorem wpG_spliced_nil {Q : List Value → Shared → Prop} (h : Q [] s) : wpG M A (spliced []) Q E s := wpG_pure h
theorem wpG_spliced_cons {x : Sem Value} {rest : List (Bool × Sem Value)} {Q : List Value → Shared → Prop}
    (h : wpG M A x (fun v s₁ => wpG M A (spliced rest) (fun vs s₂ => Q (v :: vs) s₂) E s₁) E s) : wpG M A (spliced ((false, x) :: rest)) Q E s := by
  run_tac Mine.Sh.mark
  rw [spliced]
  refine wpG_seq h fun v s₁ h₁ => ?_
  simp only [Bool.false_eq_true, if_false]
  exact wpG_bind (wpG_pure (wpG_seq (wpG_holding h₁) fun _ _ h₂ => wpG_pure h₂))
  run_tac Mine.Sh.fin
theorem wpG_items_nil {pos : Pos} {Q : List Value → Shared → Prop} (h : Q [] s) : wpG M A (spliced (backTo pos (starEach [] env))) Q E s := wpG_pure h
theorem wpG_items_cons {pos : Pos} {e : Expr} {rest : List Expr} {Q : List Value → Shared → Prop}
    (h : wpG M A (eval e env) (fun v s₁ => wpG M A (spliced (backTo pos (starEach rest env))) (fun vs s₂ => Q (v :: vs) s₂) E s₁) E s)
    (he : starEach (e :: rest) env = (false, eval e env) :: starEach rest env := by rfl) : wpG M A (spliced (backTo pos (starEach (e :: rest) env))) Q E s := by
  run_tac Mine.Sh.mark
  rw [he]
  show wpG M A (do
    let v ← eval e env
    let here ← (pure [v] : Sem (List Value))
    return here ++ (← holding here (spliced (backTo pos (starEach rest env))))) Q E s
  exact wpG_seq h fun v s₁ h₁ => wpG_bind (wpG_pure (wpG_seq (wpG_holding h₁) fun _ _ h₂ => wpG_pure h₂))
  run_tac Mine.Sh.fin
theorem wpG_evalArgs_nil {f : Value} {Q : Args → Shared → Prop} (h : Q ⟨[], []⟩ s) : wpG M A (evalArgs f true [] []) Q E s := wpG_any (evalArgs_nil3 h)
theorem wpG_evalArgs_plain {f : Value} {x : Sem Value} {rest : List (Bool × Sem Value)} {Q : Args → Shared → Prop}
    (h : wpG M A (spliced ((false, x) :: rest)) (fun vs s' => Q ⟨vs, []⟩ s') E s) : wpG M A (evalArgs f true ((false, x) :: rest) []) Q E s := by
  run_tac Mine.Sh.mark
  unfold evalArgs
  show wpG M A (spliced ((false, x) :: rest) >>= _) Q E s
  exact wpG_seq h fun vs s' h' => wpG_holding (wpG_bind (wpG_pure (wpG_bind (wpG_pure (wpG_pure h')))))
  run_tac Mine.Sh.fin
theorem wpG_callWith_of {K : Frag} {P : Heap → Prop} {pos : Pos} {f : Value} {first : List Value} {Q : Value → Shared → Prop} {args : List (Bool × Sem Value)} {keywords : List (Option Str × Sem Value)} (hplain : (args.any (·.1) || keywords.any (·.1.isNone)) = false)
    (hk : ∀ h, P h → ∃ k, (k = Keeper.frame ∨ k = Keeper.machine ∨ k = Keeper.boundFrame) ∧ Looks M h (keeperOf f) k)
    (h : wpG M A (evalArgs f true args keywords) (fun a s₁ => P s₁.heap ∧ wpG M A (call f (first ++ a.pos) a.kw) Q E s₁) E s) : wpG M A (callWith pos f first args keywords) Q E s := by
  run_tac Mine.Sh.mark
  unfold callWith
  refine wpG_seq (wpG_holding h) fun a s₁ h₁ => wpG_bind (wpG_standAt ?_)
  obtain ⟨k, hk', L⟩ := hk _ h₁.1
  simp only [hplain]
  refine wpG_bind (wpG_any (L.here ?_))
  have tail : ∀ {t : Sem Value}, wpG M A t Q E s₁ → wpG M A (t >>= fun r => holding [r] point >>= fun _ => pure r) Q E s₁ :=
    fun ht => wpG_seq ht fun r s₂ hr => wpG_bind (wpG_holding (wpG_any (wpAny_point (wpG_pure hr))))
  have marked (mk : Value) : wpG M A (callMarked mk f (first ++ a.pos) a.kw) Q E s₁ := by unfold callMarked; exact wpG_keep h₁.2
  rcases hk' with rfl | rfl | rfl <;> dsimp only <;> first | exact tail h₁.2 | (split <;> first | exact tail h₁.2 | exact tail (marked _))
  run_tac Mine.Sh.fin
theorem wpG_callWith_K {K : Frag} {h₀ : Heap} {pos : Pos} {f : Value} {first : List Value} {Q : Value → Shared → Prop} {e : Expr} {rest : List Expr} (_X : K.In h₀) (hk : keepIn K f = true) (h : wpG M A (spliced (backTo pos (starEach (e :: rest) env))) (fun vs s₁ => K.In s₁.heap ∧ wpG M A (call f (first ++ vs)) Q E s₁) E s)
    (he : starEach (e :: rest) env = (false, eval e env) :: starEach rest env := by rfl) (hplain : (backTo pos (starEach rest env)).any (·.1) = false := by rfl) :
    wpG M A (callWith pos f first (backTo pos (starEach (e :: rest) env)) []) Q E s := by
  run_tac Mine.Sh.mark
  rw [he] at h ⊢
  exact wpG_callWith_of (K := K) (by show ((false || (backTo pos (starEach rest env)).any (·.1)) || false) = false; rw [hplain]; rfl) (keeps_K hk) (wpG_evalArgs_plain h)
  run_tac Mine.Sh.fin
theorem wpG_callWith_K0 {K : Frag} {pos : Pos} {f : Value} {first : List Value} {Q : Value → Shared → Prop} (X : K.In s.heap) (hk : keepIn K f = true) (h : wpG M A (call f (first ++ [])) Q E s) : wpG M A (callWith pos f first (backTo pos (starEach [] env)) []) Q E s :=
  wpG_callWith_of (K := K) rfl (keeps_K hk) (wpG_evalArgs_nil ⟨X, h⟩)
theorem wpG_tail {t : Sem Value} {Q : Value → Shared → Prop} (ht : wpG M A t Q E s) : wpG M A (t >>= fun r => holding [r] point >>= fun _ => pure r) Q E s :=
  wpG_seq ht fun r s₂ hr => wpG_bind (wpG_holding (wpG_any (wpAny_point (wpG_pure hr))))
theorem wpG_callWith_type {pos : Pos} {T : String} {first : List Value} {args : List (Bool × Sem Value)} {Q : Value → Shared → Prop} (hplain : args.any (·.1) = false)
    (h : wpG M A (evalArgs (.type T) true args []) (fun a s₁ => wpG M A (call (.type T) (first ++ a.pos) a.kw) Q E s₁) E s) :
    wpG M A (callWith pos (.type T) first args []) Q E s := by
  run_tac Mine.Sh.mark
  unfold callWith
  refine wpG_seq (wpG_holding h) fun a s₁ h₁ => wpG_bind (wpG_standAt ?_)
  simp only [hplain, List.any_nil, Bool.or_false]
  refine wpG_bind (wpG_pure ?_)
  exact wpG_tail h₁
  run_tac Mine.Sh.fin
theorem wpG_callWith_builtin {pos : Pos} {id : String} {first : List Value} {args : List (Bool × Sem Value)} {Q : Value → Shared → Prop} (hplain : args.any (·.1) = false)
    (h : wpG M A (evalArgs (.builtin id) true args []) (fun a s₁ => wpG M A (call (.builtin id) (first ++ a.pos) a.kw) Q E s₁) E s) :
    wpG M A (callWith pos (.builtin id) first args []) Q E s := by
  run_tac Mine.Sh.mark
  unfold callWith
  refine wpG_seq (wpG_holding h) fun a s₁ h₁ => wpG_bind (wpG_standAt ?_)
  simp only [hplain, List.any_nil, Bool.or_false]
  refine wpG_bind (wpG_pure ?_)
  exact wpG_tail h₁
  run_tac Mine.Sh.fin
theorem wpG_callWith_type1 {pos : Pos} {T : String} {e : Expr} {rest : List Expr} {Q : Value → Shared → Prop}
    (h : wpG M A (spliced (backTo pos (starEach (e :: rest) env))) (fun vs s₁ => wpG M A (call (.type T) vs) Q E s₁) E s)
    (he : starEach (e :: rest) env = (false, eval e env) :: starEach rest env := by rfl)
    (hplain : (backTo pos (starEach rest env)).any (·.1) = false := by rfl) :
    wpG M A (callWith pos (.type T) [] (backTo pos (starEach (e :: rest) env)) []) Q E s := by
  run_tac Mine.Sh.mark
  rw [he] at h ⊢
  exact wpG_callWith_type (by show (false || (backTo pos (starEach rest env)).any (·.1)) = false; rw [hplain]; rfl) (wpG_evalArgs_plain h)
  run_tac Mine.Sh.fin
theorem wpG_callWith_b1 {pos : Pos} {id : String} {first : List Value} {e : Expr} {rest : List Expr} {Q : Value → Shared → Prop}
    (h : wpG M A (spliced (backTo pos (starEach (e :: rest) env))) (fun vs s₁ => wpAny M A (call (.builtin id) (first ++ vs)) Q E s₁) E s)
    (he : starEach (e :: rest) env = (false, eval e env) :: starEach rest env := by rfl)
    (hplain : (backTo pos (starEach rest env)).any (·.1) = false := by rfl) :
    wpG M A (callWith pos (.builtin id) first (backTo pos (starEach (e :: rest) env)) []) Q E s := by
  run_tac Mine.Sh.mark
  rw [he] at h ⊢
  exact wpG_callWith_builtin (by show (false || (backTo pos (starEach rest env)).any (·.1)) = false; rw [hplain]; rfl) (wpG_evalArgs_plain (wpG_mono h (fun _ _ h' => wpG_any h') fun _ _ x => x))
  run_tac Mine.Sh.fin
theorem wpG_Call_ofName {x : Str} {np pos : Pos} {args : List Expr} {keywords : List Keyword} {Q : Value → Shared → Prop}
    (h : wpAny M A (eval (.Name x np) env) (fun f s₁ => wpG M A (callWith pos f [] (backTo pos (starEach args env)) (backToKw pos (keywordEach keywords env))) Q E s₁) E s) :
    wpG M A (eval (.Call (.Name x np) args keywords pos) env) Q E s := by
  run_tac Mine.Sh.mark
  show wpG M A (do callWith pos (← eval (.Name x np) env) [] (backTo pos (starEach args env)) (backToKw pos (keywordEach keywords env))) Q E s
  exact wpG_bind (wpG_any h)
  run_tac Mine.Sh.fin
theorem wpG_MethodCall {o : Expr} {name : Str} {apos pos : Pos} {args : List Expr} {pl : Sem Bool} {Q : Value → Shared → Prop}
    (h : wpAny M A (eval o env) (fun ov s₁ => wpAny M A (getMethod ov name pl) (fun fx s₂ => wpG M A (callWith pos fx.1 fx.2 (backTo pos (starEach args env)) []) Q E s₂) E s₁) E s)
    (he : eval (.Call (.Attribute o name apos) args [] pos) env = (do
      let ov ← eval o env
      standAt apos.atName
      let (f, first) ← holding [ov] (getMethod ov name pl)
      callWith pos f first (backTo pos (starEach args env)) []) := by rfl) :
    wpG M A (eval (.Call (.Attribute o name apos) args [] pos) env) Q E s := by
  rw [he]
  exact wpG_seq (wpG_any h) fun ov s₁ h₁ => wpG_bind (wpG_standAt (wpG_seq (wpG_holding (wpG_any h₁)) fun fx s₂ h₂ => h₂))
theorem wpG_Tuple {elts : List Expr} {k : Nat} {pos : Pos} {Q : Value → Shared → Prop}
    (h : wpG M A (spliced (backTo pos (starEach elts env))) (fun vs s₁ => wpAny M A (newTuple vs) Q E s₁) E s) : wpG M A (eval (.Tuple elts k pos) env) Q E s := by
  rw [arm_eval_Tuple]
  exact wpG_bind (wpG_standAt (wpG_seq h fun vs s₁ h₁ => wpG_any h₁))
theorem wpG_List {elts : List Expr} {pos : Pos} {Q : Value → Shared → Prop}
    (h : wpG M A (spliced (backTo pos (starEach elts env))) (fun vs s₁ => wpAny M A (newList vs) Q E s₁) E s) : wpG M A (eval (.List elts pos) env) Q E s := by
  rw [arm_eval_List]
  exact wpG_bind (wpG_standAt (wpG_seq h fun vs s₁ h₁ => wpG_any h₁))
theorem wpG_Assign_Attribute {o attr pos' value pos} {Q : Flow → Shared → Prop}
    (h : wpG M A (eval value env) (fun v s₁ => wpAny M A (eval o env) (fun ov s₂ => wpAny M A (setAttr ov attr v) (fun _ => Q .next) E s₂) E s₁) E s)
    (hs : swapsWith value (some (.Attribute o attr pos')) pos.line env = pure false := by rfl) :
    wpG M A (exec (.Assign [.Attribute o attr pos'] value pos) env) Q E s := by
  run_tac Mine.Sh.mark
  rw [plainObj_exec_Assign_Attribute o attr pos' value pos hs]
  refine wpG_bind (wpG_standAt (wpG_seq h fun v s₁ h₁ => ?_))
  rw [assign_Attribute]
  exact wpG_any (wpAny_bind (wpAny_bind (wpAny_holding (wpAny_mono h₁ (fun ov s₂ h₂ => wpAny_bind (wpAny_standAt (wpAny_bind (wpAny_holding (wpAny_mono h₂ (fun _ s₃ h₃ => fun Γ p hΓ => by rw [Sem.wp_release]; exact wpAny_pure h₃) fun _ _ x => x))))) fun _ _ x => x))))
  run_tac Mine.Sh.fin
theorem wpG_Assign_Subscript {o i pos' value pos} {Q : Flow → Shared → Prop}
    (h : wpG M A (eval value env) (fun v s₁ => wpAny M A (eval o env) (fun ov s₂ => wpAny M A (eval i env) (fun iv s₃ =>
      wpAny M A (setItem ov iv v) (fun _ => Q .next) E s₃) E s₂) E s₁) E s)
    (hs : swapsWith value (some (.Subscript o i pos')) pos.line env = pure false := by rfl) :
    wpG M A (exec (.Assign [.Subscript o i pos'] value pos) env) Q E s := by
  run_tac Mine.Sh.mark
  rw [exec_Assign_Subscript o i pos' value pos hs]
  refine wpG_bind (wpG_standAt (wpG_seq h fun v s₁ h₁ => ?_))
  rw [assign_Subscript]
  exact wpG_any (wpAny_bind (wpAny_bind (wpAny_holding (wpAny_mono h₁ (fun ov s₂ h₂ => wpAny_bind (wpAny_holding (wpAny_mono h₂ (fun iv s₃ h₃ => wpAny_bind (wpAny_standAt (wpAny_bind (wpAny_holding (wpAny_mono h₃ (fun _ s₄ h₄ => fun Γ p hΓ => by rw [Sem.wp_release]; exact wpAny_pure h₄) fun _ _ x => x))))) fun _ _ x => x))) fun _ _ x => x))))
  run_tac Mine.Sh.fin
end
section
variable {prog : Program} {w : World} {A : Around} {E : Value → Shared → Prop} {s : Shared} {env : Env} {R : Result → Shared → Prop}
theorem wpG_Expr_any {e pos} {Q : Flow → Shared → Prop} (h : wpG (model prog w) A (eval e env) (fun _ => Q .next) E s)
    (hi : interactive env = false := by rfl) (hs : swapsWith e none pos.line env = pure false := by rfl) :
    wpG (model prog w) A (exec (.Expr e pos) env) Q E s := by
  rw [exec_Expr env e pos hi hs]
  exact wpG_bind (wpG_standAt (wpG_seq h fun v s' h' => wpG_any (wpAny_dropValue h')))
theorem wpG_runOwn {c : Code} {h : Option Value} {Q : Flow → Shared → Prop} (hb : bad c = false)
    (hc : codeG (model prog w) (A.mark h) c (fun r s' => match r with | .ok f => Q f s' | .error _ => False) s) (hnb : h ≠ some byPass := by intro x; cases x) : wpG (model prog w) A (runOwn c env h) Q E s := by
  run_tac Mine.Sh.mark
  unfold runOwn
  refine wpG_onRaise (wpG_run hb (codeG_mono hc fun r s' hr => ?_) hnb)
  cases r with
  | ok f => exact hr
  | error e => exact hr.elim
  run_tac Mine.Sh.fin
theorem wpG_For {target iter body orelse pos} {Q : Flow → Shared → Prop}
    (h : wpG (model prog w) A (eval iter env) (fun x s₁ => wpAny (model prog w) A (pyIter x) (fun it s₂ =>
      codeG (model prog w) A (.forLoop target it body orelse env) (fun r s' => match r with | .ok f => Q f s' | .error _ => False) s₂) E s₁) E s)
    (hs : ∀ x, foldedSetIterable iter env x = pure x := by intro _; rfl) :
    wpG (model prog w) A (exec (.For target iter body orelse pos) env) Q E s := by
  run_tac Mine.Sh.mark
  rw [exec_For]
  refine wpG_bind (wpG_standAt (wpG_seq h fun x s₁ h₁ => ?_))
  refine wpG_bind (wpG_any (wpAny_of_eq (hs x) ?_))
  exact wpG_bind (wpG_standAt (wpG_seq (wpG_holding (wpG_any h₁)) fun it s₂ h₂ => wpG_runOwn rfl h₂))
  run_tac Mine.Sh.fin
theorem wpG_onRaise_never {α : Type} {M : Model} {m : Sem α} {k : Value → Sem Unit} {Q : α → Shared → Prop} {E : Value → Shared → Prop} {s : Shared} (h : wpG M A m Q (fun _ _ => False) s) : wpG M A (m.onRaise k) Q E s :=
  wpG_onRaise (wpG_mono h (fun _ _ x => x) fun _ _ x => x.elim)
theorem wpG_never {α : Type} {M : Model} {m : Sem α} {Q : α → Shared → Prop} {E : Value → Shared → Prop} {s : Shared} (h : wpG M A m Q (fun _ _ => False) s) : wpG M A m Q E s :=
  wpG_mono h (fun _ _ x => x) fun _ _ x => x.elim
theorem codeG_block {body : List Stmt} {env : Env} (h : wpG (model prog w) A (execs body env) (fun f s' => R (.ok f) s') (fun _ _ => False) s) : codeG (model prog w) A (.block body env) R s := by
  run_tac Mine.Sh.mark
  refine codeG_of_tree ?_
  rw [Around.under_of_weight rfl]
  show wpG _ _ (do return Fin.done (← (execs body env).onRaise (fun x => do noteFrame x env; theTreesLotGoes x))) _ _ s
  exact wpG_seq (wpG_onRaise_never h) fun f s' h' => wpG_pure h'
  run_tac Mine.Sh.fin
theorem codeG_for_step {target it body env}
    (h : wpAny (model prog w) A (pyNext it) (fun r s₁ => match r with
      | none => R (.ok .next) s₁
      | some v => wpAny (model prog w) A (letOwnedTupleGo target it v) (fun _ s₀ => wpAny (model prog w) A (assign target env v) (fun _ s₂ => wpG (model prog w) A (execs body env) (fun f s₃ => match f with
          | .next | .cont => codeG (model prog w) A (.forLoop target it body [] env) R s₃
          | .brk => R (.ok .next) s₃
          | .ret v => R (.ok (.ret v)) s₃) (fun _ _ => False) s₂) (fun _ _ => False) s₀) (fun _ _ => False) s₁) (fun _ _ => False) s) :
    codeG (model prog w) A (.forLoop target it body [] env) R s := by
  run_tac Mine.Sh.mark
  refine codeG_of_tree ?_
  rw [Around.under_of_weight rfl]
  show wpG _ _ ((forTurn target it body [] env).onRaise (fun x => do noteFrame x env; theTreesLotGoes x)) _ _ s
  refine wpG_onRaise_never ?_
  simp only [forTurn]
  refine wpG_bind (wpG_standAt (wpG_seq (wpG_onRaise_never (wpG_any h)) fun r s₁ h₁ => ?_))
  cases r with
  | none => exact wpG_pure ⟨rfl, rfl, codeG_block (wpG_execs_nil h₁)⟩
  | some v =>
    refine wpG_seq (wpG_any h₁) fun _ s₀ h₀ => wpG_seq (wpG_any h₀) fun _ s₂ h₂ => wpG_seq h₂ fun f s₃ h₃ => ?_
    cases f with
    | next => exact wpG_pure ⟨rfl, rfl, h₃⟩
    | cont => exact wpG_pure ⟨rfl, rfl, h₃⟩
    | brk => exact wpG_pure h₃
    | ret v => exact wpG_pure h₃
  run_tac Mine.Sh.fin
end
end
-- FS
section
theorem wpAny_restate {α : Type} {M : Model} {A : Around} {x : Sem α} {Q : α → Shared → Prop} {E : Value → Shared → Prop} {s₀ s₁ : Shared} {h : Heap} (e : s₁ = { s₀ with heap := h, toks := s₁.toks }) (H : ∀ tk, wpAny M A x Q E { s₀ with heap := h, toks := tk }) : wpAny M A x Q E s₁ := e ▸ H s₁.toks
theorem wpG_restate {α : Type} {M : Model} {A : Around} {x : Sem α} {Q : α → Shared → Prop} {E : Value → Shared → Prop} {s₀ s₁ : Shared} {h : Heap} (e : s₁ = { s₀ with heap := h, toks := s₁.toks }) (H : ∀ tk, wpG M A x Q E { s₀ with heap := h, toks := tk }) : wpG M A x Q E s₁ := e ▸ H s₁.toks
end
-- BK
section
noncomputable def baObj (b : Array UInt8) : Obj := { cls := .type "bytearray", data := .bytearray b }
theorem fr_same {h₀ h h' : Heap} {L S : Addr} {m : Str → Option Value} {o : Obj} {news : List (Addr × Obj)} (F : Fr h₀ L h m) (N : News h₀ L h news) (hm : (S, o) ∈ news) (hs : Heap.SameBut S h h') : Fr h₀ L h' m :=
  have hS := N _ hm
  ⟨F.ns.sameBut hs (Ne.symm hS.2.1), fun b x e => (hs.2 b (fun q => by rw [q, hS.2.2] at e; cases e)).trans (F.keep b x e), F.above⟩
section
variable {prog : Program} {w : World} {A : Around} {E : Value → Shared → Prop} {s : Shared} {h₀ : Heap} {L S : Addr} {m : Str → Option Value} {news : List (Addr × Obj)} {g : Obj → List (Addr × Obj)}
theorem ba_call_K {n : Int} {t : Tok} {Q : Value → Shared → Prop} (F : Fr h₀ L s.heap m) (N : News h₀ L s.heap news) (h0 : 0 < n) (h8 : n ≤ 1000)
    (k : ∀ S h', Fr h₀ L h' m → News h₀ L h' ((S, baObj (Array.replicate n.toNat 0)) :: news) → (∀ p ∈ news, p.1 < S) → Q (.ref S) { s with heap := h' }) :
    wpG (model prog w) A (call (.type "bytearray") [.int n t]) Q E s := by
  run_tac Mine.Sh.mark
  refine ba_call h0 h8 fun h' hk hS => ?_
  have hlt : L < s.heap.objs.size := F.ns.lt
  refine k _ h' ⟨F.ns.at' fun o e => hk _ o e, fun b o e => hk b o (F.keep b o e), F.above⟩ (fun p hp => ?_) fun p hp => Heap.lt_size (N p hp).1
  rcases List.mem_cons.mp hp with rfl | hp
  · exact ⟨hS, Nat.ne_of_gt hlt, Heap.get?_none_of_le (Nat.le_of_lt (Nat.lt_of_le_of_lt F.above hlt))⟩
  · exact ⟨hk _ _ (N p hp).1, (N p hp).2⟩
  run_tac Mine.Sh.fin
theorem ba_setItem_K {b : Array UInt8} {i v : Int} {ti tv : Tok} {Q : Unit → Shared → Prop} (F : Fr h₀ L s.heap m) (N : News h₀ L s.heap news) (U : UpdF S (baObj b) news g) (hz : b.size ≤ 1000) (h0 : 0 ≤ i) (h1 : i < b.size) (hv0 : 0 ≤ v) (hv1 : v < 256)
    (k : ∀ h', Fr h₀ L h' m → News h₀ L h' (g (baObj (b.setIfInBounds i.toNat v.toNat.toUInt8))) → Q () { s with heap := h' }) :
    wpAny (model prog w) A (setItem (.ref S) (.int i ti) (.int v tv)) Q E s := by
  run_tac Mine.Sh.mark
  obtain ⟨pre, post, rfl, hg, a, c⟩ := U.split
  have hm : (S, baObj b) ∈ pre ++ (S, baObj b) :: post := List.mem_append_right _ (.head _)
  refine ba_setItem (N _ hm).1 hz h0 h1 hv0 hv1 fun h' hs hS => k h' (fr_same F N hm hs) ?_
  rw [hg]
  exact N.setIn a c hs hS
  run_tac Mine.Sh.fin
theorem ba_bytes_K {b : Array UInt8} {Q : Value → Shared → Prop} (N : News h₀ L s.heap news) (hm : (S, baObj b) ∈ news) (hz : b.size ≤ 1000)
    (k : ∀ t tk, Q (.bytes b t) { s with toks := tk }) : wpAny (model prog w) A (call (.type "bytes") [.ref S]) Q E s := ba_bytes (N _ hm).1 hz k
end
end
-- G3
section
open PySem.Sem (wp)
open PyProof.Rows.LCg
section
variable {prog : Program} {w : World} {A : Around} {s : Shared} {env : Env} {R : Result → Shared → Prop}
theorem codeG_compStart {elt target iter ifs rest scope pos it acc env}
    (h0 : codeG (model prog w) A (.compLoop (.ListComp elt (⟨target, iter, ifs, 0⟩ :: rest) scope pos) 0 it acc env) R s)
    (h : wpAny (model prog w) A (pyIter it) (fun it' s' => codeG (model prog w) A (.compLoop (.ListComp elt (⟨target, iter, ifs, 0⟩ :: rest) scope pos) 0 it' acc env) R s') (fun _ _ => False) s) :
    codeG (model prog w) A (.compStart (.ListComp elt (⟨target, iter, ifs, 0⟩ :: rest) scope pos) 0 it acc env) R s := by
  run_tac Mine.Sh.mark
  refine codeG_of_tree ?_
  rw [Around.under_of_weight rfl]
  show wpG _ _ ((compStart (.ListComp elt (⟨target, iter, ifs, 0⟩ :: rest) scope pos) 0 it acc env).onRaise (fun x => do noteFrame x env; standAt theWindowsPlace)) _ _ s
  refine wpG_onRaise_never ?_
  unfold compStart
  show wpG _ _ (ask >>= _) _ _ s
  refine wpG_bind (wpG_any (wpAny_askSetting ?_))
  split
  · first
      | exact wpG_bind (wpG_pure (wpG_pure ⟨rfl, rfl, h0⟩))
      | exact wpG_pure ⟨rfl, rfl, h0⟩
  · first
      | exact wpG_bind (wpG_any (wpAny_rule (wpG_bind (wpG_standAt (wpG_seq (wpG_any h) fun it' s' h' => wpG_pure ⟨rfl, rfl, h'⟩)))))
      | (refine wpG_bind (wpG_any (wpAny_rule ?_)); show wpG _ _ (standAt iter.pos >>= _) _ _ s; exact wpG_bind (wpG_standAt (wpG_seq (wpG_any h) fun it' s' h' => wpG_pure ⟨rfl, rfl, h'⟩)))
  run_tac Mine.Sh.fin
theorem codeG_compLoop_step {elt target iter : Expr} {scope : Scope} {pos : Pos} {it acc : Value} {env : Env}
    (turn : wpAny (model prog w) A (pyNext it) (fun r s₁ => match r with
      | none => R (.ok .next) s₁
      | some v => wpAny (model prog w) A (assign target env v) (fun _ s₂ => wpG (model prog w) A (eval elt env) (fun x s₃ =>
          wpAny (model prog w) A (call (.builtin "list.append") [acc, x]) (fun _ s₄ => codeG (model prog w) A (.compLoop (.ListComp elt [⟨target, iter, [], 0⟩] scope pos) 0 it acc env) R s₄) (fun _ _ => False) s₃)
          (fun _ _ => False) s₂) (fun _ _ => False) s₁) (fun _ _ => False) s)
    (ht : ∀ v, letOwnedTupleGo target it v = pure () := by intro _; rfl) :
    codeG (model prog w) A (.compLoop (.ListComp elt [⟨target, iter, [], 0⟩] scope pos) 0 it acc env) R s := by
  run_tac Mine.Sh.mark
  refine codeG_of_tree ?_
  rw [Around.under_of_weight rfl]
  show wpG _ _ ((compTurn (.ListComp elt [⟨target, iter, [], 0⟩] scope pos) 0 it acc env).onRaise (fun x => do noteFrame x env; theTreesLotGoes x)) _ _ s
  refine wpG_onRaise_never ?_
  rw [compTurn_list1]
  refine wpG_bind (wpG_standAt (wpG_seq (wpG_any turn) fun r s₁ h₁ => ?_))
  cases r with
  | none => exact wpG_pure h₁
  | some v =>
    refine wpG_bind (wpG_any (wpAny_of_eq (ht v) ?_))
    refine wpG_seq (wpG_any h₁) fun _ s₂ h₂ => ?_
    refine wpG_seq (Q := _) (R := fun _ s₄ => codeG (model prog w) A (.compLoop (.ListComp elt [⟨target, iter, [], 0⟩] scope pos) 0 it acc env) R s₄) ?_ fun _ s₄ h₄ => wpG_pure ⟨rfl, rfl, h₄⟩
    exact wpG_seq h₂ fun x s₃ h₃ => wpG_seq (wpG_any h₃) fun _ s₄ h₄ => wpG_pure h₄
  run_tac Mine.Sh.fin
end
section
variable {M : Model} {A : Around} {E : Value → Shared → Prop} {s : Shared} {env : Env}
theorem wpG_standIf {α : Type} {c : Prop} [Decidable c] {pos : Pos} {k : PUnit → Sem α} {Q : α → Shared → Prop} (h : wpG M A (k ()) Q E s) :
    wpG M A (if c then (standAt pos >>= k) else k ()) Q E s := by
  split
  · exact wpG_bind (wpG_standAt h)
  · exact h
theorem wpG_comprehension {e : Expr} {scope : Scope} {pos : Pos} {newAcc first : Sem Value} {g : Comprehension} {gs : List Comprehension} {cl : List (Str × Addr)} {Q : Value → Shared → Prop}
    (hcl : clausesOf e = g :: gs) (hs : ∀ x, foldedSetIterable g.iter env x = pure x) (hclos : closureFor scope env = pure cl)
    (hkind : scope.kind = .function) (hnames : ∀ x ∈ scope.names, x.2 = .local → scope.names.lookup x.1 = some .local)
    (hbad : ∀ it acc cenv, bad (.compStart e 0 it acc cenv) = false)
    (h : wpAny M A first (fun x s₁ => wpAny M A (pyIter x) (fun it s₂ => wpAny M A newAcc (fun acc s₃ =>
      wpAny M A (newFunctionEnv scope env.globals cl [] env.qual none .none (some env)) (fun cenv s₄ =>
        codeG M A (.compStart e 0 it acc { cenv with scope := relabel scope env }) (fun r s' => match r with
          | .ok _ => ∃ m, s'.heap.Ns cenv.locals m ∧ ∀ h', Heap.SameBut cenv.locals s'.heap h' → Q acc { s' with heap := h' }
          | .error _ => False) s₄) E s₃) E s₂) E s₁) E s) :
    wpG M A (comprehension e scope env pos newAcc false first) Q E s := by
  run_tac Mine.Sh.mark
  unfold comprehension
  rw [hclos, hcl]
  refine wpG_seq (wpG_any h) fun x s₁ h₁ => wpG_bind (wpG_standAt (wpG_bind (wpG_any (wpAny_of_eq (hs x) (wpG_bind (wpG_holding (wpG_mono (wpG_any h₁) (fun it s₂ h₂ =>
    wpG_standIf (wpG_seq (wpG_any h₂) fun acc s₃ h₃ => wpG_bind (wpG_pure (wpG_seq (wpG_any h₃) fun cenv s₄ h₄ => ?_)))) fun _ _ y => y)))))))
  dsimp only
  have hv : ∀ x ∈ (scope.names.filter fun x => (x.2 == .local || x.2 == .cell) && x.1 != (".0" : Str)).reverse, x.2 = .local →
      Env.kindOf { cenv with scope := relabel scope env } x.1 = some .local := fun x hx hl => lookup_relabel_local (hnames x (List.mem_filter.mp (List.mem_reverse.mp hx)).1 hl)
  refine wpG_holding (wpG_bind (wpG_attempt (wpG_holding (wpG_run (hbad _ _ _) (codeG_mono h₄ fun r s' hr => ?_)))))
  cases r with
  | ok f =>
    obtain ⟨m, hn, hr⟩ := hr
    exact wpG_bind (wpG_holding (wpG_any (wpAny_comp_letGo (cenv := { cenv with scope := relabel scope env }) hkind _ s' m hv hn fun h' m' _ hs' => wpG_pure (hr h' hs'))))
  | error x => exact hr.elim
  run_tac Mine.Sh.fin
end
section
variable {prog : Program} {w : World} {A : Around} {s : Shared} {h₀ : Heap} {L : Addr} {m : Str → Option Value} {env : Env}
theorem wpG_ListComp1 {elt iter : Expr} {x : Str} {px : Pos} {scope : Scope} {pos : Pos} {l : Addr} {v : Value} {news : List (Addr × Obj)} {Q : Value → Shared → Prop} (F₀ : Fr h₀ L s.heap m) (N₀ : News h₀ L s.heap news)
    (hclos : closureFor scope env = pure []) (hcell : ∀ y ∈ scope.names, y.2 ≠ .cell) (hkind : scope.kind = .function)
    (hnames : ∀ y ∈ scope.names, y.2 = .local → scope.names.lookup y.1 = some .local) (hx : scope.names.lookup x = some .local) (hh : A.handled = none)
    (h : wpAny (model prog w) A (eval iter env) (fun xv s₁ => xv = .ref l ∧ s₁ = s) (fun _ _ => False) s)
    {cn : Nat} (hl : (l, W.listOf #[v] cn) ∈ news)
    (he : ∀ I oI C oC D mC hp tk, NsObj oC mC → mC x = some v → Fr h₀ L hp m → News h₀ L hp ((I, oI) :: (C, oC) :: (D, lst []) :: news) →
        wpG (model prog w) A (eval elt (compEnvC scope [] C env)) (fun y s₂ => ∃ h' tk', s₂ = { s with heap := h', toks := tk' } ∧ Fr h₀ L h' m ∧ News h₀ L h' ((I, oI) :: (C, oC) :: (D, lst []) :: news) ∧
            (∀ h'' tk'', Fr h₀ L h'' m → News h₀ L h'' ((D, lst [y]) :: news) → (∀ p ∈ news, p.1 < D) → Q (.ref D) { s with heap := h'', toks := tk'' })) (fun _ _ => False) { s with heap := hp, toks := tk })
    (hs : ∀ x, foldedSetIterable iter env x = pure x := by intro _; rfl) :
    wpG (model prog w) A (eval (.ListComp elt [⟨.Name x px, iter, [], 0⟩] scope pos) env) Q (fun _ _ => False) s := by
  run_tac Mine.Sh.mark
  rw [eval_ListComp]
  refine wpG_comprehension rfl hs hclos hkind hnames (fun _ _ _ => rfl) (wpAny_mono h (fun xv s₁ h₁ => ?_) fun _ _ e => e)
  obtain ⟨rfl, rfl⟩ := h₁
  obtain ⟨hp₁, g₁, d₁, tk₁, o₁⟩ := s₁
  have F : Fr h₀ L hp₁ m := F₀
  have N : News h₀ L hp₁ news := N₀
  have hlist : hp₁.IsList l #[v] := ⟨_, (N _ hl).1, rfl, _, rfl⟩
  refine wpAny_pyIter_list hlist ?_
  have fresh : ∀ (hp : Heap) a, hp.objs.size ≤ a → (∀ b o, h₀.get? b = some o → hp.get? b = some o) → h₀.get? a = none := fun hp a ha hk => by
    cases e : h₀.get? a with
    | none => rfl
    | some o' => exact absurd (Heap.lt_size (hk a o' e)) (Nat.not_lt.mpr ha)
  have k₁ : ∀ b o, hp₁.get? b = some o → (hp₁.push { cls := .type "list_iterator", data := .fields #[.ref l, .int 0 0] }).get? b = some o := fun b o e => Heap.get?_push_of_some _ e
  refine wpAny_newObj_type (wpAny_newFunctionEnv hcell (by intro y hy; simp at hy) (fun h₁ hns₁ hsb₁ => ?_) hkind)
  dsimp only at hns₁ hsb₁ ⊢
  have hI0 : hp₁.objs.size < (hp₁.push { cls := .type "list_iterator", data := .fields #[.ref l, .int 0 0] }).objs.size := by rw [Heap.size_push]; exact Nat.lt_succ_self _
  generalize hH1 : hp₁.push { cls := .type "list_iterator", data := .fields #[.ref l, .int 0 0] } = H1 at hns₁ hsb₁ k₁ hI0 ⊢
  have itI : H1.get? hp₁.objs.size = some { cls := .type "list_iterator", data := .fields #[.ref l, .int 0 0] } := hH1 ▸ Heap.get?_push_size _ rfl
  generalize hI : hp₁.objs.size = I at hI0 itI hns₁ hsb₁ ⊢
  generalize hH2 : H1.push { cls := .type "list", dict := none, data := .seq ([] : List Value).toArray } = H2 at hns₁ hsb₁ ⊢
  have k₂ : ∀ b o, H1.get? b = some o → H2.get? b = some o := fun b o e => hH2 ▸ Heap.get?_push_of_some _ e
  have listD : H2.get? H1.objs.size = some (lst []) := hH2 ▸ Heap.get?_push_size _ rfl
  have hD2 : H2.objs.size = H1.objs.size + 1 := by rw [← hH2, Heap.size_push]
  generalize hD : H1.objs.size = D at hD2 listD hI0 hns₁ hsb₁ ⊢
  generalize hC : H2.objs.size = C at hD2 hns₁ hsb₁ ⊢
  have hDC : D < C := by omega
  have old : ∀ b o, hp₁.get? b = some o → h₁.get? b = some o ∧ b < I := fun b o e =>
    have lt : b < I := hI ▸ Heap.lt_size e
    ⟨hsb₁.extBut b o (Nat.ne_of_lt (Nat.lt_trans lt (Nat.lt_trans hI0 hDC))) (Heap.get?_push_of_some _ (k₂ b o (k₁ b o e))), lt⟩
  have F₁ : Fr h₀ L h₁ m := F.keeps fun b o e => (old b o e).1
  have hLI : L < I := hI ▸ F.ns.lt
  have zI : h₁.get? I = some { cls := .type "list_iterator", data := .fields #[.ref l, .int 0 0] } := hsb₁.extBut _ _ (Nat.ne_of_lt (Nat.lt_trans hI0 hDC)) (Heap.get?_push_of_some _ (k₂ _ _ itI))
  have zD : h₁.get? D = some (lst []) := hsb₁.extBut _ _ (Nat.ne_of_lt hDC) (Heap.get?_push_of_some _ listD)
  have nI : h₀.get? I = none := fresh hp₁ I (Nat.le_of_eq hI) F.keep
  have nD : h₀.get? D = none := fresh hp₁ D (Nat.le_of_lt (hI ▸ hI0)) F.keep
  have nC : h₀.get? C = none := fresh hp₁ C (Nat.le_of_lt (Nat.lt_trans (hI ▸ hI0) hDC)) F.keep
  have N₁ : News h₀ L h₁ news := fun p hp => ⟨(old _ _ (N p hp).1).1, (N p hp).2⟩
  have ltN : ∀ p ∈ news, p.1 < I := fun p hp => (old _ _ (N p hp).1).2
  have loop : codeG (model prog w) A (.compLoop (.ListComp elt [⟨.Name x px, iter, [], 0⟩] scope pos) 0 (.ref I) (.ref D) (compEnvC scope [] C env))
      (fun r s' => match r with
        | .ok _ => ∃ m, s'.heap.Ns C m ∧ ∀ h', Heap.SameBut C s'.heap h' → Q (.ref D) { s' with heap := h' }
        | .error _ => False) { heap := h₁, gens := g₁, drawn := d₁, toks := tk₁ + ([] : List (Str × Value)).length, os := o₁ } := by
    have il : h₁.IsListIter I l 0 := ⟨_, zI, rfl, rfl⟩
    have ll : h₁.IsList l #[v] := ⟨_, (N₁ _ hl).1, rfl, _, rfl⟩
    refine codeG_compLoop_step (wpAny_pyNext_list_item il ll (x := v) rfl fun h₂ il₂ hs₂ => ?_)
    dsimp only
    have ns₂ : h₂.Ns C _ := hns₁.sameBut hs₂ (Ne.symm (Nat.ne_of_lt (Nat.lt_trans hI0 hDC)))
    refine wpAny_assign_Name (wpAny_storeName_local (lookup_relabel_local hx) ns₂ (fun h₃ hn₃ hs₃ => ?_) (by simp [compEnvC, relabel, hkind]))
    obtain ⟨oC, heC, hoC⟩ := ns_obj hn₃
    have F₂ : Fr h₀ L h₂ m := F₁.change hs₂ (Ne.symm (Nat.ne_of_lt hLI)) nI
    have F₃ : Fr h₀ L h₃ m := F₂.change hs₃ (Ne.symm (Nat.ne_of_lt (Nat.lt_trans hLI (Nat.lt_trans hI0 hDC)))) nC
    obtain ⟨oI, heI, hcI, hdI⟩ := il₂
    have heI₃ : h₃.get? I = some oI := (hs₃.2 I (Nat.ne_of_lt (Nat.lt_trans hI0 hDC))).trans heI
    have zD₃ : h₃.get? D = some (lst []) := (hs₃.2 D (Nat.ne_of_lt hDC)).trans ((hs₂.2 D (Nat.ne_of_gt hI0)).trans zD)
    have N₃ : News h₀ L h₃ ((I, oI) :: (C, oC) :: (D, lst []) :: news) := fun p hp => by
      rcases List.mem_cons.mp hp with rfl | hp
      · exact ⟨heI₃, Ne.symm (Nat.ne_of_lt hLI), nI⟩
      rcases List.mem_cons.mp hp with rfl | hp
      · exact ⟨heC, Ne.symm (Nat.ne_of_lt (Nat.lt_trans hLI (Nat.lt_trans hI0 hDC))), nC⟩
      rcases List.mem_cons.mp hp with rfl | hp
      · exact ⟨zD₃, Ne.symm (Nat.ne_of_lt (Nat.lt_trans hLI hI0)), nD⟩
      · have lt := ltN p hp
        exact ⟨(hs₃.2 _ (Nat.ne_of_lt (Nat.lt_trans lt (Nat.lt_trans hI0 hDC)))).trans ((hs₂.2 _ (Nat.ne_of_lt lt)).trans (N₁ p hp).1), (N p hp).2⟩
    refine wpG_mono (he I oI C oC D _ h₃ _ hoC (by simp) F₃ N₃) (fun y s₄ h₄ => ?_) fun _ _ e => e
    obtain ⟨h₄, tk₄, rfl, F₄, N₄, hQ⟩ := h₄
    have yI := (N₄ (I, oI) List.mem_cons_self).1
    have yC := (N₄ (C, oC) (List.mem_cons_of_mem _ List.mem_cons_self)).1
    have yD := (N₄ (D, lst []) (List.mem_cons_of_mem _ (List.mem_cons_of_mem _ List.mem_cons_self))).1
    have N₄' : News h₀ L h₄ news := fun p hp => N₄ p (List.mem_cons_of_mem _ (List.mem_cons_of_mem _ (List.mem_cons_of_mem _ hp)))
    refine append_at (hsz := Nat.zero_le _) yD fun h₅ hs₅ hD₅ => ?_
    have il₅ : h₅.IsListIter I l 1 := ⟨oI, (hs₅.2 I (Nat.ne_of_lt hI0)).trans yI, hcI, hdI⟩
    have ltl : l < I := ltN _ hl
    have ll₅ : h₅.IsList l #[v] := ⟨_, (hs₅.2 l (Nat.ne_of_lt (Nat.lt_trans ltl hI0))).trans (N₄' _ hl).1, rfl, _, rfl⟩
    refine codeG_compLoop_step (wpAny_pyNext_list_end hh il₅ ll₅ rfl fun h₆ he₆ => ?_)
    dsimp only
    have ns₆ : h₆.Ns C _ := (((hoC.ns yC).sameBut hs₅ (Nat.ne_of_gt hDC)).at' fun o e => he₆ C o (Nat.ne_of_gt (Nat.lt_trans hI0 hDC)) e)
    refine ⟨_, ns₆, fun h₇ hs₇ => ?_⟩
    have up : ∀ b o, b < I → h₄.get? b = some o → h₇.get? b = some o := fun b o lt e =>
      (hs₇.2 b (Nat.ne_of_lt (Nat.lt_trans lt (Nat.lt_trans hI0 hDC)))).trans (he₆ b o (Nat.ne_of_lt lt) ((hs₅.2 b (Nat.ne_of_lt (Nat.lt_trans lt hI0))).trans e))
    have F₇ : Fr h₀ L h₇ m := ⟨F₄.ns.at' fun o e => up _ _ hLI e, fun b o e => up b o ((old b o (F.keep b o e)).2) (F₄.keep b o e), F₄.above⟩
    refine hQ h₇ _ F₇ (fun p hp => ?_) fun p hp => Nat.lt_trans (ltN p hp) hI0
    rcases List.mem_cons.mp hp with rfl | hp
    · refine ⟨(hs₇.2 D (Nat.ne_of_lt hDC)).trans (he₆ D _ (Nat.ne_of_gt hI0) (hD₅.trans (congrArg some (lst_snoc [] y)))), Ne.symm (Nat.ne_of_lt (Nat.lt_trans hLI hI0)), nD⟩
    · exact ⟨up _ _ (ltN p hp) (N₄' p hp).1, (N p hp).2⟩
  exact codeG_compStart loop (wpAny_pyIter_listiter ⟨_, zI, rfl, rfl⟩ loop)
  run_tac Mine.Sh.fin
end
end
-- G4
section
open PySem.Sem (wp)
section
variable {prog : Program} {w : World} {A : Around} {E : Value → Shared → Prop} {s : Shared} {env : Env} {h₀ : Heap} {L l : Addr} {m : Str → Option Value} {news : List (Addr × Obj)}
theorem For_none {target iter : Expr} {body : List Stmt} {pos : Pos} {n : Nat} {Q : Flow → Shared → Prop} (F : Fr h₀ L s.heap m) (N : News h₀ L s.heap news) (hh : A.handled = none)
    (h : wpAny (model prog w) A (eval iter env) (fun xv s₁ => xv = .ref l ∧ s₁ = s) (fun _ _ => False) s) (hl : (l, { cls := .type "list", data := .seq #[] n }) ∈ news)
    (k : ∀ h' tk, Fr h₀ L h' m → News h₀ L h' news → Q .next { s with heap := h', toks := tk })
    (hs : ∀ x, foldedSetIterable iter env x = pure x := by intro _; rfl) :
    wpAny (model prog w) A (exec (.For target iter body [] pos) env) Q E s := by
  run_tac Mine.Sh.mark
  refine wpAny_For (wpAny_mono h (fun xv s₁ h₁ => ?_) fun _ _ e => e.elim) hs
  obtain ⟨rfl, rfl⟩ := h₁
  obtain ⟨hp, g, d, tk, o⟩ := s₁
  have hlist : hp.IsList l #[] := ⟨_, (N _ hl).1, rfl, _, rfl⟩
  refine wpAny_pyIter_list hlist ?_
  have up : ∀ b o, hp.get? b = some o → (hp.push { cls := .type "list_iterator", data := .fields #[.ref l, .int 0 0] }).get? b = some o ∧ b ≠ hp.objs.size := fun b o e => ⟨Heap.get?_push_of_some _ e, Nat.ne_of_lt (Heap.lt_size e)⟩
  refine codeAny_of_tree ?_
  rw [Around.under_of_weight rfl]
  show wpAny _ _ ((forTurn target (.ref hp.objs.size) body [] env).onRaise (fun x => do noteFrame x env; theTreesLotGoes x)) _ _ _
  refine wpAny_noted ?_
  simp only [forTurn]
  refine wpAny_bind (wpAny_standAt (wpAny_bind (wpAny_onRaise ?_)))
  refine wpAny_pyNext_list_end hh ⟨_, Heap.get?_push_size _ rfl, rfl, rfl⟩ (hlist.push _) rfl fun h' he => ?_
  have up' : ∀ b o, hp.get? b = some o → h'.get? b = some o := fun b o e => he b o (up b o e).2 (up b o e).1
  exact wpAny_pure ⟨rfl, codeAny_block (wpAny_execs_nil (k h' _ (F.keeps up') fun p hp => ⟨up' _ _ (N p hp).1, (N p hp).2⟩))⟩
  run_tac Mine.Sh.fin
noncomputable def ForEnd (h₀ : Heap) (L I : Addr) (oI : Obj) (l : Addr) (v : Value) (n : Nat) (Q : Flow → Shared → Prop) (f : Flow) (s₃ : Shared) : Prop :=
  (f = .next ∨ f = .cont) ∧ ∃ (m' : Str → Option Value) (news' news'' : List (Addr × Obj)), Fr h₀ L s₃.heap m' ∧ News h₀ L s₃.heap news' ∧ (I, oI) ∈ news' ∧ (l, { cls := .type "list", data := .seq #[v] n }) ∈ news' ∧ (∀ p ∈ news'', p ∈ news' ∧ p.1 ≠ I) ∧
    ∀ h'' tk'', Fr h₀ L h'' m' → News h₀ L h'' news'' → Q .next { s₃ with heap := h'', toks := tk'' }
theorem wpG_For1 {target iter : Expr} {body : List Stmt} {pos : Pos} {n : Nat} {v : Value} {Q : Flow → Shared → Prop} (F : Fr h₀ L s.heap m) (N : News h₀ L s.heap news) (hh : A.handled = none)
    (h : wpAny (model prog w) A (eval iter env) (fun xv s₁ => xv = .ref l ∧ s₁ = s) (fun _ _ => False) s) (hl : (l, { cls := .type "list", data := .seq #[v] n }) ∈ news)
    (k : ∀ I oI h' tk, Fr h₀ L h' m → News h₀ L h' ((I, oI) :: news) → (∀ p ∈ news, p.1 < I) →
      wpAny (model prog w) A (assign target env v) (fun _ s₂ => wpG (model prog w) A (execs body env) (ForEnd h₀ L I oI l v n Q) (fun _ _ => False) s₂) (fun _ _ => False) { s with heap := h', toks := tk })
    (hs : ∀ x, foldedSetIterable iter env x = pure x := by intro _; rfl) :
    wpG (model prog w) A (exec (.For target iter body [] pos) env) Q E s := by
  run_tac Mine.Sh.mark
  refine wpG_For (wpG_any (wpAny_mono h (fun xv s₁ h₁ => ?_) fun _ _ e => e.elim)) hs
  obtain ⟨rfl, rfl⟩ := h₁
  obtain ⟨hp, g, d, tk, o⟩ := s₁
  have hlist : hp.IsList l #[v] := ⟨_, (N _ hl).1, rfl, _, rfl⟩
  refine wpAny_pyIter_list hlist ?_
  have hlI : l < hp.objs.size := Heap.lt_size (N _ hl).1
  refine codeG_for_step (wpAny_pyNext_list_item ⟨_, Heap.get?_push_size _ rfl, rfl, rfl⟩ (hlist.push _) (x := v) rfl fun h₁ il hs₁ => ?_)
  dsimp only
  have up : ∀ b o, hp.get? b = some o → h₁.get? b = some o ∧ b < hp.objs.size := fun b o e => ⟨(hs₁.2 b (Nat.ne_of_lt (Heap.lt_size e))).trans (Heap.get?_push_of_some _ e), Heap.lt_size e⟩
  generalize hp.objs.size = I at il up hs₁ hlI ⊢
  have hI₀ : h₀.get? I = none := by
    cases e : h₀.get? I with
    | none => rfl
    | some o' => exact absurd (up I o' (F.keep I o' e)).2 (Nat.lt_irrefl _)
  have hLI : L < I := by
    obtain ⟨oL, es, ep, e, _⟩ := F.ns
    exact (up L oL e).2
  refine letGo_listiter il ?_
  obtain ⟨oI, heI, hcI, hdI⟩ := il
  have F₁ : Fr h₀ L h₁ m := F.keeps fun b o e => (up b o e).1
  have N₁ : News h₀ L h₁ ((I, oI) :: news) := fun p hp => by
    rcases List.mem_cons.mp hp with rfl | hp
    · exact ⟨heI, Ne.symm (Nat.ne_of_lt hLI), hI₀⟩
    · exact ⟨(up _ _ (N p hp).1).1, (N p hp).2⟩
  refine wpAny_mono (k I oI h₁ tk F₁ N₁ fun p hp => (up _ _ (N p hp).1).2) (fun _ s₂ h₂ => wpG_mono h₂ (fun f s₃ h₃ => ?_) fun _ _ e => e) fun _ _ e => e
  obtain ⟨hf, m', news', news'', F', N', hmI, hml, hsub, hQ⟩ := h₃
  obtain ⟨hp₃, g₃, d₃, tk₃, o₃⟩ := s₃
  have next : codeG (model prog w) A (.forLoop target (.ref I) body [] env) (fun r s' => match r with | .ok f => Q f s' | .error _ => False) { heap := hp₃, gens := g₃, drawn := d₃, toks := tk₃, os := o₃ } := by
    refine codeG_for_step (wpAny_pyNext_list_end hh ⟨oI, (N' _ hmI).1, hcI, hdI⟩ ⟨_, (N' _ hml).1, rfl, _, rfl⟩ rfl fun h₄ he => ?_)
    refine hQ h₄ _ ⟨F'.ns.at' fun o e => he _ o (Nat.ne_of_lt hLI) e, fun b o e => he b o (Nat.ne_of_lt (up b o (F.keep b o e)).2) (F'.keep b o e), F'.above⟩ fun p hp => ?_
    obtain ⟨a, b⟩ := hsub p hp
    exact ⟨he _ _ b (N' p a).1, (N' p a).2⟩
  rcases hf with rfl | rfl
  · exact next
  · exact next
  run_tac Mine.Sh.fin
end
end
-- FT
section
open PySem.Sem (wp)
section
variable {prog : Program} {w : World} {A : Around} {E : Value → Shared → Prop} {s : Shared} {env : Env} {h₀ : Heap} {L : Addr} {m : Str → Option Value} {news : List (Addr × Obj)}
theorem letGo_tupiter {elts : List Expr} {x1} {pos : Pos} {I l : Addr} {v : Value} {i : Nat} {Q : Unit → Shared → Prop} (hit : IsTupIter s.heap I l i) (hQ : Q () s) :
    wpAny (model prog w) A (letOwnedTupleGo (.Tuple elts x1 pos) (.ref I) v) Q E s := by
  run_tac Mine.Sh.mark
  obtain ⟨o, ho, hc, hd⟩ := hit
  unfold letOwnedTupleGo
  cases v with
  | ref T =>
    refine wpAny_bind (wpAny_load ho ?_)
    rw [hc, hd]
    show wpAny _ A (if (["enumerate", "zip", "dict_itemiterator", "dict_reverseitemiterator", "odict_iterator", "itertools.zip_longest", "itertools.pairwise"].contains "tuple_iterator" &&
        (#[.ref l, .int i 0] : Array Value)[0]? == some (rawInt T)) = true then _ else _) Q E s
    rw [if_neg (by
      intro h
      rw [show (["enumerate", "zip", "dict_itemiterator", "dict_reverseitemiterator", "odict_iterator", "itertools.zip_longest", "itertools.pairwise"].contains "tuple_iterator") = false from by decide, Bool.false_and] at h
      cases h)]
    exact wpAny_pure hQ
  | _ => exact wpAny_pure hQ
  run_tac Mine.Sh.fin
abbrev tupO (vs : Array Value) (k : Nat) : Obj := { cls := .type "tuple", data := .seq vs k }
theorem for_tup_start {target : Expr} {body : List Stmt} {n : Nat} {its : Array Value} {Tu : Addr} {R : Flow → Shared → Prop} (F : Fr h₀ L s.heap m) (N : News h₀ L s.heap news) (hT : (Tu, tupO its n) ∈ news)
    (k : ∀ I oI h', oI.cls = .type "tuple_iterator" → oI.data = .fields #[.ref Tu, .int 0 0] → Fr h₀ L h' m → News h₀ L h' ((I, oI) :: news) → (∀ p ∈ news, p.1 < I) →
      codeG (model prog w) A (.forLoop target (.ref I) body [] env) (fun r s' => match r with | .ok f => R f s' | .error _ => False) { s with heap := h' }) :
    wpAny (model prog w) A (pyIter (.ref Tu)) (fun it s₂ => codeG (model prog w) A (.forLoop target it body [] env) (fun r s' => match r with | .ok f => R f s' | .error _ => False) s₂) E s := by
  run_tac Mine.Sh.mark
  have ht : IsTup s.heap Tu its := ⟨_, (N _ hT).1, rfl, _, rfl⟩
  refine iter_tuple ht ?_
  have up : ∀ b o, s.heap.get? b = some o → (s.heap.push { cls := .type "tuple_iterator", data := .fields #[.ref Tu, .int 0 0] }).get? b = some o := fun b o e => Heap.get?_push_of_some _ e
  refine k s.heap.objs.size { cls := .type "tuple_iterator", data := .fields #[.ref Tu, .int 0 0] } _ rfl rfl (F.keeps up) (fun p hp => ?_) (fun p hp => Heap.lt_size (N p hp).1)
  rcases List.mem_cons.mp hp with rfl | hp
  · refine ⟨Heap.get?_push_size _ rfl, Ne.symm (Nat.ne_of_lt F.ns.lt), ?_⟩
    cases e : h₀.get? s.heap.objs.size with
    | none => rfl
    | some o' => exact absurd (Heap.lt_size (F.keep _ o' e)) (Nat.lt_irrefl _)
  · exact ⟨up _ _ (N p hp).1, (N p hp).2⟩
  run_tac Mine.Sh.fin
theorem for_tup_next {x x₂ : Str} {px px₂ tp : Pos} {tk} {body : List Stmt} {n k' i : Nat} {its : Array Value} {I Tu Ti : Addr} {oI : Obj} {v1 v2 : Value} {R : Result → Shared → Prop} (F : Fr h₀ L s.heap m) (N : News h₀ L s.heap ((I, oI) :: news)) (hh : A.handled = none) (hL : env.locals = L)
    (hc : oI.cls = .type "tuple_iterator") (hd : oI.data = .fields #[.ref Tu, .int i 0]) (hT : (Tu, tupO its n) ∈ news) (hx : its[i]? = some (.ref Ti)) (hTi : (Ti, tupO #[v1, v2] k') ∈ news) (off : ∀ p ∈ news, p.1 ≠ I)
    (kx : env.kindOf x = some .local) (kx₂ : env.kindOf x₂ = some .local) (hp : (env.scope.kind == .class || (env.scope.kind == .module && env.locals != env.globals)) = false)
    (k : ∀ oI' h' tk', oI'.cls = .type "tuple_iterator" → oI'.data = .fields #[.ref Tu, .int (i + 1 : Nat) 0] → Fr h₀ L h' (fun z => if z = x₂ then some v2 else if z = x then some v1 else m z) → News h₀ L h' ((I, oI') :: news) →
      wpG (model prog w) A (execs body env) (fun f s₃ => match f with
          | .next | .cont => codeG (model prog w) A (.forLoop (.Tuple [.Name x px, .Name x₂ px₂] tk tp) (.ref I) body [] env) R s₃
          | .brk => R (.ok .next) s₃
          | .ret v => R (.ok (.ret v)) s₃) (fun _ _ => False) { s with heap := h', toks := tk' }) :
    codeG (model prog w) A (.forLoop (.Tuple [.Name x px, .Name x₂ px₂] tk tp) (.ref I) body [] env) R s := by
  run_tac Mine.Sh.mark
  subst hL
  have hI := N _ List.mem_cons_self
  have ht : IsTup s.heap Tu its := ⟨_, (N _ (List.mem_cons_of_mem _ hT)).1, rfl, _, rfl⟩
  refine codeG_for_step (next_tuple_item ⟨_, hI.1, hc, hd⟩ ht hx fun h₁ hit hs₁ => ?_)
  dsimp only
  refine letGo_tupiter hit ?_
  obtain ⟨oI', heI, hcI, hdI⟩ := hit
  have F₁ : Fr h₀ env.locals h₁ m := F.change hs₁ hI.2.1 hI.2.2
  have N₁ : News h₀ env.locals h₁ ((I, oI') :: news) := fun p hp => by
    rcases List.mem_cons.mp hp with rfl | hp
    · exact ⟨heI, hI.2⟩
    · have z := N p (List.mem_cons_of_mem _ hp)
      exact ⟨hs₁.extBut _ _ (off p hp) z.1, z.2⟩
  have htI : IsTup h₁ Ti #[v1, v2] := ⟨_, (N₁ _ (List.mem_cons_of_mem _ hTi)).1, rfl, _, rfl⟩
  refine assign_Tuple_tuple hh htI rfl rfl fun h₂ he => ?_
  have F₂ : Fr h₀ env.locals h₂ m := F₁.extBut he (Nat.le_refl _)
  have N₂ : News h₀ env.locals h₂ ((I, oI') :: news) := fun p hp => ⟨he _ _ (Nat.ne_of_lt (Heap.lt_size (N₁ p hp).1)) (N₁ p hp).1, (N₁ p hp).2⟩
  have hL₀ : h₀.get? env.locals = none := Heap.get?_none_of_le F.above
  refine assignInOrder_cons (wpAny_assign_Name (wpAny_storeName_local kx F₂.ns (fun h₃ hn₃ hs₃ => ?_) hp))
  have F₃ : Fr h₀ env.locals h₃ (fun z => if z = x then some v1 else m z) := ⟨hn₃, fun b o e => hs₃.extBut b o (fun q => by rw [q, hL₀] at e; cases e) (F₂.keep b o e), F₂.above⟩
  have N₃ : News h₀ env.locals h₃ ((I, oI') :: news) := fun p hp => ⟨hs₃.extBut _ _ (N₂ p hp).2.1 (N₂ p hp).1, (N₂ p hp).2⟩
  refine assignInOrder_cons (wpAny_assign_Name (wpAny_storeName_local kx₂ F₃.ns (fun h₄ hn₄ hs₄ => ?_) hp))
  have F₄ : Fr h₀ env.locals h₄ (fun z => if z = x₂ then some v2 else if z = x then some v1 else m z) := ⟨hn₄, fun b o e => hs₄.extBut b o (fun q => by rw [q, hL₀] at e; cases e) (F₃.keep b o e), F₃.above⟩
  have N₄ : News h₀ env.locals h₄ ((I, oI') :: news) := fun p hp => ⟨hs₄.extBut _ _ (N₃ p hp).2.1 (N₃ p hp).1, (N₃ p hp).2⟩
  exact assignInOrder_nil (k oI' h₄ _ hcI hdI F₄ N₄)
  run_tac Mine.Sh.fin
theorem for_tup_end {target : Expr} {body : List Stmt} {n i : Nat} {its : Array Value} {I Tu : Addr} {oI : Obj} {R : Result → Shared → Prop} (F : Fr h₀ L s.heap m) (N : News h₀ L s.heap ((I, oI) :: news)) (hh : A.handled = none)
    (hc : oI.cls = .type "tuple_iterator") (hd : oI.data = .fields #[.ref Tu, .int i 0]) (hT : (Tu, tupO its n) ∈ news) (hx : its[i]? = none) (off : ∀ p ∈ news, p.1 ≠ I)
    (k : ∀ h', Fr h₀ L h' m → News h₀ L h' news → R (.ok .next) { s with heap := h' }) :
    codeG (model prog w) A (.forLoop target (.ref I) body [] env) R s := by
  run_tac Mine.Sh.mark
  have hI := N _ List.mem_cons_self
  have ht : IsTup s.heap Tu its := ⟨_, (N _ (List.mem_cons_of_mem _ hT)).1, rfl, _, rfl⟩
  refine codeG_for_step (next_tuple_end hh ⟨_, hI.1, hc, hd⟩ ht hx fun h₁ he => ?_)
  refine k h₁ ⟨F.ns.at' fun o e => he _ o (Ne.symm hI.2.1) e, fun b o e => he b o (fun q => by rw [q, hI.2.2] at e; cases e) (F.keep b o e), F.above⟩ fun p hp => ?_
  have z := N p (List.mem_cons_of_mem _ hp)
  exact ⟨he _ _ (off p hp) z.1, z.2⟩
  run_tac Mine.Sh.fin
end
end
-- EN
section
open PySem.Calls
theorem bj_slot : Slot "bytes" "join" "bytes.join" :=
  .of (owner := "bytes") (n := "join") (by rw [typeLookup_type, builtinLookup_eq_fast]; kernel_rfl) (by decide +kernel) (by decide +kernel) (by decide +kernel)
    (by first | exact .inl (by decide +kernel) | exact .inr (by decide +kernel)) (by rw [isSubtype_type]; kernel_rfl)
theorem bj_type : typeOf (.builtin "bytes.join") = pure (.type "method_descriptor") := by show builtinType _ = _; rw [builtinType_eq_fast]; kernel_rfl
theorem bj_entry : entryFor table "bytes.join" = some Builtin.«bytes.join» := entryFor_of_tree (by kernel_rfl)
theorem bj_args (a b : Value) : argsOk "bytes.join" ⟨[a, b], []⟩ := by unfold argsOk; kernel_rfl
theorem en_slot : Slot "str" "encode" "str.encode" := F.slot_str_encode
theorem en_type : typeOf (.builtin "str.encode") = pure (.type "method_descriptor") := by show builtinType _ = _; rw [builtinType_eq_fast]; kernel_rfl
theorem en_entry : entryFor table "str.encode" = some Builtin.«str.encode» := entryFor_of_tree (by kernel_rfl)
theorem en_args (a b : Value) : argsOk "str.encode" ⟨[a, b], []⟩ := by unfold argsOk; kernel_rfl
section
variable {prog : Program} {w : World} {A : Around} {E : Value → Shared → Prop} {s : Shared}
theorem bj_method {M : Model} {b : Array UInt8} {t : Tok} {pl : Sem Bool} {Q : Value × List Value → Shared → Prop} (h : Q (.builtin "bytes.join", [.bytes b t]) s) : wpAny M A (getMethod (.bytes b t) "join" pl) Q E s := by
  with_reducible exact KBd.method_of (.bytes b t) (typeIs_bytes _ _ _) bj_slot bj_type KBd.noRef h
theorem en_method {M : Model} {x : Str} {t : Tok} {pl : Sem Bool} {Q : Value × List Value → Shared → Prop} (h : Q (.builtin "str.encode", [.str x t]) s) : wpAny M A (getMethod (.str x t) "encode" pl) Q E s :=
  getMethod_builtin (typeIs_str _ _ _) F.plainAttrs_str en_slot en_type (fun _ e => nomatch e) h
theorem bj_one {b c : Array UInt8} {tb tc : Tok} {D : Addr} {Q : Value → Shared → Prop} (hD : s.heap.get? D = some (LCg.lst [.bytes c tc])) (h : Q (.bytes c tc) s) :
    wpAny (model prog w) A (call (.builtin "bytes.join") [.bytes b tb, .ref D]) Q E s := by
  run_tac Mine.Sh.mark
  refine wpAny_call_entry bj_slot (typeIs_bytes _ _ _) bj_entry ?_ (bj_args _ _)
  have hT : s.TypeIs (.ref D) "list" := ⟨_, hD, rfl⟩
  show wpAny _ _ (Builtin.Bytes.joinItems (.ref D) >>= fun seq => _) _ _ s
  refine wpAny_bind ?_
  unfold Builtin.Bytes.joinItems
  refine wpAny_bind (wpAny_typeOf hT ?_)
  refine wpAny_pure ?_
  refine wpAny_bind (wpAny_seqItems hD rfl ?_)
  refine wpAny_bind (wpAny_of_eq (rfl : typeOf (.bytes c tc) = pure (.type "bytes")) ?_)
  exact wpAny_bind (wpAny_rule (wpAny_bind (wpAny_pure (wpAny_pure ⟨_, rfl, h⟩))))
  run_tac Mine.Sh.fin
theorem en_c (t u : Tok) : Builtin.«str.encode» ⟨[.str (Str.ofString "c") t, .str (Str.ofString "ascii") u], []⟩ = (mkBytes #[99] >>= fun v => ret v) := by kernel_rfl
theorem en_s (t u : Tok) : Builtin.«str.encode» ⟨[.str (Str.ofString "s") t, .str (Str.ofString "ascii") u], []⟩ = (mkBytes #[115] >>= fun v => ret v) := by kernel_rfl
theorem en_h (t u : Tok) : Builtin.«str.encode» ⟨[.str (Str.ofString "handshake") t, .str (Str.ofString "ascii") u], []⟩ = (mkBytes #[104, 97, 110, 100, 115, 104, 97, 107, 101] >>= fun v => ret v) := by kernel_rfl
theorem en_a (t u : Tok) : Builtin.«str.encode» ⟨[.str (Str.ofString "application") t, .str (Str.ofString "ascii") u], []⟩ = (mkBytes #[97, 112, 112, 108, 105, 99, 97, 116, 105, 111, 110] >>= fun v => ret v) := by kernel_rfl
theorem en_call {x : Str} {t u : Tok} {b : Array UInt8} {Q : Value → Shared → Prop} (he : Builtin.«str.encode» ⟨[.str x t, .str (Str.ofString "ascii") u], []⟩ = (mkBytes b >>= fun v => ret v)) (hb : b.size ≤ 1000) (h : Q (.bytes b s.toks) { s with toks := s.toks + 1 }) :
    wpAny (model prog w) A (call (.builtin "str.encode") [.str x t, .str (Str.ofString "ascii") u]) Q E s := by
  run_tac Mine.Sh.mark
  refine wpAny_call_entry en_slot (typeIs_str _ _ _) en_entry ?_ (en_args _ _)
  rw [he]
  unfold mkBytes
  rw [if_neg (by rw [sizeLine_eq]; omega)]
  exact wpAny_bind (wpAny_bind (wpAny_fresh (wpAny_pure (wpAny_pure ⟨_, rfl, h⟩))))
  run_tac Mine.Sh.fin
end
end
-- TI
section
open PySem.Calls
section
variable {prog : Program} {w : World} {A : Around} {E : Value → Shared → Prop} {s : Shared}
theorem ti_index {T : Addr} {o : Obj} {a b c x : Str} {ta tb tc tx : Tok} {n : Nat} {j : Int} {Q : Value → Shared → Prop} (ho : s.heap.get? T = some o) (hc : o.cls = .type "tuple") (hd : o.data = .seq #[.str a ta, .str b tb, .str c tc] n)
    (hx : (x = a ∧ j = 0) ∨ (a ≠ x ∧ x = b ∧ j = 1) ∨ (a ≠ x ∧ b ≠ x ∧ x = c ∧ j = 2)) (h : Q (.int j s.toks) { s with toks := s.toks + 1 }) :
    wpAny (model prog w) A (call (.builtin "tuple.index") [.ref T, .str x tx]) Q E s := by
  run_tac Mine.Sh.mark
  have hT : s.TypeIs (.ref T) "tuple" := ⟨o, ho, hc⟩
  refine wpAny_call_entry F.slot_tuple_index hT F.entry_tuple_index ?_ (F.args_tuple_index_2 _ _)
  unfold Builtin.«tuple.index»
  refine wpAny_bind (wpAny_of_eq (show selfAndSome "tuple.index" "index" 1 3 ⟨[Value.ref T, Value.str x tx], []⟩ = pure (Value.ref T, [Value.str x tx]) from rfl) ?_)
  dsimp only
  refine wpAny_bind ?_
  unfold Builtin.Tuple.tupleItemsOf
  refine wpAny_bind (wpAny_seqItems ho hd (wpAny_pure ?_))
  refine wpAny_bind (wpAny_pure (wpAny_bind (wpAny_pure ?_)))
  rw [Std.Legacy.Range.forIn_eq_forIn_range']
  have hr : List.range' [:min #[Value.str a ta, Value.str b tb, Value.str c tc].size #[Value.str a ta, Value.str b tb, Value.str c tc].size].start
              [:min #[Value.str a ta, Value.str b tb, Value.str c tc].size #[Value.str a ta, Value.str b tb, Value.str c tc].size].size
              [:min #[Value.str a ta, Value.str b tb, Value.str c tc].size #[Value.str a ta, Value.str b tb, Value.str c tc].size].step = [0, 1, 2] := by simp [Std.Legacy.Range.size, List.range']
  rw [hr]
  have e0 : (#[Value.str a ta, Value.str b tb, Value.str c tc] : Array Value)[0]? = some (Value.str a ta) := rfl
  have e1 : (#[Value.str a ta, Value.str b tb, Value.str c tc] : Array Value)[1]? = some (Value.str b tb) := rfl
  have e2 : (#[Value.str a ta, Value.str b tb, Value.str c tc] : Array Value)[2]? = some (Value.str c tc) := rfl
  simp only [List.forIn_cons, e0, e1, e2]
  rcases hx with ⟨rfl, rfl⟩ | ⟨h1, rfl, rfl⟩ | ⟨h1, h2, rfl, rfl⟩
  · refine wpAny_bind (wpAny_bind (wpAny_bind (wpAny_eqBool_str ?_)))
    rw [if_pos (by simp)]
    refine wpAny_bind (wpAny_bind (wpAny_mkInt ?_))
    exact wpAny_pure (wpAny_pure (wpAny_pure (wpAny_pure ⟨_, rfl, h⟩)))
  · refine wpAny_bind (wpAny_bind (wpAny_bind (wpAny_eqBool_str ?_)))
    rw [if_neg (by simp [h1])]
    refine wpAny_pure ?_
    refine wpAny_bind (wpAny_bind (wpAny_eqBool_str ?_))
    rw [if_pos (by simp)]
    refine wpAny_bind (wpAny_bind (wpAny_mkInt ?_))
    exact wpAny_pure (wpAny_pure (wpAny_pure (wpAny_pure ⟨_, rfl, h⟩)))
  · refine wpAny_bind (wpAny_bind (wpAny_bind (wpAny_eqBool_str ?_)))
    rw [if_neg (by simp [h1])]
    refine wpAny_pure ?_
    refine wpAny_bind (wpAny_bind (wpAny_eqBool_str ?_))
    rw [if_neg (by simp [h2])]
    refine wpAny_pure ?_
    refine wpAny_bind (wpAny_bind (wpAny_eqBool_str ?_))
    rw [if_pos (by simp)]
    refine wpAny_bind (wpAny_bind (wpAny_mkInt ?_))
    exact wpAny_pure (wpAny_pure (wpAny_pure (wpAny_pure ⟨_, rfl, h⟩)))
  run_tac Mine.Sh.fin
theorem ti_method {M : Model} {T : Addr} {o : Obj} {pl : Sem Bool} {Q : Value × List Value → Shared → Prop} (ho : s.heap.get? T = some o) (hc : o.cls = .type "tuple") (hd : o.dict = none) (h : Q (.builtin "tuple.index", [.ref T]) s) : wpAny M A (getMethod (.ref T) "index" pl) Q E s :=
  getMethod_builtin ⟨o, ho, hc⟩ F.plainAttrs_tuple F.slot_tuple_index F.type_tuple_index (fun a e => by cases e; exact ⟨o, ho, hd⟩) h
theorem ti_method_K {M : Model} {K : Frag} {h₀ : Heap} {L T : Addr} {m : Str → Option Value} {tc : Value} {its : Array Value} {n : Nat} {sl : Array (Option Value)} {pl : Sem Bool} {Q : Value × List Value → Shared → Prop} (F : Fr h₀ L s.heap m) (X₀ : K.In h₀)
    (e : K.lookup T = some ⟨tc, none, .seq its n, sl⟩) (hc : tc = .type "tuple") (h : Q (.builtin "tuple.index", [.ref T]) s) : wpAny M A (getMethod (.ref T) "index" pl) Q E s :=
  ti_method ((X₀.keeps F.keep) _ _ e) hc rfl h
theorem ti_index_K {K : Frag} {h₀ : Heap} {L T : Addr} {m : Str → Option Value} {tc : Value} {od : Option Addr} {its : Array Value} {n : Nat} {sl : Array (Option Value)} {a b c x : Str} {ta tb tcc tx : Tok} {j : Int} {Q : Value → Shared → Prop} (F : Fr h₀ L s.heap m) (X₀ : K.In h₀)
    (e : K.lookup T = some ⟨tc, od, .seq its n, sl⟩) (hc : tc = .type "tuple") (hi : its = #[.str a ta, .str b tb, .str c tcc])
    (hx : (x = a ∧ j = 0) ∨ (a ≠ x ∧ x = b ∧ j = 1) ∨ (a ≠ x ∧ b ≠ x ∧ x = c ∧ j = 2)) (h : Q (.int j s.toks) { s with toks := s.toks + 1 }) :
    wpAny (model prog w) A (call (.builtin "tuple.index") [.ref T, .str x tx]) Q E s :=
  ti_index ((X₀.keeps F.keep) _ _ e) hc (by rw [hi]) hx h
end
end
-- BE
section
open PySem.Calls
theorem bInts_inj {b c : Array UInt8} (h : KBw.bInts b = KBw.bInts c) : b.toList = c.toList := by
  run_tac Mine.Sh.mark
  have : ∀ (x y : List UInt8), x.map (fun c => ((c.toNat : Nat) : Int)) = y.map (fun c => ((c.toNat : Nat) : Int)) → x = y := by
    intro x
    induction x with
    | nil => intro y hy; cases y with
      | nil => rfl
      | cons _ _ => simp at hy
    | cons a r ih =>
      intro y hy
      cases y with
      | nil => simp at hy
      | cons a' r' =>
        simp only [List.map_cons, List.cons.injEq] at hy
        have e : a.toNat = a'.toNat := by omega
        rw [UInt8.toNat_inj.mp e, ih r' hy.2]
  exact this _ _ h
  run_tac Mine.Sh.fin
section
variable {prog : Program} {w : World} {A : Around} {E : Value → Shared → Prop} {s : Shared} {h₀ : Heap} {L l : Addr} {news : List (Addr × Obj)} {b c : Array UInt8} {t u : Tok}
theorem notin_same {n : Nat} {ks : List Int} {Q : Value → Shared → Prop} (N : News h₀ L s.heap news) (hm : (l, { cls := .type "list", data := .seq #[.bytes c u] n }) ∈ news) (hb : KBw.bInts b = ks) (hc : KBw.bInts c = ks) (h : Q (.bool false) s) :
    wpAny (model prog w) A (compareOp .NotIn (.bytes b t) (.ref l)) Q E s := by
  run_tac Mine.Sh.mark
  refine SeqInW.notIn_listW (fun _ => true) (fun y hy => ?_) (PySem.IsL.isList (n := n) (N _ hm).1) (by simpa using h)
  have e : y = .bytes c u := by simpa using hy
  subst e
  intro prog w A E s Q hq
  refine eqBool_bytes ?_
  rw [decide_eq_true (bInts_inj (hc.trans hb.symm))]
  exact hq
  run_tac Mine.Sh.fin
theorem ne_same {ks : List Int} {Q : Value → Shared → Prop} (hb : KBw.bInts b = ks) (hc : KBw.bInts c = ks) (h : Q (.bool false) s) : wpAny (model prog w) A (compareOp .NotEq (.bytes b t) (.bytes c u)) Q E s := by
  refine ne_bytes ?_
  rw [bInts_inj (hb.trans hc.symm)]
  simpa using h
end
end
-- M2
section
noncomputable def ConL (d : Nat) (w : World) (f : Addr) (vs : List Value) (news : List (Addr × Obj)) (Ret : Value → List (Addr × Obj) → Prop) : Prop :=
  ∀ (mean : ExcName → Option Value) (mg mb : Str → Option Value) (dp un : Nat) (gd : Option (List Code)) (cn : Str) (cs : Scope) (a : Addr) (ccd : Value) (cl : List (Str × Addr)) (outer : List Env) (A₀ : Around) (base h₀ : Heap) (L : Addr) (m : Str → Option Value) (s : Shared) (Q E : Value → Shared → Prop),
   (hd.heap_39 w.params).In h₀ → Below A₀ base outer h₀ → Fr h₀ L s.heap m → News h₀ L s.heap news → Top hd.view_39 (looseW hd.view_39 [Str.ofString "SUM_PRIME", Str.ofString "AWAITED"]) mean mg mb h₀ → cs.kind = .function →
   dp + d < recursionLimit → un + 8 * d < cLine →
   (∀ (r : Value) (nw : List (Addr × Obj)) (h' : Heap) (tk' : Nat), Fr h₀ L h' m → News h₀ L h' nw → Ret r nw → Q r { s with heap := h', toks := tk' }) →
   wpAny (model Challenge.rw_pf0268_01.row.prog w) (ktrTop dp un gd cn cs L a ccd cl outer) (call (.ref f) vs) Q E s
noncomputable def ConP (d : Nat) (w : World) (f : Addr) (vs : List Value) (R : Value → Prop) : Prop :=
  ∀ (news : List (Addr × Obj)) (mean : ExcName → Option Value) (mg mb : Str → Option Value) (dp un : Nat) (gd : Option (List Code)) (cn : Str) (cs : Scope) (a : Addr) (ccd : Value) (cl : List (Str × Addr)) (outer : List Env) (A₀ : Around) (base h₀ : Heap) (L : Addr) (m : Str → Option Value) (s : Shared) (Q E : Value → Shared → Prop),
   (hd.heap_39 w.params).In h₀ → Below A₀ base outer h₀ → Fr h₀ L s.heap m → News h₀ L s.heap news → Top hd.view_39 (looseW hd.view_39 [Str.ofString "SUM_PRIME", Str.ofString "AWAITED"]) mean mg mb h₀ → cs.kind = .function →
   dp + d < recursionLimit → un + 8 * d < cLine →
   (∀ (r : Value) (h' : Heap) (tk' : Nat), Fr h₀ L h' m → News h₀ L h' news → R r → Q r { s with heap := h', toks := tk' }) →
   wpAny (model Challenge.rw_pf0268_01.row.prog w) (ktrTop dp un gd cn cs L a ccd cl outer) (call (.ref f) vs) Q E s
theorem useP {d : Nat} {w : World} {f : Addr} {vs : List Value} {R : Value → Prop} (C : ConP d w f vs R) {news : List (Addr × Obj)} {mean : ExcName → Option Value} {mg mb : Str → Option Value} {dp un : Nat} {gd : Option (List Code)} {cn : Str} {cs : Scope} {a : Addr} {ccd : Value} {cl : List (Str × Addr)} {outer : List Env} {A₀ : Around} {base h₀ : Heap} {L : Addr} {m : Str → Option Value} {s : Shared} {Q E : Value → Shared → Prop}
   (x1 : (hd.heap_39 w.params).In h₀) (x2 : Below A₀ base outer h₀) (x3 : Fr h₀ L s.heap m) (x4 : News h₀ L s.heap news) (x5 : Top hd.view_39 (looseW hd.view_39 [Str.ofString "SUM_PRIME", Str.ofString "AWAITED"]) mean mg mb h₀) (x6 : cs.kind = .function) (x7 : dp + d < recursionLimit) (x8 : un + 8 * d < cLine)
   (k : ∀ (r : Value) (h' : Heap) (tk' : Nat), Fr h₀ L h' m → News h₀ L h' news → R r → Q r { s with heap := h', toks := tk' }) :
   wpAny (model Challenge.rw_pf0268_01.row.prog w) (ktrTop dp un gd cn cs L a ccd cl outer) (call (.ref f) vs) Q E s := C _ _ _ _ _ _ _ _ _ _ _ _ _ _ _ _ _ _ _ _ _ x1 x2 x3 x4 x5 x6 x7 x8 k
theorem useL {d : Nat} {w : World} {f : Addr} {vs : List Value} {news : List (Addr × Obj)} {R : Value → List (Addr × Obj) → Prop} (C : ConL d w f vs news R) {mean : ExcName → Option Value} {mg mb : Str → Option Value} {dp un : Nat} {gd : Option (List Code)} {cn : Str} {cs : Scope} {a : Addr} {ccd : Value} {cl : List (Str × Addr)} {outer : List Env} {A₀ : Around} {base h₀ : Heap} {L : Addr} {m : Str → Option Value} {s : Shared} {Q E : Value → Shared → Prop}
   (x1 : (hd.heap_39 w.params).In h₀) (x2 : Below A₀ base outer h₀) (x3 : Fr h₀ L s.heap m) (x4 : News h₀ L s.heap news) (x5 : Top hd.view_39 (looseW hd.view_39 [Str.ofString "SUM_PRIME", Str.ofString "AWAITED"]) mean mg mb h₀) (x6 : cs.kind = .function) (x7 : dp + d < recursionLimit) (x8 : un + 8 * d < cLine)
   (k : ∀ (r : Value) (nw : List (Addr × Obj)) (h' : Heap) (tk' : Nat), Fr h₀ L h' m → News h₀ L h' nw → R r nw → Q r { s with heap := h', toks := tk' }) :
   wpAny (model Challenge.rw_pf0268_01.row.prog w) (ktrTop dp un gd cn cs L a ccd cl outer) (call (.ref f) vs) Q E s := C _ _ _ _ _ _ _ _ _ _ _ _ _ _ _ _ _ _ _ _ x1 x2 x3 x4 x5 x6 x7 x8 k
noncomputable def beVal (ks : List Int) : Int := ks.foldl (fun a k => a * 256 + k) 0
theorem beVal_snoc (ks : List Int) (k : Int) : beVal (ks ++ [k]) = beVal ks * 256 + k := by simp [beVal]
noncomputable def be : Nat → Int → List Int
  | 0, _ => []
  | k + 1, n => be k (n / 256) ++ [n % 256]
theorem be_length : ∀ (k : Nat) (n : Int), (be k n).length = k
  | 0, _ => rfl
  | k + 1, n => by simp [be, be_length k]
theorem be_in : ∀ (k : Nat) (n : Int), ∀ x ∈ be k n, 0 ≤ x ∧ x < 256
  | 0, _, x, h => nomatch h
  | k + 1, n, x, h => by
    rcases List.mem_append.mp h with h | h
    · exact be_in k _ x h
    · rw [List.mem_singleton.mp h]; omega
noncomputable def BytesOf (ks : List Int) (r : Value) : Prop := ∃ b t, r = .bytes b t ∧ KBw.bInts b = ks
theorem allLt_ne {d : Addr} : ∀ {l : List (Addr × Obj)}, AllLt d l → ∀ p ∈ l, p.1 ≠ d
  | [], _, _, hp => nomatch hp
  | q :: _, h, p, hp => by
    rcases List.mem_cons.mp hp with rfl | hp
    · exact Nat.ne_of_lt h.1
    · exact allLt_ne h.2 p hp
theorem rsh0 {prog : Program} {w : World} {A : Around} {E : Value → Shared → Prop} {s : Shared} {Q : Value → Shared → Prop} {a n : Int} {t u : Tok} (b : Int) (h0 : 0 ≤ a) (h1 : a < b) (hn : 0 ≤ n) (hb : (2 : Int) ^ n.toNat = b) (h : Q (.int 0 s.toks) { s with toks := s.toks + 1 }) :
    wpAny (model prog w) A (binaryOp .RShift (.int a t) (.int n u)) Q E s := by
  run_tac Mine.Sh.mark
  refine rshift_int hn ?_
  have e : a.fdiv (2 ^ n.toNat) = 0 := by
    rw [hb, Int.fdiv_eq_ediv_of_nonneg _ (by omega)]
    exact Int.ediv_eq_zero_of_lt h0 h1
  rw [e]
  exact h
  run_tac Mine.Sh.fin
noncomputable def never : Value → Shared → Prop := fun _ _ => False
noncomputable def ConG (d : Nat) (w : World) (f : Addr) (vs : List Value) (news : List (Addr × Obj)) (Ret : Value → List (Addr × Obj) → Prop) : Prop :=
  ∀ (mean : ExcName → Option Value) (mg mb : Str → Option Value) (dp un : Nat) (gd : Option (List Code)) (cn : Str) (cs : Scope) (a : Addr) (ccd : Value) (cl : List (Str × Addr)) (outer : List Env) (A₀ : Around) (base h₀ : Heap) (L : Addr) (m : Str → Option Value) (s : Shared) (Q : Value → Shared → Prop),
   (hd.heap_39 w.params).In h₀ → Below A₀ base outer h₀ → Fr h₀ L s.heap m → News h₀ L s.heap news → Top hd.view_39 (looseW hd.view_39 [Str.ofString "SUM_PRIME", Str.ofString "AWAITED"]) mean mg mb h₀ → cs.kind = .function →
   dp + d < recursionLimit → un + 8 * d < cLine →
   (∀ (r : Value) (nw : List (Addr × Obj)) (h' : Heap) (tk' : Nat), Fr h₀ L h' m → News h₀ L h' nw → Ret r nw → Q r { s with heap := h', toks := tk' }) →
   wpG (model Challenge.rw_pf0268_01.row.prog w) (ktrTop dp un gd cn cs L a ccd cl outer) (call (.ref f) vs) Q never s
noncomputable def ConGP (d : Nat) (w : World) (f : Addr) (vs : List Value) (R : Value → Prop) : Prop :=
  ∀ (news : List (Addr × Obj)) (mean : ExcName → Option Value) (mg mb : Str → Option Value) (dp un : Nat) (gd : Option (List Code)) (cn : Str) (cs : Scope) (a : Addr) (ccd : Value) (cl : List (Str × Addr)) (outer : List Env) (A₀ : Around) (base h₀ : Heap) (L : Addr) (m : Str → Option Value) (s : Shared) (Q : Value → Shared → Prop),
   (hd.heap_39 w.params).In h₀ → Below A₀ base outer h₀ → Fr h₀ L s.heap m → News h₀ L s.heap news → Top hd.view_39 (looseW hd.view_39 [Str.ofString "SUM_PRIME", Str.ofString "AWAITED"]) mean mg mb h₀ → cs.kind = .function →
   dp + d < recursionLimit → un + 8 * d < cLine →
   (∀ (r : Value) (h' : Heap) (tk' : Nat), Fr h₀ L h' m → News h₀ L h' news → R r → Q r { s with heap := h', toks := tk' }) →
   wpG (model Challenge.rw_pf0268_01.row.prog w) (ktrTop dp un gd cn cs L a ccd cl outer) (call (.ref f) vs) Q never s
theorem useG {d : Nat} {w : World} {f : Addr} {vs : List Value} {news : List (Addr × Obj)} {R : Value → List (Addr × Obj) → Prop} (C : ConG d w f vs news R) {mean : ExcName → Option Value} {mg mb : Str → Option Value} {dp un : Nat} {gd : Option (List Code)} {cn : Str} {cs : Scope} {a : Addr} {ccd : Value} {cl : List (Str × Addr)} {outer : List Env} {A₀ : Around} {base h₀ : Heap} {L : Addr} {m : Str → Option Value} {s : Shared} {Q E : Value → Shared → Prop}
   (x1 : (hd.heap_39 w.params).In h₀) (x2 : Below A₀ base outer h₀) (x3 : Fr h₀ L s.heap m) (x4 : News h₀ L s.heap news) (x5 : Top hd.view_39 (looseW hd.view_39 [Str.ofString "SUM_PRIME", Str.ofString "AWAITED"]) mean mg mb h₀) (x6 : cs.kind = .function) (x7 : dp + d < recursionLimit) (x8 : un + 8 * d < cLine)
   (k : ∀ (r : Value) (nw : List (Addr × Obj)) (h' : Heap) (tk' : Nat), Fr h₀ L h' m → News h₀ L h' nw → R r nw → Q r { s with heap := h', toks := tk' }) :
   wpG (model Challenge.rw_pf0268_01.row.prog w) (ktrTop dp un gd cn cs L a ccd cl outer) (call (.ref f) vs) Q E s := wpG_never (C _ _ _ _ _ _ _ _ _ _ _ _ _ _ _ _ _ _ _ x1 x2 x3 x4 x5 x6 x7 x8 k)
theorem useGP {d : Nat} {w : World} {f : Addr} {vs : List Value} {R : Value → Prop} (C : ConGP d w f vs R) {news : List (Addr × Obj)} {mean : ExcName → Option Value} {mg mb : Str → Option Value} {dp un : Nat} {gd : Option (List Code)} {cn : Str} {cs : Scope} {a : Addr} {ccd : Value} {cl : List (Str × Addr)} {outer : List Env} {A₀ : Around} {base h₀ : Heap} {L : Addr} {m : Str → Option Value} {s : Shared} {Q E : Value → Shared → Prop}
   (x1 : (hd.heap_39 w.params).In h₀) (x2 : Below A₀ base outer h₀) (x3 : Fr h₀ L s.heap m) (x4 : News h₀ L s.heap news) (x5 : Top hd.view_39 (looseW hd.view_39 [Str.ofString "SUM_PRIME", Str.ofString "AWAITED"]) mean mg mb h₀) (x6 : cs.kind = .function) (x7 : dp + d < recursionLimit) (x8 : un + 8 * d < cLine)
   (k : ∀ (r : Value) (h' : Heap) (tk' : Nat), Fr h₀ L h' m → News h₀ L h' news → R r → Q r { s with heap := h', toks := tk' }) :
   wpG (model Challenge.rw_pf0268_01.row.prog w) (ktrTop dp un gd cn cs L a ccd cl outer) (call (.ref f) vs) Q E s := wpG_never (C _ _ _ _ _ _ _ _ _ _ _ _ _ _ _ _ _ _ _ _ x1 x2 x3 x4 x5 x6 x7 x8 k)
section
variable {prog : Program} {w : World} {A : Around} {E : Value → Shared → Prop} {s : Shared}
theorem codeG_defN {R : Result → Shared → Prop} {A₀ : Around} {base h₀ : Heap} {outer : List Env} {L : Addr} {m mg mb : Str → Option Value} {env : Env} {news : List (Addr × Obj)} {K : Frag} {p : Program} {loose : List Str} {mean : ExcName → Option Value}
    {name qual : Str} {params : Arguments} {body : List Stmt} {scope : Scope} {dV kV doc pm cdv ct oc : Value} {an od : Option Addr} {osl : Array (Option Value)} {f : Addr} {args : Args} {binds : List (Str × Value)}
    (B : Below A₀ base outer h₀) (F : Fr h₀ L s.heap m) (X₀ : K.In h₀) (N : News h₀ L s.heap news) (T : Top p loose mean mg mb h₀) (hA : A.frames = some (env :: outer)) (hf : env.frame = some L) (hke : env.scope.kind = .function)
    (ho : K.lookup f = some ⟨oc, od, .func (fnOf name qual params body scope dV kV doc pm an cdv ct), osl⟩) (hcd : codeIn K cdv qual = true) (hroom : A.depth < recursionLimit)
    (hbind : BindsTo s (fnOf name qual params body scope dV kV doc pm an cdv ct) args binds) (hloc : ∀ y ∈ binds, scope.names.lookup y.1 = some .local)
    (h : ∀ g L' h₁ (tk : Nat) (Qb : Flow → Shared → Prop), Fr h₀ L g m → Fr g L' h₁ (fun y => binds.reverse.lookup y) → News g L' h₁ news → Below A base (env :: outer) g → K.In g → Top p loose mean mg mb g →
      (∀ fl s', LeaveK h₀ L m g R (match fl with | .ret v => v | _ => .none) s' → Qb fl s') →
      wpG (model prog w) (A.deeper (envOf qual scope L' f cdv)) (execs body (envOf qual scope L' f cdv)) Qb never { s with heap := h₁, toks := tk })
    (hco : scope.isCoroutine = false) (hgen : scope.isGenerator = false) (hk : scope.kind = .function)
    (hcell : ∀ x ∈ scope.names, x.2 ≠ .cell) : codeG (model prog w) A (.call (.ref f) args) R s :=
  codeG_def B F X₀ N T hA hf hke ho hcd hroom hbind hloc (fun g L' h₁ FG F' N' B' X' T' => wpG_never (h g L' h₁ _ _ FG F' N' B' X' T' fun fl s' hl => by cases fl <;> exact hl)) hco hgen hk hcell
end
noncomputable def msg (k : Int) (body : List Int) : List Int := be 1 k ++ be 3 body.length ++ body
noncomputable def fld (d : List Int) : List Int := be 2 d.length ++ d
noncomputable def tsumN (ks : List Int) : Int := ks.foldl (fun a k => (a * 1000003 + k + 1) % 2305843009213693951) 7
noncomputable def tsum (label tr : List Int) : List Int := be 8 (tsumN (label ++ tr))
theorem msg_length (k : Int) (body : List Int) : (msg k body).length = body.length + 4 := by simp only [msg, List.length_append, be_length]; omega
theorem fld_length (d : List Int) : (fld d).length = d.length + 2 := by simp only [fld, List.length_append, be_length]; omega
theorem tsum_length (a b : List Int) : (tsum a b).length = 8 := be_length _ _
theorem tsumN_in (ks : List Int) : 0 ≤ tsumN ks ∧ tsumN ks < 2305843009213693951 := by
  run_tac Mine.Sh.mark
  unfold tsumN
  have : ∀ (l : List Int) (a : Int), 0 ≤ a → a < 2305843009213693951 → 0 ≤ l.foldl (fun a k => (a * 1000003 + k + 1) % 2305843009213693951) a ∧ l.foldl (fun a k => (a * 1000003 + k + 1) % 2305843009213693951) a < 2305843009213693951 := by
    intro l
    induction l with
    | nil => intro a h0 h1; exact ⟨h0, h1⟩
    | cons x r ih => intro a h0 h1; exact ih ((a * 1000003 + x + 1) % 2305843009213693951) (by omega) (by omega)
  exact this ks 7 (by omega) (by omega)
  run_tac Mine.Sh.fin
theorem tsumN_snoc (ks : List Int) (k : Int) : tsumN (ks ++ [k]) = (tsumN ks * 1000003 + k + 1) % 2305843009213693951 := by simp [tsumN]
structure TS (pre : List Int) (v : Int) : Prop where
  eq : v = tsumN pre
  lo : 0 ≤ v
  hi : v < 2305843009213693951
theorem ts_start : TS [] 7 := ⟨rfl, by decide, by decide⟩
theorem ts_step {pre : List Int} {a k : Int} (h : TS pre a) : TS (pre ++ [k]) ((a * 1000003 + k + 1).fmod 2305843009213693951) := by
  rw [Int.fmod_eq_emod_of_nonneg _ (by decide)]
  exact ⟨by rw [tsumN_snoc, h.1], by omega, by omega⟩
structure GW (pre : List Int) (v : Int) : Prop where
  eq : v = beVal pre
  lo : 0 ≤ v
  h0 : pre.length = 0 → v = 0
  h1 : pre.length ≤ 1 → v < 256
  h2 : pre.length ≤ 2 → v < 65536
  h3 : v < 16777216
theorem gw_start : GW [] 0 := ⟨rfl, by decide, fun _ => rfl, fun _ => by decide, fun _ => by decide, by decide⟩
theorem gw_step {pre : List Int} {v k : Int} (h : GW pre v) (h0 : 0 ≤ k) (h1 : k < 256) (hl : pre.length < 3) : GW (pre ++ [k]) (v * 256 + k) := by
  run_tac Mine.Sh.mark
  obtain ⟨e, lo, a0, a1, a2, a3⟩ := h
  refine ⟨by rw [beVal_snoc, e], by omega, ?_, ?_, ?_, ?_⟩ <;> (try simp only [List.length_append, List.length_cons, List.length_nil]) <;> omega
  run_tac Mine.Sh.fin
end
-- M4
section
abbrev ent (w : World) (n : String) (t : Tok) (v : Value) : DictEntry := { hash := PyData.keyHash w.params (Str.ofString n), key := .str (Str.ofString n) t, val := v }
abbrev SD (w : World) (T : Nat → Tok) (role cfg st tr lo ky ev pp pr ic cf dr : Value) : Obj :=
  dictOf [ent w "role" (T 0) role, ent w "config" (T 1) cfg, ent w "state" (T 2) st, ent w "transcript" (T 3) tr, ent w "left_octets" (T 4) lo, ent w "keys" (T 5) ky, ent w "events" (T 6) ev,
    ent w "peer_params" (T 7) pp, ent w "protocol" (T 8) pr, ent w "is_complete" (T 9) ic, ent w "is_confirmed" (T 10) cf, ent w "dropped" (T 11) dr] 12
theorem ne_cls {h₀ h : Heap} {L : Addr} {news : List (Addr × Obj)} {a b : Addr} {oa ob : Obj} (N : News h₀ L h news) (ha : (a, oa) ∈ news) (hb : (b, ob) ∈ news) (hc : (oa.cls == ob.cls) = false) : a ≠ b := by
  rintro rfl
  have e := (N _ ha).1.symm.trans (N _ hb).1
  cases e
  simp at hc
theorem val_stored {K : Type} [DecidableEq K] (k : K) (v : Value) : ∀ kvs : List (K × Value), valueAt (stored kvs k v) k = some v := by
  run_tac Mine.Sh.mark
  intro kvs
  unfold stored valueAt
  split
  · rename_i h
    induction kvs with
    | nil => simp at h
    | cons x r ih =>
      simp only [List.map_cons]
      by_cases hx : x.1 = k
      · simp [hx]
      · have h' : r.any (fun kv => decide (kv.1 = k)) = true := by simpa [hx] using h
        rw [if_neg hx, List.find?_cons_of_neg (by simpa using hx)]
        exact ih h'
  · rename_i h
    rw [List.find?_append]
    have : kvs.find? (fun kv => decide (kv.1 = k)) = none := by
      rw [List.find?_eq_none]; intro x hx hk; exact h (List.any_eq_true.mpr ⟨x, hx, hk⟩)
    simp [this]
  run_tac Mine.Sh.fin
theorem stored_len {K : Type} [DecidableEq K] (k : K) (v : Value) (kvs : List (K × Value)) : (stored kvs k v).length ≤ kvs.length + 1 := by
  unfold stored; split <;> simp
theorem kd_get {prog : Program} {w : World} {A : Around} {E : Value → Shared → Prop} {s : Shared} {h₀ : Heap} {L d : Addr} {news : List (Addr × Obj)} {o : Obj} {kvs : List (Str × Value)} {k : Str} {t : Tok} {v : Value} {Q : Value → Shared → Prop} (N : News h₀ L s.heap news) (hp : (d, o) ∈ news) (hd : o.IsDictOf (strKind prog w) kvs) (hl : valueAt kvs k = some v) (h : Q v { s with toks := s.toks + 1 }) :
    wpAny (model prog w) A (getItem (.ref d) (.str k t)) Q E s :=
  have hD := kda_dict N hp hd
  wpAny_getItem_of (strKind_is _ _ _ _) hD.mapOf hl h
noncomputable def CheckOk (w : World) (st sp : Str) : Prop := ∀ (T : Nat → Tok) (x d : Addr) (ts tp : Tok) (role cfg tr lo ky ev pp pr ic cf dr : Value) (news : List (Addr × Obj)),
  (x, instObj 328 d) ∈ news → (d, SD w T role cfg (.str st ts) tr lo ky ev pp pr ic cf dr) ∈ news → ConL 6 w 234 [.ref x, .str sp tp] news (fun r nw => r = .none ∧ nw = news)
end
-- PWH
section
theorem oct (k : Int) : (((k.fmod 256).toNat.toUInt8.toNat : Nat) : Int) = k % 256 := by
  run_tac Mine.Sh.mark
  rw [Int.fmod_eq_emod_of_nonneg _ (by decide)]
  have h0 : 0 ≤ k % 256 := Int.emod_nonneg _ (by decide)
  have h1 : k % 256 < 256 := Int.emod_lt_of_pos _ (by decide)
  have h2 : (k % 256).toNat < 256 := by omega
  have : ((k % 256).toNat.toUInt8).toNat = (k % 256).toNat := by
    show (k % 256).toNat % 256 = _
    exact Nat.mod_eq_of_lt h2
  rw [this]; omega
  run_tac Mine.Sh.fin
theorem fm (k : Int) : k.fmod 256 = k % 256 := Int.fmod_eq_emod_of_nonneg _ (by decide)
theorem fd (k : Int) : k.fdiv 256 = k / 256 := Int.fdiv_eq_ediv_of_nonneg _ (by decide)
theorem ba_be1 (n : Int) : KBw.bInts ((Array.replicate (Int.toNat 1) 0).setIfInBounds (Int.toNat 0) (n.fmod 256).toNat.toUInt8) = be 1 n := by
  simp [KBw.bInts, fm, fd, be, List.replicate_succ]
  try omega
theorem ba_be2 (n : Int) : KBw.bInts (((Array.replicate (Int.toNat 2) 0).setIfInBounds (Int.toNat 1) (n.fmod 256).toNat.toUInt8).setIfInBounds (Int.toNat 0) ((n.fdiv 256).fmod 256).toNat.toUInt8) = be 2 n := by
  simp [KBw.bInts, fm, fd, be, List.replicate_succ]
  try omega
theorem ba_be3 (n : Int) : KBw.bInts ((((Array.replicate (Int.toNat 3) 0).setIfInBounds (Int.toNat 2) (n.fmod 256).toNat.toUInt8).setIfInBounds (Int.toNat 1) ((n.fdiv 256).fmod 256).toNat.toUInt8).setIfInBounds (Int.toNat 0) (((n.fdiv 256).fdiv 256).fmod 256).toNat.toUInt8) = be 3 n := by
  simp [KBw.bInts, fm, fd, be, List.replicate_succ]
  try omega
theorem ba_be8 (n : Int) : KBw.bInts (((((((((Array.replicate (Int.toNat 8) 0).setIfInBounds (Int.toNat 7) (n.fmod 256).toNat.toUInt8).setIfInBounds (Int.toNat 6) ((n.fdiv 256).fmod 256).toNat.toUInt8).setIfInBounds (Int.toNat 5) (((n.fdiv 256).fdiv 256).fmod 256).toNat.toUInt8).setIfInBounds (Int.toNat 4) ((((n.fdiv 256).fdiv 256).fdiv 256).fmod 256).toNat.toUInt8).setIfInBounds (Int.toNat 3) (((((n.fdiv 256).fdiv 256).fdiv 256).fdiv 256).fmod 256).toNat.toUInt8).setIfInBounds (Int.toNat 2) ((((((n.fdiv 256).fdiv 256).fdiv 256).fdiv 256).fdiv 256).fmod 256).toNat.toUInt8).setIfInBounds (Int.toNat 1) (((((((n.fdiv 256).fdiv 256).fdiv 256).fdiv 256).fdiv 256).fdiv 256).fmod 256).toNat.toUInt8).setIfInBounds (Int.toNat 0) ((((((((n.fdiv 256).fdiv 256).fdiv 256).fdiv 256).fdiv 256).fdiv 256).fdiv 256).fmod 256).toNat.toUInt8) = be 8 n := by
  simp [KBw.bInts, fm, fd, be, List.replicate_succ]
  try omega
end
-- RM
section
theorem room_lt {x a b c : Nat} (h : x + c < recursionLimit) (e : a + b ≤ c) : x + a + b < recursionLimit := by omega
theorem room_lt0 {x b c : Nat} (h : x + c < recursionLimit) (e : b ≤ c) : x + b < recursionLimit := by omega
theorem units_lt {x a b c : Nat} (h : x + 8 * c < cLine) (e : a + 8 * b ≤ 8 * c) : x + a + 8 * b < cLine := by omega
theorem units_lt0 {x b c : Nat} (h : x + 8 * c < cLine) (e : b ≤ c) : x + 8 * b < cLine := by omega
theorem room_lt1 {x c : Nat} (h : x + c < recursionLimit) : x < recursionLimit := by omega
end
local macro_rules | `(tactic| walk_at $s:str) => `(tactic| k_extra $s)
local macro_rules | `(tactic| k_mem) => `(tactic| k_extra "k_mem")
local macro_rules | `(tactic| k_ne) => `(tactic| k_extra "k_ne")
local macro_rules | `(tactic| k_all) => `(tactic| k_extra "k_all")
local macro_rules | `(tactic| ktr_room) => `(tactic| k_extra "ktr_room")
local macro_rules | `(tactic| ktr_units) => `(tactic| k_extra "ktr_units")
theorem line_common : True := by
  k_with_none
  k_with "InvEndN" => (k_dflt kst_close)
  k_with "M args" => ((
      (case x1 => k_asm)
      (case x2 => k_asm)
      (case x3 => k_asm)
      (case x4 => k_asm)
      (case x5 => k_asm)
      (case x6 => first | exact rfl | assumption)
      (case x7 => ktr_room)
      (case x8 => ktr_units)))
  k_with "M len" => ((first | omega | (simp only [List.length_append, List.length_cons, List.length_nil, be_length, msg_length, fld_length, tsum_length, KBw.ints_list, List.length_map] at *; omega)))
  k_with "M ints" => ((first | with_reducible assumption | kba_ints2))
  k_with "M pre" => ((first | omega | with_reducible assumption | exact TS.lo (by with_reducible assumption) | exact Int.lt_trans (TS.hi (by with_reducible assumption)) (by decide) | kba_ints2 | walk_at "M len"))
  k_with "M bytes" => ((
      intro r9 h9 tk9 F9 N9 hR
      obtain ⟨b9, t9, e9, hB9⟩ := hR
      subst e9))
  k_with "binaryOp Add bytes bytes" => ((
      k_here
      k_dflt (refine KBa.add_K (by walk_at "M ints") (by walk_at "M ints") (by walk_at "M len") ?_)
      intro _ _ kbaApp))
  k_with "exec For Name BinOp cons nil" => ((k_here; (rename Fr _ _ _ _ => lF'); (with_unfolding_all refine' For_invVF lF' ?k1 ?k2 ?_; (case k1 => exact rfl); (case k2 => exact rfl); k_whole)))
  k_with "exec For Name Subscript cons nil" => ((k_here; (rename Fr _ _ _ _ => lF'); (with_unfolding_all refine' For_invVF lF' ?k1 ?k2 ?_; (case k1 => exact rfl); (case k2 => exact rfl); k_whole)))
  k_with "G leaf" => ((refine wpG_any ?_))
  k_with "G entered" => ((
      (case kA => exact rfl)
      (case kF => exact rfl)
      (case kK => first | assumption | exact rfl)
      (case k1 => k_asm)
      (case k2 => k_asm)
      (case k3 => k_asm)
      (case k4 => k_asm)
      (case k5 => k_asm)
      (case k6 => k_is)
      (case k7 => k_is)
      (case k8 => ktr_room)
      (case k9 => exact BindsTo.of_eq rfl)
      (case c5 => decide)
      (case kB => exact locs rfl)
      (case c2 => exact rfl)
      (case c3 => exact rfl)
      (case c4 => exact rfl)
      k_whole
      intro g' L' h' tk' Qb' FG' F' N' B' X' T' hQb'
      (try dsimp only [List.reverse, List.reverseAux] at F')
      (try dsimp only)
      (try k_lift B')))
  k_with "wpG" => ((
      first
      | ((with_reducible show wpG _ _ (execs _ _) _ _ _); first
        | (with_reducible refine wpG_execs_cons ?_)
        | (with_reducible refine wpG_execs_nil ?_))
      | ((with_reducible show wpG _ _ (exec _ _) _ _ _); first
        | (with_reducible refine wpG_Return_some ?_)
        | ((with_reducible show wpG _ _ (exec (Stmt.Assign [Expr.Name _ _] _ _) _) _ _ _); k_dflt (refine' wpG_Assign_Name ?_ ?hs; (case hs => with_unfolding_all rfl)))
        | ((with_reducible show wpG _ _ (exec (Stmt.Assign [Expr.Attribute _ _ _] _ _) _) _ _ _); k_dflt (refine' wpG_Assign_Attribute ?_ ?hs; (case hs => with_unfolding_all rfl)))
        | ((with_reducible show wpG _ _ (exec (Stmt.Assign [Expr.Subscript _ _ _] _ _) _) _ _ _); (with_reducible show wpG _ _ (exec (Stmt.Assign [Expr.Subscript _ _ _] (Expr.Call _ _ _ _) _) _) _ _ _); k_dflt (refine' wpG_Assign_Subscript ?_ ?hs; (case hs => with_unfolding_all rfl)))
        | ((with_reducible show wpG _ _ (exec (Stmt.Expr (Expr.Call _ _ _ _) _) _) _ _ _); k_dflt (refine' wpG_Expr_any ?_ ?hi ?hs; (case hi => with_unfolding_all rfl); (case hs => with_unfolding_all rfl)))
        | (with_reducible refine wpG_If ?_))
      | ((with_reducible show wpG _ _ (isTrue _ _ _) _ _ _); first
        | ((with_reducible show wpG _ _ (isTrue (Expr.Compare _ [_] [Expr.Call _ _ _ _] _) _ _) _ _ _); k_dflt (refine' wpG_isTrue_Compare1 ?_ ?hm; (case hm => with_unfolding_all rfl)))
        | ((with_reducible show wpG _ _ (isTrue (Expr.Compare (Expr.Call (Expr.Attribute _ _ _) [] _ _) [_] [_] _) _ _) _ _ _); k_dflt (refine' wpG_isTrue_Compare1 ?_ ?hm; (case hm => with_unfolding_all rfl))))
      | ((with_reducible show wpG _ _ (eval _ _) _ _ _); first
        | ((with_reducible show wpG _ _ (eval (Expr.BinOp _ _ _ _) _) _ _ _); (with_reducible refine wpG_BinOp ?_))
        | ((with_reducible show wpG _ _ (eval (Expr.IfExp _ _ _ _) _) _ _ _); (with_reducible refine wpG_IfExp ?_))
        | (with_reducible refine wpG_Call_ofName ?_)
        | ((with_reducible show wpG _ _ (eval (Expr.Call (Expr.Attribute _ _ _) _ [] _) _) _ _ _); k_dflt (refine' wpG_MethodCall ?_ ?he; (case he => with_unfolding_all rfl))))
      | ((with_reducible show wpG _ _ (callWith _ _ _ _ _) _ _ _); first
        | ((with_reducible show wpG _ _ (callWith _ (Value.ref _) _ (backTo _ (starEach (_ :: _) _)) _) _ _ _); k_dflt (refine' wpG_callWith_K ?k1 ?k2 ?_; (case k1 => k_asm); (case k2 => k_is); k_whole))
        | ((with_reducible show wpG _ _ (callWith _ (Value.ref _) _ (backTo _ (starEach [] _)) _) _ _ _); k_dflt (refine' wpG_callWith_K0 ?k1 ?k2 ?_; (case k1 => k_in); (case k2 => k_is); k_whole))
        | ((with_reducible show wpG _ _ (callWith _ (Value.type "bytearray") _ _ _) _ _ _); k_dflt (refine wpG_callWith_type1 ?_))
        | ((with_reducible show wpG _ _ (callWith _ (Value.builtin "list.append") _ _ _) _ _ _); k_dflt (refine wpG_callWith_b1 ?_))
        | ((with_reducible show wpG _ _ (callWith _ (Value.builtin "list.extend") _ _ _) _ _ _); k_dflt (refine wpG_callWith_b1 ?_))
        | ((with_reducible show wpG _ _ (callWith _ (Value.builtin "bytes.join") _ _ _) _ _ _); k_dflt (refine wpG_callWith_b1 ?_)))
      | ((with_reducible show wpG _ _ (spliced _) _ _ _); first
        | (k_dflt (refine wpG_items_cons ?_))
        | (k_dflt (refine wpG_items_nil ?_)))
      | ((with_reducible show wpG _ _ (call _ _) _ _ _); first
        | ((with_reducible show wpG _ _ (call (Value.type "bytearray") _) _ _ _); k_dflt (refine' ba_call_K ?F ?N ?p0 ?p1 ?_; (case F => k_asm); (case N => k_asm); (case p0 => decide); (case p1 => decide); k_whole; intro S' h' F' N' l1; (try k_lt l1); (try k_sweep)))
        | walk_at "G call"
        | ((fail_if_success (first | (with_reducible show wpG _ _ (call (Value.ref 206) _) _ _ _) | (with_reducible show wpG _ _ (call (Value.ref 248) _) _ _ _) | (with_reducible show wpG _ _ (call (Value.ref 262) _) _ _ _) | (with_reducible show wpG _ _ (call (Value.ref 255) _) _ _ _) | (with_reducible show wpG _ _ (call (Value.ref 276) _) _ _ _) | (with_reducible show wpG _ _ (call (Value.ref 241) _) _ _ _) | (with_reducible show wpG _ _ (call (Value.ref 178) _) _ _ _) | (with_reducible show wpG _ _ (call (Value.ref 213) _) _ _ _) | (with_reducible show wpG _ _ (call (Value.ref 353) _) _ _ _) | (with_reducible show wpG _ _ (call (Value.ref 346) _) _ _ _) | (with_reducible show wpG _ _ (call (Value.ref 157) _) _ _ _) | (with_reducible show wpG _ _ (call (Value.ref 68) _) _ _ _))); refine wpG_any ?_))
      | ((fail_if_success (with_reducible show wpG _ _ (call _ _) _ _ _)); refine wpG_any ?_)))
  k_with "G call" => (fail "no contract")
  k_with "setItem ref int" => ((k_here; (with_reducible show wpAny _ _ (setItem (Value.ref _) (Value.int _ _) (Value.int _ _)) _ _ _); k_dflt (refine' ba_setItem_K ?F ?N ?U ?z ?p0 ?p1 ?q0 ?q1 ?_; (case F => k_asm); (case N => k_asm); (case U => k_updF); (case z => walk_at "G num"); (case p0 => walk_at "G num"); (case p1 => walk_at "G num"); (case q0 => walk_at "G num"); (case q1 => walk_at "G num"); k_whole); intro h' F' N'; (try dsimp only at N'); (try k_sweep)))
  k_with "call type:bytes" => ((k_here; (with_reducible show wpAny _ _ (call (Value.type "bytes") [Value.ref _]) _ _ _); k_dflt (refine' ba_bytes_K ?N ?m ?z ?_; (case N => k_asm); (case m => k_mem); (case z => walk_at "G num")); intro t' tk'))
  k_with "G num" => ((first | decide | omega | (simp only [Array.size_replicate, Array.size_setIfInBounds]; first | decide | omega) | (rw [Int.fmod_eq_emod_of_nonneg _ (by decide)]; omega)))
  k_with "G steps" => (repeat' (first | (k_unfold; (try dsimp only)) | walk1 | (dsimp only; walk1) | (leave1; walk_say "STEP leave1"; (try dsimp only)) | ((rename (∀ (fl : Flow) (s' : Shared), LeaveK _ _ _ _ _ _ s' → _) => hQ'); refine hQ' _ _ ?_; (try dsimp only)) | fail "no step"))
  k_with "k_all" => (exact allLt_ne (by first | assumption | exact And.right (by assumption) | exact And.right (And.right (by assumption)) | exact And.right (And.right (And.right (by assumption)))))
  k_with "UnrEnd" => ((k_here; k_dflt (refine' ⟨_, _, _, _, rfl, ?e1, ?e2, ?e3, ?_⟩; (case e1 => assumption); (case e2 => assumption); (case e3 => k_all))))
  k_with "binaryOp RShift int int" => ((k_here; k_dflt (first
      | refine rsh0 256 (by omega) (by omega) (by decide) (by decide) ?_
      | refine rsh0 65536 (by omega) (by omega) (by decide) (by decide) ?_
      | refine rsh0 16777216 (by omega) (by omega) (by decide) (by decide) ?_
      | refine rsh0 18446744073709551616 (by omega) (by omega) (by decide) (by decide) ?_)))
  k_with "ktr_room" => (first | (k_dflt (exact room_lt (by assumption) (by decide))) | (k_dflt (exact room_lt0 (by assumption) (by decide))) | (k_dflt (exact room_lt1 (by assumption))))
  k_with "ktr_units" => (first | (k_dflt (exact units_lt (by assumption) (by decide))) | (k_dflt (exact units_lt0 (by assumption) (by decide))))
  k_with "eval Name" => ((k_here; (first
        | (name_kind "local"; k_dflt (refine' nameX_L ?F ?v ?_ ?a ?b; (case F => k_asm); (case a => rfl); (case b => rfl); (case v => rfl); k_whole))
        | (name_kind "globalImplicit"; name_is_builtin; k_dflt (refine' nameX_B ?F ?X ?T ?e ?v ?n ?_ ?a ?b; (case F => k_asm); (case X => k_asm); (case T => k_asm); (case a => rfl); (case b => rfl); (case e => k_is); (case v => first | boot_by_name | boot_fast); (case n => decide); k_whole))
        | (name_kind "globalImplicit"; k_dflt (refine' nameX_K ?F ?X ?T ?e ?_ ?a ?b; (case F => k_asm); (case X => k_asm); (case T => k_asm); (case a => rfl); (case b => rfl); (case e => k_is); k_whole)))))
  k_with "execs cons" => (((k_dflt (refine wpAny_restate (s₀ := s) rfl ?_)); intro tkf; (with_reducible refine wpAny_execs_cons ?_)))
  k_with "wpG" => (((with_reducible show wpG _ _ (execs (_ :: _) _) _ _ _); (k_dflt (refine wpG_restate (s₀ := s) rfl ?_)); intro tkf; (with_reducible refine wpG_execs_cons ?_)))
  trivial
-- P1
section
theorem line_P1 : True := by
  w_top off
  run_tac Mine.Sh.keep 25
  trivial
theorem c_pw1 (w : World) (n : Int) (t1 t2 : Tok) (h0 : 0 ≤ n) (h1 : n < 256) : ConGP 2 w 68 [.int n t1, .int 1 t2] (BytesOf (be 1 n)) := by
  run_tac Mine.Sh.mark
  unfold ConGP
  k_fill
  intro news mean mg mb dp un gd cn cs a ccd cl outer A₀ base h₀ L m s Q X B F N T hk hd1 hu1 hret
  refine wpG_call ?_
  k_dflt (refine' codeG_defN (binds := [(Str.ofString "n", .int n t1), (Str.ofString "size", .int 1 t2)]) ?k1 ?k2 ?k3 ?k4 ?k5 ?kA ?kF ?kK ?k6 ?k7 ?k8 ?k9 ?kB ?_ ?c2 ?c3 ?c4 ?c5; walk_at "G entered")
  walk_at "G steps"
  all_goals (refine hret _ _ _ ?e1 ?e2 ⟨_, _, rfl, ?e3⟩; (case e1 => k_asm); (case e3 => exact ba_be1 n); (case e2 => exact fun p hp => (by assumption : News h₀ L _ _) p (List.mem_cons_of_mem _ hp)))
  run_tac Mine.Sh.fin
theorem c_pw2 (w : World) (n : Int) (t1 t2 : Tok) (h0 : 0 ≤ n) (h1 : n < 65536) : ConGP 2 w 68 [.int n t1, .int 2 t2] (BytesOf (be 2 n)) := by
  run_tac Mine.Sh.mark
  unfold ConGP
  k_fill
  intro news mean mg mb dp un gd cn cs a ccd cl outer A₀ base h₀ L m s Q X B F N T hk hd1 hu1 hret
  refine wpG_call ?_
  k_dflt (refine' codeG_defN (binds := [(Str.ofString "n", .int n t1), (Str.ofString "size", .int 2 t2)]) ?k1 ?k2 ?k3 ?k4 ?k5 ?kA ?kF ?kK ?k6 ?k7 ?k8 ?k9 ?kB ?_ ?c2 ?c3 ?c4 ?c5; walk_at "G entered")
  walk_at "G steps"
  all_goals (refine hret _ _ _ ?e1 ?e2 ⟨_, _, rfl, ?e3⟩; (case e1 => k_asm); (case e3 => exact ba_be2 n); (case e2 => exact fun p hp => (by assumption : News h₀ L _ _) p (List.mem_cons_of_mem _ hp)))
  run_tac Mine.Sh.fin
theorem c_pw3 (w : World) (n : Int) (t1 t2 : Tok) (h0 : 0 ≤ n) (h1 : n < 16777216) : ConGP 2 w 68 [.int n t1, .int 3 t2] (BytesOf (be 3 n)) := by
  run_tac Mine.Sh.mark
  unfold ConGP
  k_fill
  intro news mean mg mb dp un gd cn cs a ccd cl outer A₀ base h₀ L m s Q X B F N T hk hd1 hu1 hret
  refine wpG_call ?_
  k_dflt (refine' codeG_defN (binds := [(Str.ofString "n", .int n t1), (Str.ofString "size", .int 3 t2)]) ?k1 ?k2 ?k3 ?k4 ?k5 ?kA ?kF ?kK ?k6 ?k7 ?k8 ?k9 ?kB ?_ ?c2 ?c3 ?c4 ?c5; walk_at "G entered")
  walk_at "G steps"
  all_goals (refine hret _ _ _ ?e1 ?e2 ⟨_, _, rfl, ?e3⟩; (case e1 => k_asm); (case e3 => exact ba_be3 n); (case e2 => exact fun p hp => (by assumption : News h₀ L _ _) p (List.mem_cons_of_mem _ hp)))
  run_tac Mine.Sh.fin
theorem c_pw8 (w : World) (n : Int) (t1 t2 : Tok) (h0 : 0 ≤ n) (h1 : n < 18446744073709551616) : ConGP 2 w 68 [.int n t1, .int 8 t2] (BytesOf (be 8 n)) := by
  run_tac Mine.Sh.mark
  unfold ConGP
  k_fill
  intro news mean mg mb dp un gd cn cs a ccd cl outer A₀ base h₀ L m s Q X B F N T hk hd1 hu1 hret
  refine wpG_call ?_
  k_dflt (refine' codeG_defN (binds := [(Str.ofString "n", .int n t1), (Str.ofString "size", .int 8 t2)]) ?k1 ?k2 ?k3 ?k4 ?k5 ?kA ?kF ?kK ?k6 ?k7 ?k8 ?k9 ?kB ?_ ?c2 ?c3 ?c4 ?c5; walk_at "G entered")
  walk_at "G steps"
  all_goals (refine hret _ _ _ ?e1 ?e2 ⟨_, _, rfl, ?e3⟩; (case e1 => k_asm); (case e3 => exact ba_be8 n); (case e2 => exact fun p hp => (by assumption : News h₀ L _ _) p (List.mem_cons_of_mem _ hp)))
  run_tac Mine.Sh.fin
end
-- P2
section
theorem line_P2 : True := by
  w_top off
  run_tac Mine.Sh.keep 25
  k_with "G bytes" => ((
      intro r9 h9 tk9 F9 N9 hR
      obtain ⟨b9, t9, e9, hB9⟩ := hR
      subst e9))
  k_with "G call" => ((
      (with_reducible show wpG _ _ (call (Value.ref 68) _) _ _ _)
      k_dflt (
       (first
       | refine' useGP (c_pw2 _ _ _ _ ?p0 ?p1) ?x1 ?x2 ?x3 ?x4 ?x5 ?x6 ?x7 ?x8 ?_
       | refine' useGP (c_pw1 _ _ _ _ ?p0 ?p1) ?x1 ?x2 ?x3 ?x4 ?x5 ?x6 ?x7 ?x8 ?_
       | refine' useGP (c_pw3 _ _ _ _ ?p0 ?p1) ?x1 ?x2 ?x3 ?x4 ?x5 ?x6 ?x7 ?x8 ?_
       | refine' useGP (c_pw8 _ _ _ _ ?p0 ?p1) ?x1 ?x2 ?x3 ?x4 ?x5 ?x6 ?x7 ?x8 ?_)
       walk_at "M args"
       (case p0 => walk_at "M pre")
       (case p1 => walk_at "M pre")
       walk_at "G bytes")))
  trivial
theorem c_put_field (w : World) (b : Array UInt8) (tb : Tok) (ks : List Int) (hb : KBw.bInts b = ks) (hz : ks.length < 65536) : ConGP 4 w 103 [.bytes b tb] (BytesOf (fld ks)) := by
  run_tac Mine.Sh.mark
  unfold ConGP
  k_fill
  intro news mean mg mb dp un gd cn cs a ccd cl outer A₀ base h₀ L m s Q X B F N T hk hd1 hu1 hret
  refine wpG_call ?_
  k_dflt (refine' codeG_defN (binds := [(Str.ofString "data", .bytes b tb)]) ?k1 ?k2 ?k3 ?k4 ?k5 ?kA ?kF ?kK ?k6 ?k7 ?k8 ?k9 ?kB ?_ ?c2 ?c3 ?c4 ?c5; walk_at "G entered")
  walk_at "G steps"
  all_goals (refine hret _ _ _ ?e1 ?e2 ⟨_, _, rfl, ?e3⟩; (case e1 => k_asm); (case e2 => k_asm); (case e3 => assumption))
  run_tac Mine.Sh.fin
theorem c_put_message (w : World) (k : Int) (t : Tok) (b : Array UInt8) (tb : Tok) (ks : List Int) (hk0 : 0 ≤ k) (hk1 : k < 256) (hb : KBw.bInts b = ks) (hz : ks.length < 65536) : ConGP 4 w 89 [.int k t, .bytes b tb] (BytesOf (msg k ks)) := by
  run_tac Mine.Sh.mark
  unfold ConGP
  k_fill
  intro news mean mg mb dp un gd cn cs a ccd cl outer A₀ base h₀ L m s Q X B F N T hk hd1 hu1 hret
  refine wpG_call ?_
  k_dflt (refine' codeG_defN (binds := [(Str.ofString "kind", .int k t), (Str.ofString "body", .bytes b tb)]) ?k1 ?k2 ?k3 ?k4 ?k5 ?kA ?kF ?kK ?k6 ?k7 ?k8 ?k9 ?kB ?_ ?c2 ?c3 ?c4 ?c5; walk_at "G entered")
  walk_at "G steps"
  all_goals (refine hret _ _ _ ?e1 ?e2 ⟨_, _, rfl, ?e3⟩; (case e1 => k_asm); (case e2 => k_asm); (case e3 => assumption))
  run_tac Mine.Sh.fin
theorem c_toy_sum (w : World) (b c : Array UInt8) (tb tc : Tok) (ks ls : List Int) (hb : KBw.bInts b = ks) (hc : KBw.bInts c = ls) (hz : ks.length + ls.length < 65536) : ConGP 6 w 157 [.bytes b tb, .bytes c tc] (BytesOf (tsum ks ls)) := by
  run_tac Mine.Sh.mark
  unfold ConGP
  k_fill
  intro news mean mg mb dp un gd cn cs a ccd cl outer A₀ base h₀ L m s Q X B F N T hk hd1 hu1 hret
  k_with "state" => (first | exact ts_start | exact ts_step (by assumption))
  k_with "pyIter bytes" => k_state (fun pre found => TS pre found) "found"
  refine wpG_call ?_
  k_dflt (refine' codeG_defN (binds := [(Str.ofString "label", .bytes b tb), (Str.ofString "transcript", .bytes c tc)]) ?k1 ?k2 ?k3 ?k4 ?k5 ?kA ?kF ?kK ?k6 ?k7 ?k8 ?k9 ?kB ?_ ?c2 ?c3 ?c4 ?c5; walk_at "G entered")
  walk_at "G steps"
  all_goals (refine hret _ _ _ ?e1 ?e2 ⟨_, _, rfl, ?e3⟩; (case e1 => k_asm); (case e2 => k_asm); (case e3 => first | assumption | (rw [tsum]; rename TS _ _ => hT; rw [← hT.eq]; assumption)))
  run_tac Mine.Sh.fin
end
-- P3
section
noncomputable def shello (ks : List Int) : List Int := msg 2 (fld ks)
noncomputable def exts (ks ls : List Int) : List Int := msg 8 (fld ks ++ fld ls)
noncomputable def fin (ks ls : List Int) : List Int := msg 20 (tsum ks ls)
noncomputable def tkey (ks ls : List Int) : List Int := tsum ([107, 101, 121, 32] ++ ks) ls
noncomputable def chello (r p q : List Int) : List Int := msg 1 (fld r ++ fld (fld p) ++ fld q)
theorem line_P3 : True := by
  w_top off
  run_tac Mine.Sh.keep 25
  k_with "G bytes" => ((
      intro r9 h9 tk9 F9 N9 hR
      obtain ⟨b9, t9, e9, hB9⟩ := hR
      subst e9))
  k_with "G call" => ((
      (with_reducible show wpG _ _ (call (Value.ref 68) _) _ _ _)
      k_dflt (
       (first
       | refine' useGP (c_pw2 _ _ _ _ ?p0 ?p1) ?x1 ?x2 ?x3 ?x4 ?x5 ?x6 ?x7 ?x8 ?_
       | refine' useGP (c_pw1 _ _ _ _ ?p0 ?p1) ?x1 ?x2 ?x3 ?x4 ?x5 ?x6 ?x7 ?x8 ?_
       | refine' useGP (c_pw3 _ _ _ _ ?p0 ?p1) ?x1 ?x2 ?x3 ?x4 ?x5 ?x6 ?x7 ?x8 ?_
       | refine' useGP (c_pw8 _ _ _ _ ?p0 ?p1) ?x1 ?x2 ?x3 ?x4 ?x5 ?x6 ?x7 ?x8 ?_)
       walk_at "M args"
       (case p0 => walk_at "M pre")
       (case p1 => walk_at "M pre")
       walk_at "G bytes")))
  k_with "G call" => ((
      (with_reducible show wpG _ _ (call (Value.ref 103) _) _ _ _)
      k_dflt (
       refine' useGP (c_put_field _ _ _ _ ?p0 ?p1) ?x1 ?x2 ?x3 ?x4 ?x5 ?x6 ?x7 ?x8 ?_
       walk_at "M args"
       (case p0 => walk_at "M pre")
       (case p1 => walk_at "M pre")
       walk_at "G bytes")))
  k_with "G call" => ((
      (with_reducible show wpG _ _ (call (Value.ref 89) _) _ _ _)
      k_dflt (
       refine' useGP (c_put_message _ _ _ _ _ _ ?p0 ?p1 ?p2 ?p3) ?x1 ?x2 ?x3 ?x4 ?x5 ?x6 ?x7 ?x8 ?_
       walk_at "M args"
       (case p0 => walk_at "M pre")
       (case p1 => walk_at "M pre")
       (case p2 => walk_at "M pre")
       (case p3 => walk_at "M pre")
       walk_at "G bytes")))
  k_with "G call" => ((
      (with_reducible show wpG _ _ (call (Value.ref 157) _) _ _ _)
      k_dflt (
       refine' useGP (c_toy_sum _ _ _ _ _ _ _ ?p0 ?p1 ?p2) ?x1 ?x2 ?x3 ?x4 ?x5 ?x6 ?x7 ?x8 ?_
       walk_at "M args"
       (case p0 => walk_at "M pre")
       (case p1 => walk_at "M pre")
       (case p2 => walk_at "M pre")
       walk_at "G bytes")))
  trivial
theorem c_server_hello (w : World) (b : Array UInt8) (tb : Tok) (ks : List Int) (hb : KBw.bInts b = ks) (hz : ks.length < 60000) : ConGP 8 w 129 [.bytes b tb] (BytesOf (shello ks)) := by
  run_tac Mine.Sh.mark
  unfold ConGP
  k_fill
  intro news mean mg mb dp un gd cn cs a ccd cl outer A₀ base h₀ L m s Q X B F N T hk hd1 hu1 hret
  refine wpG_call ?_
  k_dflt (refine' codeG_defN (binds := [(Str.ofString "random", .bytes b tb)]) ?k1 ?k2 ?k3 ?k4 ?k5 ?kA ?kF ?kK ?k6 ?k7 ?k8 ?k9 ?kB ?_ ?c2 ?c3 ?c4 ?c5; walk_at "G entered")
  walk_at "G steps"
  all_goals (refine hret _ _ _ ?e1 ?e2 ⟨_, _, rfl, ?e3⟩; (case e1 => k_asm); (case e2 => k_asm); (case e3 => assumption))
  run_tac Mine.Sh.fin
theorem c_extensions (w : World) (b c : Array UInt8) (tb tc : Tok) (ks ls : List Int) (hb : KBw.bInts b = ks) (hc : KBw.bInts c = ls) (hz : ks.length + ls.length < 60000) : ConGP 8 w 143 [.bytes b tb, .bytes c tc] (BytesOf (exts ks ls)) := by
  run_tac Mine.Sh.mark
  unfold ConGP
  k_fill
  intro news mean mg mb dp un gd cn cs a ccd cl outer A₀ base h₀ L m s Q X B F N T hk hd1 hu1 hret
  refine wpG_call ?_
  k_dflt (refine' codeG_defN (binds := [(Str.ofString "protocol", .bytes b tb), (Str.ofString "params", .bytes c tc)]) ?k1 ?k2 ?k3 ?k4 ?k5 ?kA ?kF ?kK ?k6 ?k7 ?k8 ?k9 ?kB ?_ ?c2 ?c3 ?c4 ?c5; walk_at "G entered")
  walk_at "G steps"
  all_goals (refine hret _ _ _ ?e1 ?e2 ⟨_, _, rfl, ?e3⟩; (case e1 => k_asm); (case e2 => k_asm); (case e3 => assumption))
  run_tac Mine.Sh.fin
theorem c_finished (w : World) (b c : Array UInt8) (tb tc : Tok) (ks ls : List Int) (hb : KBw.bInts b = ks) (hc : KBw.bInts c = ls) (hz : ks.length + ls.length < 60000) : ConGP 8 w 164 [.bytes b tb, .bytes c tc] (BytesOf (fin ks ls)) := by
  run_tac Mine.Sh.mark
  unfold ConGP
  k_fill
  intro news mean mg mb dp un gd cn cs a ccd cl outer A₀ base h₀ L m s Q X B F N T hk hd1 hu1 hret
  refine wpG_call ?_
  k_dflt (refine' codeG_defN (binds := [(Str.ofString "label", .bytes b tb), (Str.ofString "transcript", .bytes c tc)]) ?k1 ?k2 ?k3 ?k4 ?k5 ?kA ?kF ?kK ?k6 ?k7 ?k8 ?k9 ?kB ?_ ?c2 ?c3 ?c4 ?c5; walk_at "G entered")
  walk_at "G steps"
  all_goals (refine hret _ _ _ ?e1 ?e2 ⟨_, _, rfl, ?e3⟩; (case e1 => k_asm); (case e2 => k_asm); (case e3 => assumption))
  run_tac Mine.Sh.fin
theorem c_toy_key (w : World) (b c : Array UInt8) (tb tc : Tok) (ks ls : List Int) (hb : KBw.bInts b = ks) (hc : KBw.bInts c = ls) (hz : ks.length + ls.length < 60000) : ConGP 8 w 171 [.bytes b tb, .bytes c tc] (BytesOf (tkey ks ls)) := by
  run_tac Mine.Sh.mark
  unfold ConGP
  k_fill
  intro news mean mg mb dp un gd cn cs a ccd cl outer A₀ base h₀ L m s Q X B F N T hk hd1 hu1 hret
  refine wpG_call ?_
  k_dflt (refine' codeG_defN (binds := [(Str.ofString "label", .bytes b tb), (Str.ofString "transcript", .bytes c tc)]) ?k1 ?k2 ?k3 ?k4 ?k5 ?kA ?kF ?kK ?k6 ?k7 ?k8 ?k9 ?kB ?_ ?c2 ?c3 ?c4 ?c5; walk_at "G entered")
  walk_at "G steps"
  all_goals (refine hret _ _ _ ?e1 ?e2 ⟨_, _, rfl, ?e3⟩; (case e1 => k_asm); (case e2 => k_asm); (case e3 => assumption))
  run_tac Mine.Sh.fin
end
-- P4
section
theorem line_P4 : True := by
  w_top off
  run_tac Mine.Sh.keep 25
  k_with "G bytes" => ((
      intro r9 h9 tk9 F9 N9 hR
      obtain ⟨b9, t9, e9, hB9⟩ := hR
      subst e9))
  k_with "G call" => ((
      (with_reducible show wpG _ _ (call (Value.ref 68) _) _ _ _)
      k_dflt (
       (first
       | refine' useGP (c_pw2 _ _ _ _ ?p0 ?p1) ?x1 ?x2 ?x3 ?x4 ?x5 ?x6 ?x7 ?x8 ?_
       | refine' useGP (c_pw1 _ _ _ _ ?p0 ?p1) ?x1 ?x2 ?x3 ?x4 ?x5 ?x6 ?x7 ?x8 ?_
       | refine' useGP (c_pw3 _ _ _ _ ?p0 ?p1) ?x1 ?x2 ?x3 ?x4 ?x5 ?x6 ?x7 ?x8 ?_
       | refine' useGP (c_pw8 _ _ _ _ ?p0 ?p1) ?x1 ?x2 ?x3 ?x4 ?x5 ?x6 ?x7 ?x8 ?_)
       walk_at "M args"
       (case p0 => walk_at "M pre")
       (case p1 => walk_at "M pre")
       walk_at "G bytes")))
  k_with "G call" => ((
      (with_reducible show wpG _ _ (call (Value.ref 103) _) _ _ _)
      k_dflt (
       refine' useGP (c_put_field _ _ _ _ ?p0 ?p1) ?x1 ?x2 ?x3 ?x4 ?x5 ?x6 ?x7 ?x8 ?_
       walk_at "M args"
       (case p0 => walk_at "M pre")
       (case p1 => walk_at "M pre")
       walk_at "G bytes")))
  k_with "G call" => ((
      (with_reducible show wpG _ _ (call (Value.ref 89) _) _ _ _)
      k_dflt (
       refine' useGP (c_put_message _ _ _ _ _ _ ?p0 ?p1 ?p2 ?p3) ?x1 ?x2 ?x3 ?x4 ?x5 ?x6 ?x7 ?x8 ?_
       walk_at "M args"
       (case p0 => walk_at "M pre")
       (case p1 => walk_at "M pre")
       (case p2 => walk_at "M pre")
       (case p3 => walk_at "M pre")
       walk_at "G bytes")))
  k_with "G call" => ((
      (with_reducible show wpG _ _ (call (Value.ref 157) _) _ _ _)
      k_dflt (
       refine' useGP (c_toy_sum _ _ _ _ _ _ _ ?p0 ?p1 ?p2) ?x1 ?x2 ?x3 ?x4 ?x5 ?x6 ?x7 ?x8 ?_
       walk_at "M args"
       (case p0 => walk_at "M pre")
       (case p1 => walk_at "M pre")
       (case p2 => walk_at "M pre")
       walk_at "G bytes")))
  k_with "k_mem" => (assumption)
  k_with "getMethod bytes" => ((k_here; (with_reducible refine bj_method ?_)))
  k_with "getMethod str" => ((k_here; (with_reducible refine en_method ?_)))
  k_with "call builtin:bytes.join" => ((k_here; k_dflt (refine' bj_one (News.get ?N ?m) ?_; (case N => k_asm); (case m => k_mem))))
  k_with "call builtin:str.encode" => ((k_here; k_dflt (first
      | (with_reducible refine' en_call (en_c _ _) ?hb ?_; (case hb => decide))
      | (with_reducible refine' en_call (en_s _ _) ?hb ?_; (case hb => decide))
      | (with_reducible refine' en_call (en_h _ _) ?hb ?_; (case hb => decide))
      | (with_reducible refine' en_call (en_a _ _) ?hb ?_; (case hb => decide)))))
  k_with "Exists" => ((k_here; k_dflt (refine' ⟨_, _, rfl, ?e1, ?e2, fun h'' tk'' F'' N'' l1 => ?_⟩; (case e1 => k_asm); (case e2 => k_asm); (try k_lt l1); (try k_sweep))))
  k_with "wpG" => ((
      (with_reducible show wpG _ _ (eval (Expr.ListComp _ _ _ _) _) _ _ _)
      k_dflt (refine' wpG_ListComp1 ?F ?N ?c1 ?c2 ?c3 ?c4 ?c5 ?c6 ?h ?hl ?_ ?hs; (case F => k_asm); (case N => k_asm); (case c1 => with_unfolding_all rfl); (case c2 => decide); (case c3 => rfl); (case c4 => decide); (case c5 => rfl); (case c6 => rfl); (case hs => intro _; with_unfolding_all rfl); (case h => (walk1; exact ⟨rfl, rfl⟩)); (case hl => k_mem); k_whole; intro I' oI' C' oC' D' mC' hp' tk' hO' hx' F' N')))
  trivial
theorem c_client_hello (w : World) (b c d : Array UInt8) (tb tc td : Tok) (ks ls ms : List Int) (p : Addr) (np : Nat) (news : List (Addr × Obj)) (hp : (p, W.listOf #[.bytes c tc] np) ∈ news) (hb : KBw.bInts b = ks) (hc : KBw.bInts c = ls) (hd : KBw.bInts d = ms) (hz : ks.length + ls.length + ms.length < 10000) :
    ConG 10 w 115 [.bytes b tb, .ref p, .bytes d td] news (fun r nw => nw = news ∧ BytesOf (chello ks ls ms) r) := by
  run_tac Mine.Sh.mark
  unfold ConG
  k_fill
  intro mean mg mb dp un gd cn cs a ccd cl outer A₀ base h₀ L m s Q X B F N T hk hd1 hu1 hret
  refine wpG_call ?_
  k_dflt (refine' codeG_defN (binds := [(Str.ofString "random", .bytes b tb), (Str.ofString "protocols", .ref p), (Str.ofString "params", .bytes d td)]) ?k1 ?k2 ?k3 ?k4 ?k5 ?kA ?kF ?kK ?k6 ?k7 ?k8 ?k9 ?kB ?_ ?c2 ?c3 ?c4 ?c5; walk_at "G entered")
  walk_at "G steps"
  all_goals (refine hret _ _ _ _ ?e1 ?e2 ⟨rfl, _, _, rfl, ?e3⟩; (case e1 => k_asm); (case e3 => assumption); (case e2 => exact fun p hp => (by assumption : News h₀ L _ (_ :: news)) p (List.mem_cons_of_mem _ hp)))
  run_tac Mine.Sh.fin
end
-- P5
section
theorem clip_lt {ks : List Int} {i n : Int} {p : Nat} (h : p < min (clipAt ks.length (i + n) - clipAt ks.length i) (ks.length - clipAt ks.length i)) (hi : 0 ≤ i) (hn : 0 ≤ n) (hn3 : n ≤ 3) (hin : i + n ≤ ks.length) : p < 3 := by
  run_tac Mine.Sh.mark
  obtain ⟨a, rfl⟩ := Int.eq_ofNat_of_zero_le hi
  obtain ⟨b, rfl⟩ := Int.eq_ofNat_of_zero_le hn
  rw [← Int.natCast_add, clipAt_nat, clipAt_nat] at h
  omega
  run_tac Mine.Sh.fin
theorem clip_eq {ks : List Int} {i n : Int} (hi : 0 ≤ i) (hn : 0 ≤ n) (hin : i + n ≤ ks.length) : List.take (clipAt ks.length (i + n) - clipAt ks.length i) (List.drop (clipAt ks.length i) ks) = (ks.drop i.toNat).take n.toNat := by
  run_tac Mine.Sh.mark
  obtain ⟨a, rfl⟩ := Int.eq_ofNat_of_zero_le hi
  obtain ⟨b, rfl⟩ := Int.eq_ofNat_of_zero_le hn
  rw [← Int.natCast_add, clipAt_nat, clipAt_nat]
  have e1 : min a ks.length = a := by omega
  have e2 : min (a + b) ks.length = a + b := by omega
  rw [e1, e2, show a + b - a = b by omega]
  rfl
  run_tac Mine.Sh.fin
theorem line_P5 : True := by
  w_top off
  run_tac Mine.Sh.keep 25
  trivial
theorem c_get_wholeP (w : World) (b : Array UInt8) (tb t1 t2 : Tok) (i n : Int) (ks : List Int)
   (hb : KBw.bInts b = ks) (hsz : ks.length ≤ 100000) (hi : 0 ≤ i) (hn : 0 ≤ n) (hn3 : n ≤ 3) (hin : i + n ≤ ks.length) :
   ConP 2 w 75 [.bytes b tb, .int i t1, .int n t2] (fun r => ∃ t, r = .int (beVal ((ks.drop i.toNat).take n.toNat)) t) := by
  run_tac Mine.Sh.mark
  unfold ConP
  k_fill
  intro news mean mg mb dp un gd cn cs a ccd cl outer A₀ base h₀ L m s Q E X B F N T hk hd1 hu1 hret
  k_with "state" => (first | exact gw_start | exact gw_step (by assumption) (by assumption) (by assumption) (clip_lt (by assumption) hi hn hn3 hin))
  k_with "pyIter bytes" => k_state (fun pre found => GW pre found) "found"
  refine wpAny_call ?_
  k_dflt cell_enter
  k_steps
  all_goals (rename GW _ _ => hG; have hE := hG.eq; clear hG; rw [clip_eq hi hn hin] at hE; subst hE; exact hret _ _ _ (by k_asm) (by k_asm) ⟨_, rfl⟩)
  run_tac Mine.Sh.fin
theorem beVal_foldl (l : List Int) : ∀ a : Int, l.foldl (fun a k => a * 256 + k) a = a * 256 ^ l.length + beVal l := by
  run_tac Mine.Sh.mark
  induction l with
  | nil => intro a; simp [beVal]
  | cons x r ih => intro a; simp only [List.foldl_cons, List.length_cons, beVal]; rw [ih, ih (0 * 256 + x)]; simp only [Int.zero_mul, Int.zero_add, Int.pow_succ, Int.add_mul, Int.mul_assoc, Int.mul_comm (256 : Int), Int.add_assoc]
  run_tac Mine.Sh.fin
theorem beVal_be2 (n : Int) (h0 : 0 ≤ n) (h1 : n < 65536) : beVal (be 2 n) = n := by simp only [be, beVal, List.nil_append, List.cons_append, List.foldl_cons, List.foldl_nil]; omega
theorem beVal_be3 (n : Int) (h0 : 0 ≤ n) (h1 : n < 16777216) : beVal (be 3 n) = n := by simp only [be, beVal, List.nil_append, List.cons_append, List.foldl_cons, List.foldl_nil]; omega
theorem at_take (pre mid post : List Int) (n : Nat) (hn : mid.length = n) : ((pre ++ (mid ++ post)).drop pre.length).take n = mid := by
  rw [List.drop_left]; subst hn; exact List.take_left
theorem c_get2 (w : World) {b : Array UInt8} {tb t1 t2 : Tok} {i : Int} {ks pre post : List Int} {m : Nat} (hb : KBw.bInts b = ks) (hks : ks = pre ++ (be 2 m ++ post)) (hm : m < 65536) (hsz : ks.length ≤ 100000) (hi : i = pre.length) :
   ConP 2 w 75 [.bytes b tb, .int i t1, .int 2 t2] (fun r => ∃ t, r = .int m t) := by
  run_tac Mine.Sh.mark
  have hl : i + 2 ≤ ks.length := by rw [hks, hi]; simp only [List.length_append, be_length]; omega
  have h := c_get_wholeP w b tb t1 t2 i 2 ks hb hsz (by omega) (by omega) (by omega) hl
  have e : beVal ((ks.drop i.toNat).take (2 : Int).toNat) = m := by
    rw [hks, hi]
    show beVal (((pre ++ (be 2 m ++ post)).drop pre.length).take 2) = m
    rw [at_take pre (be 2 m) post 2 (be_length _ _), beVal_be2 _ (by omega) (by omega)]
  rw [e] at h
  exact h
  run_tac Mine.Sh.fin
theorem c_get3 (w : World) {b : Array UInt8} {tb t1 t2 : Tok} {i : Int} {ks pre post : List Int} {m : Nat} (hb : KBw.bInts b = ks) (hks : ks = pre ++ (be 3 m ++ post)) (hm : m < 16777216) (hsz : ks.length ≤ 100000) (hi : i = pre.length) :
   ConP 2 w 75 [.bytes b tb, .int i t1, .int 3 t2] (fun r => ∃ t, r = .int m t) := by
  run_tac Mine.Sh.mark
  have hl : i + 3 ≤ ks.length := by rw [hks, hi]; simp only [List.length_append, be_length]; omega
  have h := c_get_wholeP w b tb t1 t2 i 3 ks hb hsz (by omega) (by omega) (by omega) hl
  have e : beVal ((ks.drop i.toNat).take (3 : Int).toNat) = m := by
    rw [hks, hi]
    show beVal (((pre ++ (be 3 m ++ post)).drop pre.length).take 3) = m
    rw [at_take pre (be 3 m) post 3 (be_length _ _), beVal_be3 _ (by omega) (by omega)]
  rw [e] at h
  exact h
  run_tac Mine.Sh.fin
theorem slice_eq {ks pre a post : List Int} {i j : Int} (h : ks = pre ++ (a ++ post)) (hi : i = pre.length) (hj : j = i + a.length) : List.take (clipAt ks.length j - clipAt ks.length i) (List.drop (clipAt ks.length i) ks) = a := by
  run_tac Mine.Sh.mark
  subst hj
  subst hi
  have hl : ks.length = pre.length + (a.length + post.length) := by rw [h]; simp only [List.length_append]
  rw [← Int.natCast_add, clipAt_nat, clipAt_nat, hl]
  have e1 : min pre.length (pre.length + (a.length + post.length)) = pre.length := by omega
  have e2 : min (pre.length + a.length) (pre.length + (a.length + post.length)) = pre.length + a.length := by omega
  rw [e1, e2, h, List.drop_left, show pre.length + a.length - pre.length = a.length by omega]
  exact List.take_left
  run_tac Mine.Sh.fin
end
-- P6
section
theorem line_P6 : True := by
  w_top off
  run_tac Mine.Sh.keep 25
  k_with "k_mem" => (assumption)
  k_with "getMethod bytes" => ((k_here; (with_reducible refine bj_method ?_)))
  k_with "getMethod str" => ((k_here; (with_reducible refine en_method ?_)))
  k_with "call builtin:bytes.join" => ((k_here; k_dflt (refine' bj_one (News.get ?N ?m) ?_; (case N => k_asm); (case m => k_mem))))
  k_with "call builtin:str.encode" => ((k_here; k_dflt (first
      | (with_reducible refine' en_call (en_c _ _) ?hb ?_; (case hb => decide))
      | (with_reducible refine' en_call (en_s _ _) ?hb ?_; (case hb => decide))
      | (with_reducible refine' en_call (en_h _ _) ?hb ?_; (case hb => decide))
      | (with_reducible refine' en_call (en_a _ _) ?hb ?_; (case hb => decide)))))
  k_with "call ref" => ((k_here; (with_reducible show wpAny _ _ (call (Value.ref 75) _) _ _ _); k_extra "M75"))
  k_with "WhlIf" => ((k_here; k_dflt (first
      | refine WhlIf.yes (by (rw [decide_eq_true_eq]; omega)) ?_
      | refine WhlIf.no (by (rw [decide_eq_false_iff_not]; omega)) ?_)))
  k_with "M fresh" => ((first | assumption | exact allLt_ne (allLt_of (by assumption)) | exact allLt_ne (by first | assumption | exact And.right (by assumption) | exact And.right (And.right (by assumption)) | exact And.right (And.right (And.right (by assumption))) | exact And.right (And.right (And.right (And.right (by assumption)))) | exact And.right (And.right (And.right (And.right (And.right (by assumption))))) | exact And.right (And.right (And.right (And.right (And.right (And.right (by assumption)))))) | exact And.right (And.right (And.right (And.right (And.right (And.right (And.right (by assumption))))))) | exact And.right (And.right (And.right (And.right (And.right (And.right (And.right (And.right (by assumption)))))))))))
  trivial
theorem c_read_fields1 (w : World) {bd : Array UInt8} {tb tm : Tok} {ks xa : List Int} (news : List (Addr × Obj)) (hB : KBw.bInts bd = ks) (hks : ks = fld xa) (hxa : xa.length < 2000) :
    ConL 4 w 110 [.bytes bd tb, .int 1 tm] news (fun r nw => ∃ S, r = .ref S ∧ ∃ bxa txa, nw = (S, LCg.lst [.bytes bxa txa]) :: news ∧ (∀ p ∈ news, p.1 ≠ S) ∧ KBw.bInts bxa = xa) := by
  run_tac Mine.Sh.mark
  have hk0 : ks = ([]) ++ (be 2 (xa.length : Nat) ++ (xa ++ ([] : List Int))) := by rw [hks]; simp [fld]
  have hs0 : ks = ([] ++ be 2 (xa.length : Nat)) ++ (xa ++ ([] : List Int)) := by rw [hks]; simp [fld]
  have hlen : ks.length = (xa.length + 2) := by rw [hks]; simp only [List.length_append, fld_length]; try omega
  unfold ConL
  k_fill
  intro mean mg mb dp un gd cn cs a ccd cl outer A₀ base h₀ L m s Q E X B F N T hk hd1 hu1 hret
  k_with "M75" => (first
    | (refine' useP (c_get2 w hB hk0 (by omega) (by omega) ?pi) ?x1 ?x2 ?x3 ?x4 ?x5 ?x6 ?x7 ?x8 ?_; (case pi => (simp only [List.length_append, fld_length, List.length_nil]; omega)); walk_at "M args"; (intro r9 h9 tk9 F9 N9 hR; obtain ⟨t9, e9⟩ := hR; subst e9)))
  refine wpAny_call ?_
  k_dflt cell_enter
  k_steps
  all_goals (
    rename News h₀ L _ _ => hN
    (rename KBw.bInts (KBy.picked _ _ _) = _ => f0)
    revert f0
    intro f0
    (have g0 := Eq.trans f0 (slice_eq hs0 (by simp only [List.length_append, fld_length, be_length, List.length_nil]; omega) (by omega)))
    exact hret _ _ _ _ (by k_asm) (show News h₀ L _ (_ :: news) from fun p hp => hN p (List.mem_cons_of_mem _ hp)) ⟨_, rfl, _, _, rfl, (by walk_at "M fresh"), g0⟩)
  run_tac Mine.Sh.fin
theorem c_read_fields1n (w : World) {bd : Array UInt8} {tb : Tok} {ks xa : List Int} (news : List (Addr × Obj)) (hB : KBw.bInts bd = ks) (hks : ks = fld xa) (hxa : xa.length < 2000) :
    ConL 4 w 110 [.bytes bd tb, .none] news (fun r nw => ∃ S, r = .ref S ∧ ∃ bxa txa, nw = (S, LCg.lst [.bytes bxa txa]) :: news ∧ (∀ p ∈ news, p.1 ≠ S) ∧ KBw.bInts bxa = xa) := by
  run_tac Mine.Sh.mark
  have hk0 : ks = ([]) ++ (be 2 (xa.length : Nat) ++ (xa ++ ([] : List Int))) := by rw [hks]; simp [fld]
  have hs0 : ks = ([] ++ be 2 (xa.length : Nat)) ++ (xa ++ ([] : List Int)) := by rw [hks]; simp [fld]
  have hlen : ks.length = (xa.length + 2) := by rw [hks]; simp only [List.length_append, fld_length]; try omega
  unfold ConL
  k_fill
  intro mean mg mb dp un gd cn cs a ccd cl outer A₀ base h₀ L m s Q E X B F N T hk hd1 hu1 hret
  k_with "M75" => (first
    | (refine' useP (c_get2 w hB hk0 (by omega) (by omega) ?pi) ?x1 ?x2 ?x3 ?x4 ?x5 ?x6 ?x7 ?x8 ?_; (case pi => (simp only [List.length_append, fld_length, List.length_nil]; omega)); walk_at "M args"; (intro r9 h9 tk9 F9 N9 hR; obtain ⟨t9, e9⟩ := hR; subst e9)))
  refine wpAny_call ?_
  k_dflt cell_enter
  k_steps
  all_goals (
    rename News h₀ L _ _ => hN
    (rename KBw.bInts (KBy.picked _ _ _) = _ => f0)
    revert f0
    intro f0
    (have g0 := Eq.trans f0 (slice_eq hs0 (by simp only [List.length_append, fld_length, be_length, List.length_nil]; omega) (by omega)))
    exact hret _ _ _ _ (by k_asm) (show News h₀ L _ (_ :: news) from fun p hp => hN p (List.mem_cons_of_mem _ hp)) ⟨_, rfl, _, _, rfl, (by walk_at "M fresh"), g0⟩)
  run_tac Mine.Sh.fin
theorem c_read_fields2 (w : World) {bd : Array UInt8} {tb tm : Tok} {ks xa xb : List Int} (news : List (Addr × Obj)) (hB : KBw.bInts bd = ks) (hks : ks = fld xa ++ fld xb) (hxa : xa.length < 2000) (hxb : xb.length < 2000) :
    ConL 4 w 110 [.bytes bd tb, .int 2 tm] news (fun r nw => ∃ S, r = .ref S ∧ ∃ bxa txa bxb txb, nw = (S, LCg.lst [.bytes bxa txa, .bytes bxb txb]) :: news ∧ (∀ p ∈ news, p.1 ≠ S) ∧ KBw.bInts bxa = xa ∧ KBw.bInts bxb = xb) := by
  run_tac Mine.Sh.mark
  have hk0 : ks = ([]) ++ (be 2 (xa.length : Nat) ++ (xa ++ (fld xb))) := by rw [hks]; simp [fld]
  have hs0 : ks = ([] ++ be 2 (xa.length : Nat)) ++ (xa ++ (fld xb)) := by rw [hks]; simp [fld]
  have hk1 : ks = (fld xa) ++ (be 2 (xb.length : Nat) ++ (xb ++ ([] : List Int))) := by rw [hks]; simp [fld]
  have hs1 : ks = (fld xa ++ be 2 (xb.length : Nat)) ++ (xb ++ ([] : List Int)) := by rw [hks]; simp [fld]
  have hlen : ks.length = (xa.length + 2) + (xb.length + 2) := by rw [hks]; simp only [List.length_append, fld_length]; try omega
  unfold ConL
  k_fill
  intro mean mg mb dp un gd cn cs a ccd cl outer A₀ base h₀ L m s Q E X B F N T hk hd1 hu1 hret
  k_with "M75" => (first
    | (refine' useP (c_get2 w hB hk0 (by omega) (by omega) ?pi) ?x1 ?x2 ?x3 ?x4 ?x5 ?x6 ?x7 ?x8 ?_; (case pi => (simp only [List.length_append, fld_length, List.length_nil]; omega)); walk_at "M args"; (intro r9 h9 tk9 F9 N9 hR; obtain ⟨t9, e9⟩ := hR; subst e9))
    | (refine' useP (c_get2 w hB hk1 (by omega) (by omega) ?pi) ?x1 ?x2 ?x3 ?x4 ?x5 ?x6 ?x7 ?x8 ?_; (case pi => (simp only [List.length_append, fld_length, List.length_nil]; omega)); walk_at "M args"; (intro r9 h9 tk9 F9 N9 hR; obtain ⟨t9, e9⟩ := hR; subst e9)))
  refine wpAny_call ?_
  k_dflt cell_enter
  k_steps
  all_goals (
    rename News h₀ L _ _ => hN
    (rename KBw.bInts (KBy.picked _ _ _) = _ => f1)
    revert f1
    (rename KBw.bInts (KBy.picked _ _ _) = _ => f0)
    revert f0
    intro f0 f1
    (have g0 := Eq.trans f0 (slice_eq hs0 (by simp only [List.length_append, fld_length, be_length, List.length_nil]; omega) (by omega)))
    (have g1 := Eq.trans f1 (slice_eq hs1 (by simp only [List.length_append, fld_length, be_length, List.length_nil]; omega) (by omega)))
    exact hret _ _ _ _ (by k_asm) (show News h₀ L _ (_ :: news) from fun p hp => hN p (List.mem_cons_of_mem _ hp)) ⟨_, rfl, _, _, _, _, rfl, (by walk_at "M fresh"), g0, g1⟩)
  run_tac Mine.Sh.fin
theorem c_read_fields3 (w : World) {bd : Array UInt8} {tb tm : Tok} {ks xa xb xc : List Int} (news : List (Addr × Obj)) (hB : KBw.bInts bd = ks) (hks : ks = fld xa ++ fld xb ++ fld xc) (hxa : xa.length < 2000) (hxb : xb.length < 2000) (hxc : xc.length < 2000) :
    ConL 4 w 110 [.bytes bd tb, .int 3 tm] news (fun r nw => ∃ S, r = .ref S ∧ ∃ bxa txa bxb txb bxc txc, nw = (S, LCg.lst [.bytes bxa txa, .bytes bxb txb, .bytes bxc txc]) :: news ∧ (∀ p ∈ news, p.1 ≠ S) ∧ KBw.bInts bxa = xa ∧ KBw.bInts bxb = xb ∧ KBw.bInts bxc = xc) := by
  run_tac Mine.Sh.mark
  have hk0 : ks = ([]) ++ (be 2 (xa.length : Nat) ++ (xa ++ (fld xb ++ fld xc))) := by rw [hks]; simp [fld]
  have hs0 : ks = ([] ++ be 2 (xa.length : Nat)) ++ (xa ++ (fld xb ++ fld xc)) := by rw [hks]; simp [fld]
  have hk1 : ks = (fld xa) ++ (be 2 (xb.length : Nat) ++ (xb ++ (fld xc))) := by rw [hks]; simp [fld]
  have hs1 : ks = (fld xa ++ be 2 (xb.length : Nat)) ++ (xb ++ (fld xc)) := by rw [hks]; simp [fld]
  have hk2 : ks = (fld xa ++ fld xb) ++ (be 2 (xc.length : Nat) ++ (xc ++ ([] : List Int))) := by rw [hks]; simp [fld]
  have hs2 : ks = (fld xa ++ fld xb ++ be 2 (xc.length : Nat)) ++ (xc ++ ([] : List Int)) := by rw [hks]; simp [fld]
  have hlen : ks.length = (xa.length + 2) + (xb.length + 2) + (xc.length + 2) := by rw [hks]; simp only [List.length_append, fld_length]; try omega
  unfold ConL
  k_fill
  intro mean mg mb dp un gd cn cs a ccd cl outer A₀ base h₀ L m s Q E X B F N T hk hd1 hu1 hret
  k_with "M75" => (first
    | (refine' useP (c_get2 w hB hk0 (by omega) (by omega) ?pi) ?x1 ?x2 ?x3 ?x4 ?x5 ?x6 ?x7 ?x8 ?_; (case pi => (simp only [List.length_append, fld_length, List.length_nil]; omega)); walk_at "M args"; (intro r9 h9 tk9 F9 N9 hR; obtain ⟨t9, e9⟩ := hR; subst e9))
    | (refine' useP (c_get2 w hB hk1 (by omega) (by omega) ?pi) ?x1 ?x2 ?x3 ?x4 ?x5 ?x6 ?x7 ?x8 ?_; (case pi => (simp only [List.length_append, fld_length, List.length_nil]; omega)); walk_at "M args"; (intro r9 h9 tk9 F9 N9 hR; obtain ⟨t9, e9⟩ := hR; subst e9))
    | (refine' useP (c_get2 w hB hk2 (by omega) (by omega) ?pi) ?x1 ?x2 ?x3 ?x4 ?x5 ?x6 ?x7 ?x8 ?_; (case pi => (simp only [List.length_append, fld_length, List.length_nil]; omega)); walk_at "M args"; (intro r9 h9 tk9 F9 N9 hR; obtain ⟨t9, e9⟩ := hR; subst e9)))
  refine wpAny_call ?_
  k_dflt cell_enter
  k_steps
  all_goals (
    rename News h₀ L _ _ => hN
    (rename KBw.bInts (KBy.picked _ _ _) = _ => f2)
    revert f2
    (rename KBw.bInts (KBy.picked _ _ _) = _ => f1)
    revert f1
    (rename KBw.bInts (KBy.picked _ _ _) = _ => f0)
    revert f0
    intro f0 f1 f2
    (have g0 := Eq.trans f0 (slice_eq hs0 (by simp only [List.length_append, fld_length, be_length, List.length_nil]; omega) (by omega)))
    (have g1 := Eq.trans f1 (slice_eq hs1 (by simp only [List.length_append, fld_length, be_length, List.length_nil]; omega) (by omega)))
    (have g2 := Eq.trans f2 (slice_eq hs2 (by simp only [List.length_append, fld_length, be_length, List.length_nil]; omega) (by omega)))
    exact hret _ _ _ _ (by k_asm) (show News h₀ L _ (_ :: news) from fun p hp => hN p (List.mem_cons_of_mem _ hp)) ⟨_, rfl, _, _, _, _, _, _, rfl, (by walk_at "M fresh"), g0, g1, g2⟩)
  run_tac Mine.Sh.fin
end
-- P7
section
theorem line_P7 : True := by
  w_top off
  run_tac Mine.Sh.keep 25
  k_with "ite" => ((k_here; k_openite; k_dflt (first
      | refine ite_neg (by (simp only [bne_iff_ne, beq_iff_eq, ne_eq, decide_eq_true_eq]; omega)) ?_
      | refine ite_pos (by (simp only [bne_iff_ne, beq_iff_eq, ne_eq, decide_eq_true_eq]; omega)) ?_)))
  k_with "M fresh" => ((first | assumption | exact allLt_ne (allLt_of (by assumption)) | exact allLt_ne (by first | assumption | exact And.right (by assumption) | exact And.right (And.right (by assumption)) | exact And.right (And.right (And.right (by assumption))) | exact And.right (And.right (And.right (And.right (by assumption)))) | exact And.right (And.right (And.right (And.right (And.right (by assumption))))) | exact And.right (And.right (And.right (And.right (And.right (And.right (by assumption)))))) | exact And.right (And.right (And.right (And.right (And.right (And.right (And.right (by assumption))))))) | exact And.right (And.right (And.right (And.right (And.right (And.right (And.right (And.right (by assumption)))))))))))
  k_with "call ref" => ((k_here; (with_reducible show wpAny _ _ (call (Value.ref 110) _) _ _ _); k_extra "M110"))
  trivial
theorem c_read_client_hello (w : World) {bd : Array UInt8} {tb : Tok} {ks xa xp xc : List Int} (news : List (Addr × Obj)) (hB : KBw.bInts bd = ks) (hks : ks = fld xa ++ fld (fld xp) ++ fld xc) (ha : xa.length = 8) (hp : xp.length < 1000) (hc : xc.length < 1000) :
    ConL 6 w 122 [.bytes bd tb] news (fun r nw => ∃ T S, r = .ref T ∧ ∃ ba ta bp tp bc tc k k2, nw = (T, { cls := .type "tuple", data := .seq #[.bytes ba ta, .ref S, .bytes bc tc] k }) :: (S, { cls := .type "list", data := .seq #[.bytes bp tp] k2 }) :: news ∧ (∀ p ∈ news, p.1 ≠ T) ∧ (∀ p ∈ news, p.1 ≠ S) ∧ KBw.bInts ba = xa ∧ KBw.bInts bp = xp ∧ KBw.bInts bc = xc) := by
  run_tac Mine.Sh.mark
  have hfp : (fld xp).length < 2000 := by rw [fld_length]; omega
  unfold ConL
  k_fill
  intro mean mg mb dp un gd cn cs a ccd cl outer A₀ base h₀ L m s Q E X B F N T hk hd1 hu1 hret
  k_with "M110" => (first
    | (refine' useL (c_read_fields3 w _ hB hks (by omega) hfp (by omega)) ?x1 ?x2 ?x3 ?x4 ?x5 ?x6 ?x7 ?x8 ?_; walk_at "M args"; (intro r9 nw9 h9 tk9 F9 N9 hR; obtain ⟨S9, e9, ba, ta, bb, tb, bc, tc, e8, hS1, g0, g1, g2⟩ := hR; subst e9; subst e8))
    | (refine' useL (c_read_fields1n w _ g1 rfl (by omega)) ?x1 ?x2 ?x3 ?x4 ?x5 ?x6 ?x7 ?x8 ?_; walk_at "M args"; (intro r9 nw9 h9 tk9 F9 N9 hR; obtain ⟨S9, e9, bp, tp, e8, hS2, g4⟩ := hR; subst e9; subst e8)))
  refine wpAny_call ?_
  k_dflt cell_enter
  k_steps
  all_goals (rename News h₀ L _ _ => hN; exact hret _ _ _ _ (by k_asm) (show News h₀ L _ (_ :: _ :: news) from fun p hp => by
    rcases List.mem_cons.mp hp with rfl | hp
    · exact hN _ (.head _)
    rcases List.mem_cons.mp hp with rfl | hp
    · exact hN _ (.tail _ (.head _))
    · exact hN _ (.tail _ (.tail _ (.tail _ hp)))) ⟨_, _, rfl, _, _, _, _, _, _, _, _, rfl, (by walk_at "M fresh"), (fun p hp => hS2 p (.tail _ hp)), g0, g4, g2⟩)
  run_tac Mine.Sh.fin
theorem c_read_server_hello (w : World) {bd : Array UInt8} {tb : Tok} {ks xa : List Int} (news : List (Addr × Obj)) (hB : KBw.bInts bd = ks) (hks : ks = fld xa) (ha : xa.length = 8) :
    ConL 6 w 136 [.bytes bd tb] news (fun r nw => nw = news) := by
  run_tac Mine.Sh.mark
  unfold ConL
  k_fill
  intro mean mg mb dp un gd cn cs a ccd cl outer A₀ base h₀ L m s Q E X B F N T hk hd1 hu1 hret
  k_with "M110" => (first
    | (refine' useL (c_read_fields1 w _ hB hks (by omega)) ?x1 ?x2 ?x3 ?x4 ?x5 ?x6 ?x7 ?x8 ?_; walk_at "M args"; (intro r9 nw9 h9 tk9 F9 N9 hR; obtain ⟨S9, e9, ba, ta, e8, hS1, g0⟩ := hR; subst e9; subst e8)))
  refine wpAny_call ?_
  k_dflt cell_enter
  k_steps
  all_goals (rename News h₀ L _ _ => hN; exact hret _ _ _ _ (by k_asm) (show News h₀ L _ news from fun p hp => by first | exact hN p hp | exact hN p (List.mem_cons_of_mem _ hp) | exact hN p (List.mem_cons_of_mem _ (List.mem_cons_of_mem _ hp))) rfl)
  run_tac Mine.Sh.fin
theorem c_read_extensions (w : World) {bd : Array UInt8} {tb : Tok} {ks xa xc : List Int} (news : List (Addr × Obj)) (hB : KBw.bInts bd = ks) (hks : ks = fld xa ++ fld xc) (ha : xa.length < 1000) (hc : xc.length < 1000) :
    ConL 6 w 150 [.bytes bd tb] news (fun r nw => ∃ T, r = .ref T ∧ ∃ ba ta bc tc k, nw = (T, { cls := .type "tuple", data := .seq #[.bytes ba ta, .bytes bc tc] k }) :: news ∧ KBw.bInts ba = xa ∧ KBw.bInts bc = xc) := by
  run_tac Mine.Sh.mark
  unfold ConL
  k_fill
  intro mean mg mb dp un gd cn cs a ccd cl outer A₀ base h₀ L m s Q E X B F N T hk hd1 hu1 hret
  k_with "M110" => (first
    | (refine' useL (c_read_fields2 w _ hB hks (by omega) (by omega)) ?x1 ?x2 ?x3 ?x4 ?x5 ?x6 ?x7 ?x8 ?_; walk_at "M args"; (intro r9 nw9 h9 tk9 F9 N9 hR; obtain ⟨S9, e9, ba, ta, bb, tb, e8, hS1, g0, g1⟩ := hR; subst e9; subst e8)))
  refine wpAny_call ?_
  k_dflt cell_enter
  k_steps
  all_goals (rename News h₀ L _ _ => hN; exact hret _ _ _ _ (by k_asm) (show News h₀ L _ (_ :: news) from fun p hp => by
    rcases List.mem_cons.mp hp with rfl | hp
    · exact hN _ (.head _)
    · exact hN _ (.tail _ (.tail _ hp))) ⟨_, rfl, _, _, _, _, _, rfl, g0, g1⟩)
  run_tac Mine.Sh.fin
end
-- P8
section
theorem allLt_lt {d : Addr} : ∀ {l : List (Addr × Obj)}, AllLt d l → ∀ p ∈ l, p.1 < d
  | [], _, _, hp => nomatch hp
  | q :: _, h, p, hp => by
    rcases List.mem_cons.mp hp with rfl | hp
    · exact h.1
    · exact allLt_lt h.2 p hp
theorem sub_1_2 {h₀ h : Heap} {L : Addr} {a b c : Addr × Obj} {l : List (Addr × Obj)} (N : News h₀ L h (a :: b :: c :: l)) : News h₀ L h (a :: c :: l) := fun p hp => by
  rcases List.mem_cons.mp hp with rfl | hp
  · exact N _ (.head _)
  · exact N _ (.tail _ (.tail _ hp))
theorem sub_2_2 {h₀ h : Heap} {L : Addr} {a b c d : Addr × Obj} {l : List (Addr × Obj)} (N : News h₀ L h (a :: b :: c :: d :: l)) : News h₀ L h (a :: d :: b :: l) := fun p hp => by
  rcases List.mem_cons.mp hp with rfl | hp
  · exact N _ (.head _)
  rcases List.mem_cons.mp hp with rfl | hp
  · exact N _ (.tail _ (.tail _ (.tail _ (.head _))))
  rcases List.mem_cons.mp hp with rfl | hp
  · exact N _ (.tail _ (.head _))
  · exact N _ (.tail _ (.tail _ (.tail _ (.tail _ hp))))
theorem slice_all (ks : List Int) : List.take (ks.length - clipAt ks.length 0) (List.drop (clipAt ks.length 0) ks) = ks := by
  have e : clipAt ks.length 0 = 0 := by rw [show (0 : Int) = ((0 : Nat) : Int) from rfl, clipAt_nat]; omega
  rw [e]; simp
theorem slice_end {ks : List Int} {j : Int} (hj : j = ks.length) : List.take (ks.length - clipAt ks.length j) (List.drop (clipAt ks.length j) ks) = [] := by
  subst hj
  rw [clipAt_nat]; simp
theorem line_P8 : True := by
  w_top off
  run_tac Mine.Sh.keep 25
  k_with "ite" => ((k_here; k_openite; k_dflt (first
      | refine ite_neg (by (simp only [bne_iff_ne, beq_iff_eq, ne_eq, decide_eq_true_eq]; omega)) ?_
      | refine ite_pos (by (simp only [bne_iff_ne, beq_iff_eq, ne_eq, decide_eq_true_eq]; omega)) ?_)))
  k_with "call ref" => ((k_here; (with_reducible show wpAny _ _ (call (Value.ref 75) _) _ _ _); k_extra "M75"))
  k_with "WhlIf" => ((k_here; k_dflt (first
      | refine WhlIf.yes (by (rw [decide_eq_true_eq]; omega)) ?_
      | refine WhlIf.no (by (rw [decide_eq_false_iff_not]; omega)) ?_)))
  trivial
theorem c_split_short (w : World) {bd : Array UInt8} {tb tm : Tok} {ks : List Int} {most : Int} (news : List (Addr × Obj)) (hB : KBw.bInts bd = ks) (hl : ks.length < 4) :
    ConL 4 w 96 [.bytes bd tb, .int most tm] news (fun r nw => ∃ T S, r = .ref T ∧ ∃ bl tl k k2, nw = (T, { cls := .type "tuple", data := .seq #[.ref S, .bytes bl tl] k }) :: (S, { cls := .type "list", data := .seq #[] k2 }) :: news ∧ KBw.bInts bl = ks) := by
  run_tac Mine.Sh.mark
  unfold ConL
  k_fill
  intro mean mg mb dp un gd cn cs a ccd cl outer A₀ base h₀ L m s Q E X B F N T hk hd1 hu1 hret
  refine wpAny_call ?_
  k_dflt cell_enter
  k_steps
  all_goals (
    rename News h₀ L _ _ => hN
    (rename KBw.bInts (KBy.picked _ _ _) = _ => f0)
    exact hret _ _ _ _ (by k_asm) (show News h₀ L _ (_ :: _ :: news) from sub_1_2 hN) ⟨_, _, rfl, _, _, _, _, rfl, f0.trans (slice_all _)⟩)
  run_tac Mine.Sh.fin
theorem c_split_head (w : World) {bd : Array UInt8} {tb tm : Tok} {ks : List Int} {k : Int} {m : Nat} {most : Int} (news : List (Addr × Obj)) (hB : KBw.bInts bd = ks) (hks : ks = [k] ++ (be 3 m ++ [])) (hm : 0 < m) (hm2 : m < 16777216) (hmost : m ≤ most) :
    ConL 4 w 96 [.bytes bd tb, .int most tm] news (fun r nw => ∃ T S, r = .ref T ∧ ∃ bl tl k k2, nw = (T, { cls := .type "tuple", data := .seq #[.ref S, .bytes bl tl] k }) :: (S, { cls := .type "list", data := .seq #[] k2 }) :: news ∧ KBw.bInts bl = ks) := by
  run_tac Mine.Sh.mark
  have hlen : ks.length = 4 := by rw [hks]; simp [be]
  unfold ConL
  k_fill
  intro mean mg mb dp un gd cn cs a ccd cl outer A₀ base h₀ L m s Q E X B F N T hk hd1 hu1 hret
  k_with "M75" => (refine' useP (c_get3 w hB hks (by omega) (by omega) (by simp)) ?x1 ?x2 ?x3 ?x4 ?x5 ?x6 ?x7 ?x8 ?_; walk_at "M args"; (intro r9 h9 tk9 F9 N9 hR; obtain ⟨t9, e9⟩ := hR; subst e9))
  refine wpAny_call ?_
  k_dflt cell_enter
  k_steps
  all_goals (
    rename News h₀ L _ _ => hN
    (rename KBw.bInts (KBy.picked _ _ _) = _ => f0)
    exact hret _ _ _ _ (by k_asm) (show News h₀ L _ (_ :: _ :: news) from sub_1_2 hN) ⟨_, _, rfl, _, _, _, _, rfl, f0.trans (slice_all _)⟩)
  run_tac Mine.Sh.fin
theorem c_split_whole (w : World) {bd : Array UInt8} {tb tm : Tok} {ks body : List Int} {k : Int} {most : Int} (news : List (Addr × Obj)) (hB : KBw.bInts bd = ks) (hks : ks = msg k body) (hm0 : 0 < body.length) (hm2 : body.length < 60000) (hmost : (body.length : Int) ≤ most) (hk0 : 0 ≤ k) (hk1 : k < 256) :
    ConL 4 w 96 [.bytes bd tb, .int most tm] news (fun r nw => ∃ T S U, r = .ref T ∧ ∃ bl tl kk bb tb bw tw tk k1 k2 k3, nw = (T, { cls := .type "tuple", data := .seq #[.ref S, .bytes bl tl] k1 }) :: (S, { cls := .type "list", data := .seq #[.ref U] k2 }) :: (U, { cls := .type "tuple", data := .seq #[.int kk tk, .bytes bb tb, .bytes bw tw] k3 }) :: news ∧ (∀ p ∈ news, p.1 < S) ∧ (∀ p ∈ news, p.1 ≠ T) ∧ (∀ p ∈ news, p.1 ≠ U) ∧ kk = k ∧ KBw.bInts bl = [] ∧ KBw.bInts bb = body ∧ KBw.bInts bw = ks) := by
  run_tac Mine.Sh.mark
  have hlen : ks.length = body.length + 4 := by rw [hks, msg_length]
  have hk3 : ks = [k] ++ (be 3 (body.length : Nat) ++ body) := by rw [hks, msg]; simp only [be, List.nil_append, List.append_assoc]; rw [Int.emod_eq_of_lt hk0 hk1]
  unfold ConL
  k_fill
  intro mean mg mb dp un gd cn cs a ccd cl outer A₀ base h₀ L m s Q E X B F N T hk hd1 hu1 hret
  k_with "M75" => (refine' useP (c_get3 w hB hk3 (by omega) (by omega) (by simp)) ?x1 ?x2 ?x3 ?x4 ?x5 ?x6 ?x7 ?x8 ?_; walk_at "M args"; (intro r9 h9 tk9 F9 N9 hR; obtain ⟨t9, e9⟩ := hR; subst e9))
  refine wpAny_call ?_
  k_dflt cell_enter
  k_steps
  all_goals (
    rename News h₀ L _ _ => hN
    (rename KBw.bInts (KBy.picked _ _ _) = _ => f2)
    revert f2
    (rename KBw.bInts (KBy.picked _ _ _) = _ => f1)
    revert f1
    (rename KBw.bInts (KBy.picked _ _ _) = _ => f0)
    intro f1 f2
    exact hret _ _ _ _ (by k_asm) (show News h₀ L _ (_ :: _ :: _ :: news) from sub_2_2 hN) ⟨_, _, _, rfl, _, _, _, _, _, _, _, _, _, _, _, rfl, (by first | assumption | exact allLt_lt (by assumption)), (by k_all), (by k_all), (by rw [hk3]; rfl), f2.trans (slice_end (by omega)), f0.trans (slice_eq (pre := [k] ++ be 3 (body.length : Nat)) (post := []) (by rw [hk3]; simp) (by simp [be_length]) (by omega)), f1.trans (slice_eq (pre := []) (post := []) (by simp) (by simp) (by omega))⟩)
  run_tac Mine.Sh.fin
end
-- P9
section
theorem line_P9 : True := by
  w_top off
  run_tac Mine.Sh.keep 25
  k_with "ite" => ((k_here; k_openite; k_dflt (first
      | refine ite_neg (by (simp only [bne_iff_ne, beq_iff_eq, ne_eq, decide_eq_true_eq]; omega)) ?_
      | refine ite_pos (by (simp only [bne_iff_ne, beq_iff_eq, ne_eq, decide_eq_true_eq]; omega)) ?_)))
  k_with "k_mem" => (assumption)
  k_with "getMethod ref" => ((k_here; (with_reducible show wpAny _ _ (getMethod (Value.ref _) (Str.ofString "index") _) _ _ _); k_dflt (refine' ti_method_K ?F ?X ?e ?c ?_; (case X => k_asm); (case F => k_asm); (case e => k_is); (case c => exact rfl))))
  k_with "call builtin:tuple.index" => ((k_here; k_dflt (refine' ti_index_K ?F ?X ?e ?c ?i ?h ?_; (case X => k_asm); (case F => k_asm); (case e => k_is); (case c => exact rfl); (case i => exact rfl); (case h => first | exact .inl ⟨rfl, rfl⟩ | exact .inr (.inl ⟨by decide, rfl, rfl⟩) | exact .inr (.inr ⟨by decide, by decide, rfl, rfl⟩)))))
  k_with "M enter" => ((
      refine' code_def ?k1 ?k2 ?k3 ?k4 ?k5 ?kA ?kF ?kK ?k6 ?k7 ?k8 ?k9 ?kB ?_ ?c2 ?c3 ?c4 ?c5
      (case kA => exact rfl)
      (case kF => exact rfl)
      (case kK => first | assumption | exact rfl)
      (case k1 => k_asm)
      (case k2 => k_asm)
      (case k3 => k_asm)
      (case k4 => k_asm)
      (case k5 => k_asm)
      (case k6 => k_is)
      (case k7 => k_is)
      (case k8 => walk_at "M room")
      (case k9 => exact BindsTo.of_eq rfl)
      (case c5 => decide)
      (case kB => exact locs rfl)
      (case c2 => exact rfl)
      (case c3 => exact rfl)
      (case c4 => exact rfl)
      k_whole
      intro g' L' h' FG' F' N' B' X' T'
      (try dsimp only)
      (try k_lift B')
      (try k_fold)))
  k_with "M room" => ((first | ktr_room | (show (_ : Nat) < _; simp only [Around.under, Around.deeper, ktrTop]; have hw : ∀ args, (Code.builtin "type.__call__" args).weight ≤ 1 := (by intro args; unfold Code.weight; (repeat' split) <;> simp_all [Code.isGuard, Code.isCaller, Code.frames, Code.isFrame]); omega)))
  k_with "call ref" => ((k_here; (with_reducible show wpAny _ _ (call (Value.ref 328) _) _ _ _); k_dflt ((refine' call_cls ?k1 ?k2 ?k3 ?k4 ?k5 ?k6 ?_; (case k1 => k_asm); (case k2 => k_asm); (case k3 => k_asm); (case k4 => k_is); (case k5 => k_is); (case k6 => k_is); k_whole; intro x' d' h' F' N' l1 l2; (try k_lt l1); (try k_lt2 l2); (try k_sweep); walk_at "M enter"))))
  k_with "call ref" => ((k_here; (first | (with_reducible show wpAny _ _ (call (Value.ref 227) _) _ _ _) | (with_reducible show wpAny _ _ (call (Value.ref 220) _) _ _ _)); k_dflt (refine wpAny_call ?_; walk_at "M enter")))
  trivial
theorem check_0 (w : World) : CheckOk w (Str.ofString "wait_client_hello") (Str.ofString "initial") := by
  run_tac Mine.Sh.mark
  intro T x d ts tp role cfg tr lo ky ev pp pr ic cf dr news hx hd
  unfold ConL
  k_fill
  intro mean mg mb dp un gd cn cs a ccd cl outer A₀ base h₀ L m s Q E X B F N T hk hd1 hu1 hret
  refine wpAny_call ?_
  k_dflt cell_enter
  k_steps
  all_goals (rename News h₀ L _ _ => hN; exact hret _ _ _ _ (by k_asm) hN ⟨rfl, rfl⟩)
  run_tac Mine.Sh.fin
theorem check_1 (w : World) : CheckOk w (Str.ofString "wait_server_hello") (Str.ofString "initial") := by
  run_tac Mine.Sh.mark
  intro T x d ts tp role cfg tr lo ky ev pp pr ic cf dr news hx hd
  unfold ConL
  k_fill
  intro mean mg mb dp un gd cn cs a ccd cl outer A₀ base h₀ L m s Q E X B F N T hk hd1 hu1 hret
  refine wpAny_call ?_
  k_dflt cell_enter
  k_steps
  all_goals (rename News h₀ L _ _ => hN; exact hret _ _ _ _ (by k_asm) hN ⟨rfl, rfl⟩)
  run_tac Mine.Sh.fin
theorem check_2 (w : World) : CheckOk w (Str.ofString "wait_extensions") (Str.ofString "handshake") := by
  run_tac Mine.Sh.mark
  intro T x d ts tp role cfg tr lo ky ev pp pr ic cf dr news hx hd
  unfold ConL
  k_fill
  intro mean mg mb dp un gd cn cs a ccd cl outer A₀ base h₀ L m s Q E X B F N T hk hd1 hu1 hret
  refine wpAny_call ?_
  k_dflt cell_enter
  k_steps
  all_goals (rename News h₀ L _ _ => hN; exact hret _ _ _ _ (by k_asm) hN ⟨rfl, rfl⟩)
  run_tac Mine.Sh.fin
theorem check_3 (w : World) : CheckOk w (Str.ofString "wait_server_finished") (Str.ofString "handshake") := by
  run_tac Mine.Sh.mark
  intro T x d ts tp role cfg tr lo ky ev pp pr ic cf dr news hx hd
  unfold ConL
  k_fill
  intro mean mg mb dp un gd cn cs a ccd cl outer A₀ base h₀ L m s Q E X B F N T hk hd1 hu1 hret
  refine wpAny_call ?_
  k_dflt cell_enter
  k_steps
  all_goals (rename News h₀ L _ _ => hN; exact hret _ _ _ _ (by k_asm) hN ⟨rfl, rfl⟩)
  run_tac Mine.Sh.fin
theorem check_4 (w : World) : CheckOk w (Str.ofString "wait_client_finished") (Str.ofString "handshake") := by
  run_tac Mine.Sh.mark
  intro T x d ts tp role cfg tr lo ky ev pp pr ic cf dr news hx hd
  unfold ConL
  k_fill
  intro mean mg mb dp un gd cn cs a ccd cl outer A₀ base h₀ L m s Q E X B F N T hk hd1 hu1 hret
  refine wpAny_call ?_
  k_dflt cell_enter
  k_steps
  all_goals (rename News h₀ L _ _ => hN; exact hret _ _ _ _ (by k_asm) hN ⟨rfl, rfl⟩)
  run_tac Mine.Sh.fin
end
-- P10
section
theorem line_P10 : True := by
  w_top off
  run_tac Mine.Sh.keep 25
  k_with "ite" => ((k_here; k_openite; k_dflt (first
      | refine ite_neg (by (simp only [bne_iff_ne, beq_iff_eq, ne_eq, decide_eq_true_eq]; omega)) ?_
      | refine ite_pos (by (simp only [bne_iff_ne, beq_iff_eq, ne_eq, decide_eq_true_eq]; omega)) ?_)))
  k_with "k_mem" => (assumption)
  k_with "M enter" => ((
      refine' code_def ?k1 ?k2 ?k3 ?k4 ?k5 ?kA ?kF ?kK ?k6 ?k7 ?k8 ?k9 ?kB ?_ ?c2 ?c3 ?c4 ?c5
      (case kA => exact rfl)
      (case kF => exact rfl)
      (case kK => first | assumption | exact rfl)
      (case k1 => k_asm)
      (case k2 => k_asm)
      (case k3 => k_asm)
      (case k4 => k_asm)
      (case k5 => k_asm)
      (case k6 => k_is)
      (case k7 => k_is)
      (case k8 => walk_at "M room")
      (case k9 => exact BindsTo.of_eq rfl)
      (case c5 => decide)
      (case kB => exact locs rfl)
      (case c2 => exact rfl)
      (case c3 => exact rfl)
      (case c4 => exact rfl)
      k_whole
      intro g' L' h' FG' F' N' B' X' T'
      (try dsimp only)
      (try k_lift B')
      (try k_fold)))
  k_with "M room" => ((first | ktr_room | (show (_ : Nat) < _; simp only [Around.under, Around.deeper, ktrTop]; have hw : ∀ args, (Code.builtin "type.__call__" args).weight ≤ 1 := (by intro args; unfold Code.weight; (repeat' split) <;> simp_all [Code.isGuard, Code.isCaller, Code.frames, Code.isFrame]); omega)))
  k_with "call ref" => ((k_here; (with_reducible show wpAny _ _ (call (Value.ref 328) _) _ _ _); k_dflt ((refine' call_cls ?k1 ?k2 ?k3 ?k4 ?k5 ?k6 ?_; (case k1 => k_asm); (case k2 => k_asm); (case k3 => k_asm); (case k4 => k_is); (case k5 => k_is); (case k6 => k_is); k_whole; intro x' d' h' F' N' l1 l2; (try k_lt l1); (try k_lt2 l2); (try k_sweep); walk_at "M enter"))))
  k_with "exec For Tuple Name cons nil" => ((k_here; k_dflt (refine' For_none ?F ?N ?hh ?h ?l ?_ ?hs; (case F => k_asm); (case N => k_asm); (case hh => exact rfl); (case h => (walk1; exact ⟨rfl, rfl⟩)); (case l => k_mem); (case hs => (intro _; with_unfolding_all rfl)); k_whole; intro h' tk' F' N'; (try k_sweep))))
  k_with "call ref" => ((k_here; (with_reducible show wpAny _ _ (call (Value.ref 234) _) _ _ _); k_extra "M234"))
  k_with "call ref" => ((k_here; (with_reducible show wpAny _ _ (call (Value.ref 96) _) _ _ _); k_extra "M96"))
  k_with "k_ne" => (first | assumption | exact Ne.symm (by assumption) | exact ne_cls (by k_asm) (by k_mem) (by k_mem) (by rfl))
  k_with "k_all" => (assumption)
  k_with "M fresh" => ((first | assumption | exact allLt_ne (allLt_of (by assumption)) | exact allLt_ne (by first | assumption | exact And.right (by assumption) | exact And.right (And.right (by assumption)) | exact And.right (And.right (And.right (by assumption))) | exact And.right (And.right (And.right (And.right (by assumption)))) | exact And.right (And.right (And.right (And.right (And.right (by assumption))))) | exact And.right (And.right (And.right (And.right (And.right (And.right (by assumption)))))) | exact And.right (And.right (And.right (And.right (And.right (And.right (And.right (by assumption))))))) | exact And.right (And.right (And.right (And.right (And.right (And.right (And.right (And.right (by assumption)))))))) | exact And.right (And.right (And.right (And.right (And.right (And.right (And.right (And.right (And.right (by assumption))))))))) | exact And.right (And.right (And.right (And.right (And.right (And.right (And.right (And.right (And.right (And.right (by assumption)))))))))) | exact And.right (And.right (And.right (And.right (And.right (And.right (And.right (And.right (And.right (And.right (And.right (by assumption))))))))))) | exact And.right (And.right (And.right (And.right (And.right (And.right (And.right (And.right (And.right (And.right (And.right (And.right (by assumption)))))))))))) | exact And.right (And.right (And.right (And.right (And.right (And.right (And.right (And.right (And.right (And.right (And.right (And.right (And.right (by assumption))))))))))))) | exact And.right (And.right (And.right (And.right (And.right (And.right (And.right (And.right (And.right (And.right (And.right (And.right (And.right (And.right (by assumption)))))))))))))) | exact And.right (And.right (And.right (And.right (And.right (And.right (And.right (And.right (And.right (And.right (And.right (And.right (And.right (And.right (And.right (by assumption))))))))))))))))))
  trivial
theorem c_take_short (w : World) {st sp : Str} (hck : CheckOk w st sp) (T : Nat → Tok) (x d cf : Addr) (ts tp tlo td tm c1 c2 c3 c4 : Tok) (role tr ky ev pp pr ic icf dr vr vp vq : Value) (blo bd : Array UInt8) (l0 dks : List Int) (most : Int) (ocfg : Obj) (rest : List (Addr × Obj))
    (hcfg : ocfg.IsDictOf (strKind Challenge.rw_pf0268_01.row.prog w) (strPairs [(.str (Str.ofString "random") c1, vr), (.str (Str.ofString "protocols") c2, vp), (.str (Str.ofString "params") c3, vq), (.str (Str.ofString "most") c4, .int most tm)]))
    (hB0 : KBw.bInts blo = l0) (hBd : KBw.bInts bd = dks) (hd1 : 0 < dks.length) (hlt : l0.length + dks.length < 4) (hxd : x ≠ d) (hcd : cf ≠ d) (hoff : ∀ p ∈ rest, p.1 ≠ d) :
    ConL 10 w 213 [.ref x, .str sp tp, .bytes bd td] ((x, instObj 328 d) :: (d, SD w T role (.ref cf) (.str st ts) tr (.bytes blo tlo) ky ev pp pr ic icf dr) :: (cf, ocfg) :: rest)
      (fun r nw => ∃ S b' t' n, r = .ref S ∧ nw = (S, W.listOf #[] n) :: (x, instObj 328 d) :: (d, SD w T role (.ref cf) (.str st ts) tr (.bytes b' t') ky ev pp pr ic icf dr) :: (cf, ocfg) :: rest ∧ KBw.bInts b' = l0 ++ dks) := by
  run_tac Mine.Sh.mark
  unfold ConL
  k_fill
  intro mean mg mb dp un gd cn cs a ccd cl outer A₀ base h₀ L m s Q E X B F N T hk hd1 hu1 hret
  k_with "M234" => (refine' useL (hck _ _ _ _ _ _ _ _ _ _ _ _ _ _ _ _ _ ?m1 ?m2) ?x1 ?x2 ?x3 ?x4 ?x5 ?x6 ?x7 ?x8 ?_; walk_at "M args"; (case m1 => k_mem); (case m2 => k_mem); (intro r9 nw9 h9 tk9 F9 N9 hR; obtain ⟨e9, e8⟩ := hR; subst e9; subst e8))
  k_with "M96" => (refine' useL (c_split_short w _ (by walk_at "M ints") (by simp only [List.length_append]; omega)) ?x1 ?x2 ?x3 ?x4 ?x5 ?x6 ?x7 ?x8 ?_; walk_at "M args"; (intro r9 nw9 h9 tk9 F9 N9 hR; obtain ⟨T9, S9, e9, bl9, tl9, k91, k92, e8, f9⟩ := hR; subst e9; subst e8))
  refine wpAny_call ?_
  k_dflt walk_at "M enter"
  k_steps
  all_goals (rename News h₀ L _ _ => hN; exact hret _ _ _ _ (by k_asm) (show News h₀ L _ (_ :: (x, instObj 328 d) :: _) from sub_1_2 (sub_1_2 hN)) ⟨_, _, _, _, rfl, rfl, f9⟩)
  run_tac Mine.Sh.fin
theorem c_take_head (w : World) {st sp : Str} (hck : CheckOk w st sp) (T : Nat → Tok) (x d cf : Addr) (ts tp tlo td tm c1 c2 c3 c4 : Tok) (role tr ky ev pp pr ic icf dr vr vp vq : Value) (blo bd : Array UInt8) (l0 dks : List Int) (most : Int) (ocfg : Obj) (rest : List (Addr × Obj))
    (hcfg : ocfg.IsDictOf (strKind Challenge.rw_pf0268_01.row.prog w) (strPairs [(.str (Str.ofString "random") c1, vr), (.str (Str.ofString "protocols") c2, vp), (.str (Str.ofString "params") c3, vq), (.str (Str.ofString "most") c4, .int most tm)]))
    (hB0 : KBw.bInts blo = l0) (hBd : KBw.bInts bd = dks) (hd1 : 0 < dks.length) (k : Int) (mm : Nat) (hks : l0 ++ dks = [k] ++ (be 3 mm ++ [])) (hm : 0 < mm) (hm2 : mm < 16777216) (hmost : (mm : Int) ≤ most) (hxd : x ≠ d) (hcd : cf ≠ d) (hoff : ∀ p ∈ rest, p.1 ≠ d) :
    ConL 10 w 213 [.ref x, .str sp tp, .bytes bd td] ((x, instObj 328 d) :: (d, SD w T role (.ref cf) (.str st ts) tr (.bytes blo tlo) ky ev pp pr ic icf dr) :: (cf, ocfg) :: rest)
      (fun r nw => ∃ S b' t' n, r = .ref S ∧ nw = (S, W.listOf #[] n) :: (x, instObj 328 d) :: (d, SD w T role (.ref cf) (.str st ts) tr (.bytes b' t') ky ev pp pr ic icf dr) :: (cf, ocfg) :: rest ∧ KBw.bInts b' = l0 ++ dks ∧ ∀ p ∈ rest, p.1 ≠ S) := by
  run_tac Mine.Sh.mark
  unfold ConL
  k_fill
  intro mean mg mb dp un gd cn cs a ccd cl outer A₀ base h₀ L m s Q E X B F N T hk hd1 hu1 hret
  have hl4 : (l0 ++ dks).length = 4 := by rw [hks]; simp [be]
  have hl5 : l0.length + dks.length = 4 := by rw [← hl4]; simp only [List.length_append]
  k_with "M234" => (refine' useL (hck _ _ _ _ _ _ _ _ _ _ _ _ _ _ _ _ _ ?m1 ?m2) ?x1 ?x2 ?x3 ?x4 ?x5 ?x6 ?x7 ?x8 ?_; walk_at "M args"; (case m1 => k_mem); (case m2 => k_mem); (intro r9 nw9 h9 tk9 F9 N9 hR; obtain ⟨e9, e8⟩ := hR; subst e9; subst e8))
  k_with "M96" => (refine' useL (c_split_head w _ (by walk_at "M ints") hks hm hm2 hmost) ?x1 ?x2 ?x3 ?x4 ?x5 ?x6 ?x7 ?x8 ?_; walk_at "M args"; (intro r9 nw9 h9 tk9 F9 N9 hR; obtain ⟨T9, S9, e9, bl9, tl9, k91, k92, e8, f9⟩ := hR; subst e9; subst e8))
  refine wpAny_call ?_
  k_dflt walk_at "M enter"
  k_steps
  all_goals (rename News h₀ L _ _ => hN; exact hret _ _ _ _ (by k_asm) (show News h₀ L _ (_ :: (x, instObj 328 d) :: _) from sub_1_2 (sub_1_2 hN)) ⟨_, _, _, _, rfl, rfl, ⟨f9, by walk_at "M fresh"⟩⟩)
  run_tac Mine.Sh.fin
end
-- P11
section
theorem line_P11 : True := by
  w_top off
  run_tac Mine.Sh.keep 25
  k_with "G bytes" => ((
      intro r9 h9 tk9 F9 N9 hR
      obtain ⟨b9, t9, e9, hB9⟩ := hR
      subst e9))
  k_with "G call" => ((
      (with_reducible show wpG _ _ (call (Value.ref 68) _) _ _ _)
      k_dflt (
       (first
       | refine' useGP (c_pw2 _ _ _ _ ?p0 ?p1) ?x1 ?x2 ?x3 ?x4 ?x5 ?x6 ?x7 ?x8 ?_
       | refine' useGP (c_pw1 _ _ _ _ ?p0 ?p1) ?x1 ?x2 ?x3 ?x4 ?x5 ?x6 ?x7 ?x8 ?_
       | refine' useGP (c_pw3 _ _ _ _ ?p0 ?p1) ?x1 ?x2 ?x3 ?x4 ?x5 ?x6 ?x7 ?x8 ?_
       | refine' useGP (c_pw8 _ _ _ _ ?p0 ?p1) ?x1 ?x2 ?x3 ?x4 ?x5 ?x6 ?x7 ?x8 ?_)
       walk_at "M args"
       (case p0 => walk_at "M pre")
       (case p1 => walk_at "M pre")
       walk_at "G bytes")))
  k_with "ite" => ((k_here; k_openite; k_dflt (first
      | refine ite_neg (by (simp only [bne_iff_ne, beq_iff_eq, ne_eq, decide_eq_true_eq]; omega)) ?_
      | refine ite_pos (by (simp only [bne_iff_ne, beq_iff_eq, ne_eq, decide_eq_true_eq]; omega)) ?_)))
  k_with "k_mem" => (assumption)
  k_with "getMethod bytes" => ((k_here; (with_reducible refine bj_method ?_)))
  k_with "getMethod str" => ((k_here; (with_reducible refine en_method ?_)))
  k_with "call builtin:bytes.join" => ((k_here; k_dflt (refine' bj_one (News.get ?N ?m) ?_; (case N => k_asm); (case m => k_mem))))
  k_with "call builtin:str.encode" => ((k_here; k_dflt (first
      | (with_reducible refine' en_call (en_c _ _) ?hb ?_; (case hb => decide))
      | (with_reducible refine' en_call (en_s _ _) ?hb ?_; (case hb => decide))
      | (with_reducible refine' en_call (en_h _ _) ?hb ?_; (case hb => decide))
      | (with_reducible refine' en_call (en_a _ _) ?hb ?_; (case hb => decide)))))
  k_with "G call" => ((
      (with_reducible show wpG _ _ (call (Value.ref 129) _) _ _ _)
      k_dflt (
       refine' useGP (c_server_hello _ _ _ _ ?p0 ?p1) ?x1 ?x2 ?x3 ?x4 ?x5 ?x6 ?x7 ?x8 ?_
       walk_at "M args"
       (case p0 => walk_at "M pre")
       (case p1 => walk_at "M pre")
       walk_at "G bytes")))
  k_with "G call" => ((
      (with_reducible show wpG _ _ (call (Value.ref 143) _) _ _ _)
      k_dflt (
       refine' useGP (c_extensions _ _ _ _ _ _ _ ?p0 ?p1 ?p2) ?x1 ?x2 ?x3 ?x4 ?x5 ?x6 ?x7 ?x8 ?_
       walk_at "M args"
       (case p0 => walk_at "M pre")
       (case p1 => walk_at "M pre")
       (case p2 => walk_at "M pre")
       walk_at "G bytes")))
  k_with "G call" => ((
      (with_reducible show wpG _ _ (call (Value.ref 164) _) _ _ _)
      k_dflt (
       refine' useGP (c_finished _ _ _ _ _ _ _ ?p0 ?p1 ?p2) ?x1 ?x2 ?x3 ?x4 ?x5 ?x6 ?x7 ?x8 ?_
       walk_at "M args"
       (case p0 => walk_at "M pre")
       (case p1 => walk_at "M pre")
       (case p2 => walk_at "M pre")
       walk_at "G bytes")))
  k_with "G call" => ((
      (with_reducible show wpG _ _ (call (Value.ref 171) _) _ _ _)
      k_dflt (
       refine' useGP (c_toy_key _ _ _ _ _ _ _ ?p0 ?p1 ?p2) ?x1 ?x2 ?x3 ?x4 ?x5 ?x6 ?x7 ?x8 ?_
       walk_at "M args"
       (case p0 => walk_at "M pre")
       (case p1 => walk_at "M pre")
       (case p2 => walk_at "M pre")
       walk_at "G bytes")))
  k_with "getItem ref str" => ((k_here; k_dflt (refine' kd_get ?N ?m ?d (val_stored _ _ _) ?_; (case N => k_asm); (case m => k_mem); (case d => k_asm))))
  k_with "setItem ref str" => ((k_here; (with_reducible show wpAny _ _ (setItem (Value.ref _) (Value.str _ _) (Value.bytes _ _)) _ _ _); k_dflt (refine' kda_set (knd := PySem.strKind _ _) ?F ?N ?U ?d (strKind_is _ _ _ _) ?z ?_; (case F => k_asm); (case N => k_asm); (case U => k_updF); (case d => k_asm); (case z => rw [sizeLine_eq]; omega); intro h' o' F' N' hd'; (try dsimp only at N'); (try k_sweep))))
  k_with "subscriptTail" => ((k_here; (with_reducible show wpAny _ _ (subscriptTail _ _ (Value.ref _) (Value.str _ _)) _ _ _); k_dflt (refine kda_item (knd := PySem.strKind _ _) (by k_asm) (by k_mem) (by k_asm) (strKind_is _ _ _ _) (val_stored _ _ _) ?_)))
  k_with "k_ne" => (first | assumption | exact Ne.symm (by assumption) | exact ne_cls (by k_asm) (by k_mem) (by k_mem) (by rfl))
  k_with "k_all" => (assumption)
  trivial
theorem c_ready_h (w : World) (T : Nat → Tok) (x d ka eva : Addr) (tp ttr : Tok) (role cfg st lo pp pr ic icf dr : Value) (btr : Array UInt8) (tr : List Int) (oky : Obj) (kvs : List (Str × Value)) (evs : Array Value) (ne : Nat) (rest : List (Addr × Obj))
    (hky : oky.IsDictOf (strKind Challenge.rw_pf0268_01.row.prog w) kvs) (hBt : KBw.bInts btr = tr) (htr : tr.length < 5000) (hes : evs.size < 100) (hkz : kvs.length < 10) (hxd : x ≠ d) (hkd : ka ≠ d) (hed : eva ≠ d) (hxk : x ≠ ka) (hek : eva ≠ ka) (hxe : x ≠ eva) (hr1 : ∀ p ∈ rest, p.1 ≠ d) (hr2 : ∀ p ∈ rest, p.1 ≠ ka) (hr3 : ∀ p ∈ rest, p.1 ≠ eva) :
    ConG 12 w 248 [.ref x, .str (Str.ofString "handshake") tp] ((x, instObj 328 d) :: (d, SD w T role cfg st (.bytes btr ttr) lo (.ref ka) (.ref eva) pp pr ic icf dr) :: (ka, oky) :: (eva, W.listOf evs ne) :: rest)
      (fun r nw => ∃ oky' kvs' U ne', r = .none ∧ oky'.IsDictOf (strKind Challenge.rw_pf0268_01.row.prog w) kvs' ∧ kvs'.length ≤ kvs.length + 1 ∧ nw = (x, instObj 328 d) :: (d, SD w T role cfg st (.bytes btr ttr) lo (.ref ka) (.ref eva) pp pr ic icf dr) :: (ka, oky') :: (eva, W.listOf (evs.push (.ref U)) ne') :: rest) := by
  run_tac Mine.Sh.mark
  unfold ConG
  k_fill
  intro mean mg mb dp un gd cn cs a ccd cl outer A₀ base h₀ L m s Q X B F N T hk hd1 hu1 hret
  refine wpG_call ?_
  k_dflt (refine' codeG_defN (binds := [(Str.ofString "self", .ref x), (Str.ofString "space", .str (Str.ofString "handshake") tp)]) ?k1 ?k2 ?k3 ?k4 ?k5 ?kA ?kF ?kK ?k6 ?k7 ?k8 ?k9 ?kB ?_ ?c2 ?c3 ?c4 ?c5; walk_at "G entered")
  walk_at "G steps"
  all_goals (rename News h₀ L _ _ => hN; rename Obj.IsDictOf _ _ _ => hD; exact hret _ _ _ _ (by k_asm) (show News h₀ L _ ((x, instObj 328 d) :: _) from fun p hp => hN p (List.mem_cons_of_mem _ hp)) ⟨_, _, _, _, rfl, hD, stored_len _ _ _, rfl⟩)
  run_tac Mine.Sh.fin
theorem c_ready_a (w : World) (T : Nat → Tok) (x d ka eva : Addr) (tp ttr : Tok) (role cfg st lo pp pr ic icf dr : Value) (btr : Array UInt8) (tr : List Int) (oky : Obj) (kvs : List (Str × Value)) (evs : Array Value) (ne : Nat) (rest : List (Addr × Obj))
    (hky : oky.IsDictOf (strKind Challenge.rw_pf0268_01.row.prog w) kvs) (hBt : KBw.bInts btr = tr) (htr : tr.length < 5000) (hes : evs.size < 100) (hkz : kvs.length < 10) (hxd : x ≠ d) (hkd : ka ≠ d) (hed : eva ≠ d) (hxk : x ≠ ka) (hek : eva ≠ ka) (hxe : x ≠ eva) (hr1 : ∀ p ∈ rest, p.1 ≠ d) (hr2 : ∀ p ∈ rest, p.1 ≠ ka) (hr3 : ∀ p ∈ rest, p.1 ≠ eva) :
    ConG 12 w 248 [.ref x, .str (Str.ofString "application") tp] ((x, instObj 328 d) :: (d, SD w T role cfg st (.bytes btr ttr) lo (.ref ka) (.ref eva) pp pr ic icf dr) :: (ka, oky) :: (eva, W.listOf evs ne) :: rest)
      (fun r nw => ∃ oky' kvs' U ne', r = .none ∧ oky'.IsDictOf (strKind Challenge.rw_pf0268_01.row.prog w) kvs' ∧ kvs'.length ≤ kvs.length + 1 ∧ nw = (x, instObj 328 d) :: (d, SD w T role cfg st (.bytes btr ttr) lo (.ref ka) (.ref eva) pp pr ic icf dr) :: (ka, oky') :: (eva, W.listOf (evs.push (.ref U)) ne') :: rest) := by
  run_tac Mine.Sh.mark
  unfold ConG
  k_fill
  intro mean mg mb dp un gd cn cs a ccd cl outer A₀ base h₀ L m s Q X B F N T hk hd1 hu1 hret
  refine wpG_call ?_
  k_dflt (refine' codeG_defN (binds := [(Str.ofString "self", .ref x), (Str.ofString "space", .str (Str.ofString "application") tp)]) ?k1 ?k2 ?k3 ?k4 ?k5 ?kA ?kF ?kK ?k6 ?k7 ?k8 ?k9 ?kB ?_ ?c2 ?c3 ?c4 ?c5; walk_at "G entered")
  walk_at "G steps"
  all_goals (rename News h₀ L _ _ => hN; rename Obj.IsDictOf _ _ _ => hD; exact hret _ _ _ _ (by k_asm) (show News h₀ L _ ((x, instObj 328 d) :: _) from fun p hp => hN p (List.mem_cons_of_mem _ hp)) ⟨_, _, _, _, rfl, hD, stored_len _ _ _, rfl⟩)
  run_tac Mine.Sh.fin
end
-- P12
section
theorem line_P12 : True := by
  w_top off
  run_tac Mine.Sh.keep 25
  k_with "G bytes" => ((
      intro r9 h9 tk9 F9 N9 hR
      obtain ⟨b9, t9, e9, hB9⟩ := hR
      subst e9))
  k_with "G call" => ((
      (with_reducible show wpG _ _ (call (Value.ref 68) _) _ _ _)
      k_dflt (
       (first
       | refine' useGP (c_pw2 _ _ _ _ ?p0 ?p1) ?x1 ?x2 ?x3 ?x4 ?x5 ?x6 ?x7 ?x8 ?_
       | refine' useGP (c_pw1 _ _ _ _ ?p0 ?p1) ?x1 ?x2 ?x3 ?x4 ?x5 ?x6 ?x7 ?x8 ?_
       | refine' useGP (c_pw3 _ _ _ _ ?p0 ?p1) ?x1 ?x2 ?x3 ?x4 ?x5 ?x6 ?x7 ?x8 ?_
       | refine' useGP (c_pw8 _ _ _ _ ?p0 ?p1) ?x1 ?x2 ?x3 ?x4 ?x5 ?x6 ?x7 ?x8 ?_)
       walk_at "M args"
       (case p0 => walk_at "M pre")
       (case p1 => walk_at "M pre")
       walk_at "G bytes")))
  k_with "ite" => ((k_here; k_openite; k_dflt (first
      | refine ite_neg (by (simp only [bne_iff_ne, beq_iff_eq, ne_eq, decide_eq_true_eq]; omega)) ?_
      | refine ite_pos (by (simp only [bne_iff_ne, beq_iff_eq, ne_eq, decide_eq_true_eq]; omega)) ?_)))
  k_with "k_mem" => (assumption)
  k_with "getMethod bytes" => ((k_here; (with_reducible refine bj_method ?_)))
  k_with "getMethod str" => ((k_here; (with_reducible refine en_method ?_)))
  k_with "call builtin:bytes.join" => ((k_here; k_dflt (refine' bj_one (News.get ?N ?m) ?_; (case N => k_asm); (case m => k_mem))))
  k_with "call builtin:str.encode" => ((k_here; k_dflt (first
      | (with_reducible refine' en_call (en_c _ _) ?hb ?_; (case hb => decide))
      | (with_reducible refine' en_call (en_s _ _) ?hb ?_; (case hb => decide))
      | (with_reducible refine' en_call (en_h _ _) ?hb ?_; (case hb => decide))
      | (with_reducible refine' en_call (en_a _ _) ?hb ?_; (case hb => decide)))))
  k_with "G call" => ((
      (with_reducible show wpG _ _ (call (Value.ref 129) _) _ _ _)
      k_dflt (
       refine' useGP (c_server_hello _ _ _ _ ?p0 ?p1) ?x1 ?x2 ?x3 ?x4 ?x5 ?x6 ?x7 ?x8 ?_
       walk_at "M args"
       (case p0 => walk_at "M pre")
       (case p1 => walk_at "M pre")
       walk_at "G bytes")))
  k_with "G call" => ((
      (with_reducible show wpG _ _ (call (Value.ref 143) _) _ _ _)
      k_dflt (
       refine' useGP (c_extensions _ _ _ _ _ _ _ ?p0 ?p1 ?p2) ?x1 ?x2 ?x3 ?x4 ?x5 ?x6 ?x7 ?x8 ?_
       walk_at "M args"
       (case p0 => walk_at "M pre")
       (case p1 => walk_at "M pre")
       (case p2 => walk_at "M pre")
       walk_at "G bytes")))
  k_with "G call" => ((
      (with_reducible show wpG _ _ (call (Value.ref 164) _) _ _ _)
      k_dflt (
       refine' useGP (c_finished _ _ _ _ _ _ _ ?p0 ?p1 ?p2) ?x1 ?x2 ?x3 ?x4 ?x5 ?x6 ?x7 ?x8 ?_
       walk_at "M args"
       (case p0 => walk_at "M pre")
       (case p1 => walk_at "M pre")
       (case p2 => walk_at "M pre")
       walk_at "G bytes")))
  k_with "G call" => ((
      (with_reducible show wpG _ _ (call (Value.ref 171) _) _ _ _)
      k_dflt (
       refine' useGP (c_toy_key _ _ _ _ _ _ _ ?p0 ?p1 ?p2) ?x1 ?x2 ?x3 ?x4 ?x5 ?x6 ?x7 ?x8 ?_
       walk_at "M args"
       (case p0 => walk_at "M pre")
       (case p1 => walk_at "M pre")
       (case p2 => walk_at "M pre")
       walk_at "G bytes")))
  k_with "getItem ref str" => ((k_here; k_dflt (refine' kd_get ?N ?m ?d (val_stored _ _ _) ?_; (case N => k_asm); (case m => k_mem); (case d => k_asm))))
  k_with "setItem ref str" => ((k_here; (with_reducible show wpAny _ _ (setItem (Value.ref _) (Value.str _ _) (Value.bytes _ _)) _ _ _); k_dflt (refine' kda_set (knd := PySem.strKind _ _) ?F ?N ?U ?d (strKind_is _ _ _ _) ?z ?_; (case F => k_asm); (case N => k_asm); (case U => k_updF); (case d => k_asm); (case z => rw [sizeLine_eq]; omega); intro h' o' F' N' hd'; (try dsimp only at N'); (try k_sweep))))
  k_with "subscriptTail" => ((k_here; (with_reducible show wpAny _ _ (subscriptTail _ _ (Value.ref _) (Value.str _ _)) _ _ _); k_dflt (refine kda_item (knd := PySem.strKind _ _) (by k_asm) (by k_mem) (by k_asm) (strKind_is _ _ _ _) (val_stored _ _ _) ?_)))
  k_with "k_ne" => (first | assumption | exact Ne.symm (by assumption) | exact ne_cls (by k_asm) (by k_mem) (by k_mem) (by rfl))
  k_with "k_all" => (assumption)
  k_with "call ref" => ((k_here; (with_reducible show wpAny _ _ (call (Value.ref 136) _) _ _ _); k_extra "M136"))
  k_with "call ref" => ((k_here; (with_reducible show wpAny _ _ (call (Value.ref 150) _) _ _ _); k_extra "M150"))
  k_with "G call" => (((with_reducible show wpG _ _ (call (Value.ref 248) _) _ _ _); k_dflt (k_extra "M248")))
  k_with "G call" => (((with_reducible show wpG _ _ (call (Value.ref 157) _) _ _ _); k_dflt (k_extra "M157")))
  k_with "M fresh" => ((first | assumption | exact allLt_ne (allLt_of (by assumption)) | exact allLt_ne (by first | assumption | exact And.right (by assumption) | exact And.right (And.right (by assumption)) | exact And.right (And.right (And.right (by assumption))) | exact And.right (And.right (And.right (And.right (by assumption)))) | exact And.right (And.right (And.right (And.right (And.right (by assumption))))) | exact And.right (And.right (And.right (And.right (And.right (And.right (by assumption)))))) | exact And.right (And.right (And.right (And.right (And.right (And.right (And.right (by assumption))))))) | exact And.right (And.right (And.right (And.right (And.right (And.right (And.right (And.right (by assumption)))))))) | exact And.right (And.right (And.right (And.right (And.right (And.right (And.right (And.right (And.right (by assumption))))))))) | exact And.right (And.right (And.right (And.right (And.right (And.right (And.right (And.right (And.right (And.right (by assumption)))))))))) | exact And.right (And.right (And.right (And.right (And.right (And.right (And.right (And.right (And.right (And.right (And.right (by assumption))))))))))) | exact And.right (And.right (And.right (And.right (And.right (And.right (And.right (And.right (And.right (And.right (And.right (And.right (by assumption)))))))))))) | exact And.right (And.right (And.right (And.right (And.right (And.right (And.right (And.right (And.right (And.right (And.right (And.right (And.right (by assumption))))))))))))) | exact And.right (And.right (And.right (And.right (And.right (And.right (And.right (And.right (And.right (And.right (And.right (And.right (And.right (And.right (by assumption)))))))))))))) | exact And.right (And.right (And.right (And.right (And.right (And.right (And.right (And.right (And.right (And.right (And.right (And.right (And.right (And.right (And.right (by assumption))))))))))))))))))
  trivial
theorem c_on_server_hello (w : World) (tt : Nat → Tok) (x d ka eva : Addr) (tb twh ttr : Tok) (role cfg st lo pp pr ic icf dr : Value) (btr bb bw : Array UInt8) (tr body ra whole : List Int) (oky : Obj) (kvs : List (Str × Value)) (evs : Array Value) (ne : Nat) (rest : List (Addr × Obj))
    (hky : oky.IsDictOf (strKind Challenge.rw_pf0268_01.row.prog w) kvs) (hBt : KBw.bInts btr = tr) (hBb : KBw.bInts bb = body) (hBw : KBw.bInts bw = whole) (hbody : body = fld ra) (hra : ra.length = 8) (htr : tr.length + whole.length < 5000) (hes : evs.size < 100) (hkz : kvs.length < 10) (hxd : x ≠ d) (hkd : ka ≠ d) (hed : eva ≠ d) (hxk : x ≠ ka) (hek : eva ≠ ka) (hxe : x ≠ eva) (hr1 : ∀ p ∈ rest, p.1 ≠ d) (hr2 : ∀ p ∈ rest, p.1 ≠ ka) (hr3 : ∀ p ∈ rest, p.1 ≠ eva) :
    ConG 16 w 262 [.ref x, .bytes bb tb, .bytes bw twh] ((x, instObj 328 d) :: (d, SD w tt role cfg st (.bytes btr ttr) lo (.ref ka) (.ref eva) pp pr ic icf dr) :: (ka, oky) :: (eva, W.listOf evs ne) :: rest)
      (fun r nw => ∃ S n oky' kvs' U ne' b' t' ts, r = .ref S ∧ KBw.bInts b' = tr ++ whole ∧ oky'.IsDictOf (strKind Challenge.rw_pf0268_01.row.prog w) kvs' ∧ kvs'.length ≤ kvs.length + 1 ∧ (∀ p ∈ rest, p.1 ≠ S) ∧ nw = (S, W.listOf #[] n) :: (x, instObj 328 d) :: (d, SD w tt role cfg (.str (Str.ofString "wait_extensions") ts) (.bytes b' t') lo (.ref ka) (.ref eva) pp pr ic icf dr) :: (ka, oky') :: (eva, W.listOf (evs.push (.ref U)) ne') :: rest) := by
  run_tac Mine.Sh.mark
  unfold ConG
  k_fill
  intro mean mg mb dp un gd cn cs a ccd cl outer A₀ base h₀ L m s Q X B F N T hk hd1 hu1 hret
  k_with "M136" => (refine' useL (c_read_server_hello w _ hBb hbody hra) ?x1 ?x2 ?x3 ?x4 ?x5 ?x6 ?x7 ?x8 ?_; walk_at "M args"; (intro r9 nw9 h9 tk9 F9 N9 hR; subst hR))
  k_with "M248" => (refine' useG (c_ready_h w tt x d ka eva _ _ _ _ _ _ _ _ _ _ _ _ (tr ++ whole) oky kvs evs ne rest hky (by walk_at "M ints") (by simp only [List.length_append]; omega) hes hkz hxd hkd hed hxk hek hxe hr1 hr2 hr3) ?x1 ?x2 ?x3 ?x4 ?x5 ?x6 ?x7 ?x8 ?_; walk_at "M args"; (intro r9 nw9 h9 tk9 F9 N9 hR; obtain ⟨oky', kvs', U, ne', e9, hky', hkz', e8⟩ := hR; subst e9; subst e8))
  refine wpG_call ?_
  k_dflt (refine' codeG_defN (binds := [(Str.ofString "self", .ref x), (Str.ofString "body", .bytes bb tb), (Str.ofString "whole", .bytes bw twh)]) ?k1 ?k2 ?k3 ?k4 ?k5 ?kA ?kF ?kK ?k6 ?k7 ?k8 ?k9 ?kB ?_ ?c2 ?c3 ?c4 ?c5; walk_at "G entered")
  walk_at "G steps"
  all_goals (rename News h₀ L _ _ => hN; exact hret _ _ _ _ (by k_asm) hN ⟨_, _, oky', kvs', U, ne', _, _, _, rfl, (by assumption), hky', hkz', (by walk_at "M fresh"), rfl⟩)
  run_tac Mine.Sh.fin
end
-- P13
section
theorem line_P13 : True := by
  w_top off
  run_tac Mine.Sh.keep 25
  k_with "ite" => ((k_here; k_openite; k_dflt (first
      | refine ite_neg (by (simp only [bne_iff_ne, beq_iff_eq, ne_eq, decide_eq_true_eq]; omega)) ?_
      | refine ite_pos (by (simp only [bne_iff_ne, beq_iff_eq, ne_eq, decide_eq_true_eq]; omega)) ?_)))
  k_with "k_mem" => (assumption)
  k_with "M enter" => ((
      refine' code_def ?k1 ?k2 ?k3 ?k4 ?k5 ?kA ?kF ?kK ?k6 ?k7 ?k8 ?k9 ?kB ?_ ?c2 ?c3 ?c4 ?c5
      (case kA => exact rfl)
      (case kF => exact rfl)
      (case kK => first | assumption | exact rfl)
      (case k1 => k_asm)
      (case k2 => k_asm)
      (case k3 => k_asm)
      (case k4 => k_asm)
      (case k5 => k_asm)
      (case k6 => k_is)
      (case k7 => k_is)
      (case k8 => walk_at "M room")
      (case k9 => exact BindsTo.of_eq rfl)
      (case c5 => decide)
      (case kB => exact locs rfl)
      (case c2 => exact rfl)
      (case c3 => exact rfl)
      (case c4 => exact rfl)
      k_whole
      intro g' L' h' FG' F' N' B' X' T'
      (try dsimp only)
      (try k_lift B')
      (try k_fold)))
  k_with "M room" => ((first | ktr_room | (show (_ : Nat) < _; simp only [Around.under, Around.deeper, ktrTop]; have hw : ∀ args, (Code.builtin "type.__call__" args).weight ≤ 1 := (by intro args; unfold Code.weight; (repeat' split) <;> simp_all [Code.isGuard, Code.isCaller, Code.frames, Code.isFrame]); omega)))
  k_with "call ref" => ((k_here; (with_reducible show wpAny _ _ (call (Value.ref 328) _) _ _ _); k_dflt ((refine' call_cls ?k1 ?k2 ?k3 ?k4 ?k5 ?k6 ?_; (case k1 => k_asm); (case k2 => k_asm); (case k3 => k_asm); (case k4 => k_is); (case k5 => k_is); (case k6 => k_is); k_whole; intro x' d' h' F' N' l1 l2; (try k_lt l1); (try k_lt2 l2); (try k_sweep); walk_at "M enter"))))
  k_with "getItem ref str" => ((k_here; k_dflt (refine' kd_get ?N ?m ?d (val_stored _ _ _) ?_; (case N => k_asm); (case m => k_mem); (case d => k_asm))))
  k_with "setItem ref str" => ((k_here; (with_reducible show wpAny _ _ (setItem (Value.ref _) (Value.str _ _) (Value.bytes _ _)) _ _ _); k_dflt (refine' kda_set (knd := PySem.strKind _ _) ?F ?N ?U ?d (strKind_is _ _ _ _) ?z ?_; (case F => k_asm); (case N => k_asm); (case U => k_updF); (case d => k_asm); (case z => rw [sizeLine_eq]; omega); intro h' o' F' N' hd'; (try dsimp only at N'); (try k_sweep))))
  k_with "subscriptTail" => ((k_here; (with_reducible show wpAny _ _ (subscriptTail _ _ (Value.ref _) (Value.str _ _)) _ _ _); k_dflt (refine kda_item (knd := PySem.strKind _ _) (by k_asm) (by k_mem) (by k_asm) (strKind_is _ _ _ _) (val_stored _ _ _) ?_)))
  k_with "k_ne" => (first | assumption | exact Ne.symm (by assumption) | exact ne_cls (by k_asm) (by k_mem) (by k_mem) (by rfl))
  k_with "k_all" => (assumption)
  k_with "call ref" => ((k_here; (with_reducible show wpAny _ _ (call (Value.ref 136) _) _ _ _); k_extra "M136"))
  k_with "call ref" => ((k_here; (with_reducible show wpAny _ _ (call (Value.ref 150) _) _ _ _); k_extra "M150"))
  k_with "G call" => (((with_reducible show wpG _ _ (call (Value.ref 248) _) _ _ _); k_dflt (k_extra "M248")))
  k_with "G call" => (((with_reducible show wpG _ _ (call (Value.ref 157) _) _ _ _); k_dflt (k_extra "M157")))
  k_with "compareOp NotIn bytes ref" => ((k_here; k_dflt (refine' notin_same ?N ?m ?b ?c ?_; (case N => k_asm); (case m => k_mem); (case b => assumption); (case c => assumption))))
  k_with "compareOp NotEq bytes bytes" => ((k_here; k_dflt (refine' ne_same ?b ?c ?_; (case b => assumption); (case c => assumption))))
  k_with "M fresh" => ((first | assumption | exact allLt_ne (allLt_of (by assumption)) | exact allLt_ne (by first | assumption | exact And.right (by assumption) | exact And.right (And.right (by assumption)) | exact And.right (And.right (And.right (by assumption))) | exact And.right (And.right (And.right (And.right (by assumption)))) | exact And.right (And.right (And.right (And.right (And.right (by assumption))))) | exact And.right (And.right (And.right (And.right (And.right (And.right (by assumption)))))) | exact And.right (And.right (And.right (And.right (And.right (And.right (And.right (by assumption))))))) | exact And.right (And.right (And.right (And.right (And.right (And.right (And.right (And.right (by assumption)))))))) | exact And.right (And.right (And.right (And.right (And.right (And.right (And.right (And.right (And.right (by assumption))))))))) | exact And.right (And.right (And.right (And.right (And.right (And.right (And.right (And.right (And.right (And.right (by assumption)))))))))) | exact And.right (And.right (And.right (And.right (And.right (And.right (And.right (And.right (And.right (And.right (And.right (by assumption))))))))))) | exact And.right (And.right (And.right (And.right (And.right (And.right (And.right (And.right (And.right (And.right (And.right (And.right (by assumption)))))))))))) | exact And.right (And.right (And.right (And.right (And.right (And.right (And.right (And.right (And.right (And.right (And.right (And.right (And.right (by assumption))))))))))))) | exact And.right (And.right (And.right (And.right (And.right (And.right (And.right (And.right (And.right (And.right (And.right (And.right (And.right (And.right (by assumption)))))))))))))) | exact And.right (And.right (And.right (And.right (And.right (And.right (And.right (And.right (And.right (And.right (And.right (And.right (And.right (And.right (And.right (by assumption))))))))))))))))))
  trivial
theorem c_on_extensions (w : World) (tt : Nat → Tok) (x d cf p eva : Addr) (tb twh ttr th c1 c2 c3 c4 : Tok) (role st lo ky pp pr ic icf dr vr vq vm : Value) (btr bb bw bh : Array UInt8) (tr body pa pb whole : List Int) (ocfg : Obj) (evs : Array Value) (np ne : Nat) (rest : List (Addr × Obj))
    (hcfg : ocfg.IsDictOf (strKind Challenge.rw_pf0268_01.row.prog w) (strPairs [(.str (Str.ofString "random") c1, vr), (.str (Str.ofString "protocols") c2, .ref p), (.str (Str.ofString "params") c3, vq), (.str (Str.ofString "most") c4, vm)]))
    (hBt : KBw.bInts btr = tr) (hBb : KBw.bInts bb = body) (hBw : KBw.bInts bw = whole) (hbody : body = fld pa ++ fld pb) (hBh : KBw.bInts bh = pa) (hpa : pa.length < 1000) (hpb : pb.length < 1000) (htr : tr.length + whole.length < 5000) (hes : evs.size < 100) (hxd : x ≠ d) (hcd : cf ≠ d) (hed : eva ≠ d) (hpd : p ≠ d) (hxe : x ≠ eva) (hce : cf ≠ eva) (hpe : p ≠ eva) (hr1 : ∀ p ∈ rest, p.1 ≠ d) (hr3 : ∀ p ∈ rest, p.1 ≠ eva) :
    ConL 10 w 269 [.ref x, .bytes bb tb, .bytes bw twh] ((x, instObj 328 d) :: (d, SD w tt role (.ref cf) st (.bytes btr ttr) lo ky (.ref eva) pp pr ic icf dr) :: (cf, ocfg) :: (p, W.listOf #[.bytes bh th] np) :: (eva, W.listOf evs ne) :: rest)
      (fun r nw => ∃ S n U V ne' b' t' ts b1 t1 b2 t2, r = .ref S ∧ KBw.bInts b' = tr ++ whole ∧ KBw.bInts b1 = pa ∧ KBw.bInts b2 = pb ∧ (∀ p ∈ rest, p.1 ≠ S) ∧ nw = (S, W.listOf #[] n) :: (x, instObj 328 d) :: (d, SD w tt role (.ref cf) (.str (Str.ofString "wait_server_finished") ts) (.bytes b' t') lo ky (.ref eva) (.bytes b2 t2) (.bytes b1 t1) ic icf dr) :: (cf, ocfg) :: (p, W.listOf #[.bytes bh th] np) :: (eva, W.listOf ((evs.push (.ref U)).push (.ref V)) ne') :: rest) := by
  run_tac Mine.Sh.mark
  unfold ConL
  k_fill
  intro mean mg mb dp un gd cn cs a ccd cl outer A₀ base h₀ L m s Q E X B F N T hk hd1 hu1 hret
  k_with "M150" => (refine' useL (c_read_extensions w _ hBb hbody hpa hpb) ?x1 ?x2 ?x3 ?x4 ?x5 ?x6 ?x7 ?x8 ?_; walk_at "M args"; (intro r9 nw9 h9 tk9 F9 N9 hR; obtain ⟨T9, e9, ba, ta, bc, tc, k9, e8, g0, g1⟩ := hR; subst e9; subst e8))
  refine wpAny_call ?_
  k_dflt walk_at "M enter"
  k_steps
  all_goals (rename News h₀ L _ _ => hN; exact hret _ _ _ _ (by k_asm) (show News h₀ L _ (_ :: (x, instObj 328 d) :: _) from by first | exact hN | exact sub_1_2 hN | exact sub_1_2 (sub_1_2 hN) | exact sub_1_2 (sub_1_2 (sub_1_2 hN)) | exact sub_1_2 (sub_1_2 (sub_1_2 (sub_1_2 hN))) | exact sub_1_2 (sub_1_2 (sub_1_2 (sub_1_2 (sub_1_2 hN))))) ⟨_, _, _, _, _, _, _, _, _, _, _, _, rfl, (by assumption), g0, g1, (by walk_at "M fresh"), rfl⟩)
  run_tac Mine.Sh.fin
end
-- P14
section
theorem permF {h₀ h : Heap} {L : Addr} {v p a b c e o : Addr × Obj} {l : List (Addr × Obj)} (N : News h₀ L h (v :: p :: a :: b :: c :: e :: o :: l)) : News h₀ L h (o :: p :: a :: b :: c :: e :: l) := fun q hq => N q (by revert hq; revert q; repeat' (first | exact List.Mem.head _ | exact fun _ h => h | exact fun _ h => List.mem_append_left _ h | exact List.forall_mem_nil _ | refine mem_step ?_ ?_ | refine app_step ?_ ?_ | refine List.Mem.tail _ ?_ | refine sub_tail ?_ | refine sub_right ?_ | refine List.mem_append_right _ ?_))
theorem rot4 {h₀ h : Heap} {L : Addr} {o a b c e : Addr × Obj} {l : List (Addr × Obj)} (N : News h₀ L h (o :: a :: b :: c :: e :: l)) : News h₀ L h (a :: b :: c :: e :: o :: l) := fun p hp => N p (by revert hp; revert p; repeat' (first | exact List.Mem.head _ | exact fun _ h => h | exact fun _ h => List.mem_append_left _ h | exact List.forall_mem_nil _ | refine mem_step ?_ ?_ | refine app_step ?_ ?_ | refine List.Mem.tail _ ?_ | refine sub_tail ?_ | refine sub_right ?_ | refine List.mem_append_right _ ?_))
theorem line_P14 : True := by
  w_top off
  run_tac Mine.Sh.keep 25
  k_with "G bytes" => ((
      intro r9 h9 tk9 F9 N9 hR
      obtain ⟨b9, t9, e9, hB9⟩ := hR
      subst e9))
  k_with "G call" => ((
      (with_reducible show wpG _ _ (call (Value.ref 68) _) _ _ _)
      k_dflt (
       (first
       | refine' useGP (c_pw2 _ _ _ _ ?p0 ?p1) ?x1 ?x2 ?x3 ?x4 ?x5 ?x6 ?x7 ?x8 ?_
       | refine' useGP (c_pw1 _ _ _ _ ?p0 ?p1) ?x1 ?x2 ?x3 ?x4 ?x5 ?x6 ?x7 ?x8 ?_
       | refine' useGP (c_pw3 _ _ _ _ ?p0 ?p1) ?x1 ?x2 ?x3 ?x4 ?x5 ?x6 ?x7 ?x8 ?_
       | refine' useGP (c_pw8 _ _ _ _ ?p0 ?p1) ?x1 ?x2 ?x3 ?x4 ?x5 ?x6 ?x7 ?x8 ?_)
       walk_at "M args"
       (case p0 => walk_at "M pre")
       (case p1 => walk_at "M pre")
       walk_at "G bytes")))
  k_with "ite" => ((k_here; k_openite; k_dflt (first
      | refine ite_neg (by (simp only [bne_iff_ne, beq_iff_eq, ne_eq, decide_eq_true_eq]; omega)) ?_
      | refine ite_pos (by (simp only [bne_iff_ne, beq_iff_eq, ne_eq, decide_eq_true_eq]; omega)) ?_)))
  k_with "k_mem" => (assumption)
  k_with "getMethod bytes" => ((k_here; (with_reducible refine bj_method ?_)))
  k_with "getMethod str" => ((k_here; (with_reducible refine en_method ?_)))
  k_with "call builtin:bytes.join" => ((k_here; k_dflt (refine' bj_one (News.get ?N ?m) ?_; (case N => k_asm); (case m => k_mem))))
  k_with "call builtin:str.encode" => ((k_here; k_dflt (first
      | (with_reducible refine' en_call (en_c _ _) ?hb ?_; (case hb => decide))
      | (with_reducible refine' en_call (en_s _ _) ?hb ?_; (case hb => decide))
      | (with_reducible refine' en_call (en_h _ _) ?hb ?_; (case hb => decide))
      | (with_reducible refine' en_call (en_a _ _) ?hb ?_; (case hb => decide)))))
  k_with "G call" => ((
      (with_reducible show wpG _ _ (call (Value.ref 129) _) _ _ _)
      k_dflt (
       refine' useGP (c_server_hello _ _ _ _ ?p0 ?p1) ?x1 ?x2 ?x3 ?x4 ?x5 ?x6 ?x7 ?x8 ?_
       walk_at "M args"
       (case p0 => walk_at "M pre")
       (case p1 => walk_at "M pre")
       walk_at "G bytes")))
  k_with "G call" => ((
      (with_reducible show wpG _ _ (call (Value.ref 143) _) _ _ _)
      k_dflt (
       refine' useGP (c_extensions _ _ _ _ _ _ _ ?p0 ?p1 ?p2) ?x1 ?x2 ?x3 ?x4 ?x5 ?x6 ?x7 ?x8 ?_
       walk_at "M args"
       (case p0 => walk_at "M pre")
       (case p1 => walk_at "M pre")
       (case p2 => walk_at "M pre")
       walk_at "G bytes")))
  k_with "G call" => ((
      (with_reducible show wpG _ _ (call (Value.ref 164) _) _ _ _)
      k_dflt (
       refine' useGP (c_finished _ _ _ _ _ _ _ ?p0 ?p1 ?p2) ?x1 ?x2 ?x3 ?x4 ?x5 ?x6 ?x7 ?x8 ?_
       walk_at "M args"
       (case p0 => walk_at "M pre")
       (case p1 => walk_at "M pre")
       (case p2 => walk_at "M pre")
       walk_at "G bytes")))
  k_with "G call" => ((
      (with_reducible show wpG _ _ (call (Value.ref 171) _) _ _ _)
      k_dflt (
       refine' useGP (c_toy_key _ _ _ _ _ _ _ ?p0 ?p1 ?p2) ?x1 ?x2 ?x3 ?x4 ?x5 ?x6 ?x7 ?x8 ?_
       walk_at "M args"
       (case p0 => walk_at "M pre")
       (case p1 => walk_at "M pre")
       (case p2 => walk_at "M pre")
       walk_at "G bytes")))
  k_with "G call" => ((
      (with_reducible show wpG _ _ (call (Value.ref 103) _) _ _ _)
      k_dflt (
       refine' useGP (c_put_field _ _ _ _ ?p0 ?p1) ?x1 ?x2 ?x3 ?x4 ?x5 ?x6 ?x7 ?x8 ?_
       walk_at "M args"
       (case p0 => walk_at "M pre")
       (case p1 => walk_at "M pre")
       walk_at "G bytes")))
  k_with "G call" => ((
      (with_reducible show wpG _ _ (call (Value.ref 89) _) _ _ _)
      k_dflt (
       refine' useGP (c_put_message _ _ _ _ _ _ ?p0 ?p1 ?p2 ?p3) ?x1 ?x2 ?x3 ?x4 ?x5 ?x6 ?x7 ?x8 ?_
       walk_at "M args"
       (case p0 => walk_at "M pre")
       (case p1 => walk_at "M pre")
       (case p2 => walk_at "M pre")
       (case p3 => walk_at "M pre")
       walk_at "G bytes")))
  k_with "G call" => ((
      (with_reducible show wpG _ _ (call (Value.ref 157) _) _ _ _)
      k_dflt (
       refine' useGP (c_toy_sum _ _ _ _ _ _ _ ?p0 ?p1 ?p2) ?x1 ?x2 ?x3 ?x4 ?x5 ?x6 ?x7 ?x8 ?_
       walk_at "M args"
       (case p0 => walk_at "M pre")
       (case p1 => walk_at "M pre")
       (case p2 => walk_at "M pre")
       walk_at "G bytes")))
  k_with "M args3" => (((case x1 => k_asm); (case x2 => k_asm); (case x3 => k_asm); (case x5 => k_asm); (case x6 => first | exact rfl | assumption); (case x7 => ktr_room); (case x8 => ktr_units)))
  k_with "getItem ref str" => ((k_here; k_dflt (refine' kd_get ?N ?m ?d (val_stored _ _ _) ?_; (case N => k_asm); (case m => k_mem); (case d => k_asm))))
  k_with "setItem ref str" => ((k_here; (with_reducible show wpAny _ _ (setItem (Value.ref _) (Value.str _ _) (Value.bytes _ _)) _ _ _); k_dflt (refine' kda_set (knd := PySem.strKind _ _) ?F ?N ?U ?d (strKind_is _ _ _ _) ?z ?_; (case F => k_asm); (case N => k_asm); (case U => k_updF); (case d => k_asm); (case z => rw [sizeLine_eq]; omega); intro h' o' F' N' hd'; (try dsimp only at N'); (try k_sweep))))
  k_with "subscriptTail" => ((k_here; (with_reducible show wpAny _ _ (subscriptTail _ _ (Value.ref _) (Value.str _ _)) _ _ _); k_dflt (refine kda_item (knd := PySem.strKind _ _) (by k_asm) (by k_mem) (by k_asm) (strKind_is _ _ _ _) (val_stored _ _ _) ?_)))
  k_with "k_ne" => (first | assumption | exact Ne.symm (by assumption) | exact ne_cls (by k_asm) (by k_mem) (by k_mem) (by rfl))
  k_with "k_all" => (assumption)
  k_with "call ref" => ((k_here; (with_reducible show wpAny _ _ (call (Value.ref 136) _) _ _ _); k_extra "M136"))
  k_with "call ref" => ((k_here; (with_reducible show wpAny _ _ (call (Value.ref 150) _) _ _ _); k_extra "M150"))
  k_with "G call" => (((with_reducible show wpG _ _ (call (Value.ref 248) _) _ _ _); k_dflt (k_extra "M248")))
  k_with "wpG" => (((with_reducible show wpG _ _ (eval (Expr.Tuple [_, Expr.Call _ _ _ _] _ _) _) _ _ _); with_reducible refine wpG_Tuple ?_))
  k_with "compareOp NotIn bytes ref" => ((k_here; k_dflt (refine' notin_same ?N ?m ?b ?c ?_; (case N => k_asm); (case m => k_mem); (case b => assumption); (case c => assumption))))
  k_with "compareOp NotEq bytes bytes" => ((k_here; k_dflt (refine' ne_same ?b ?c ?_; (case b => assumption); (case c => assumption))))
  k_with "M fresh" => ((first | assumption | exact allLt_ne (allLt_of (by assumption)) | exact allLt_ne (by first | assumption | exact And.right (by assumption) | exact And.right (And.right (by assumption)) | exact And.right (And.right (And.right (by assumption))) | exact And.right (And.right (And.right (And.right (by assumption)))) | exact And.right (And.right (And.right (And.right (And.right (by assumption))))) | exact And.right (And.right (And.right (And.right (And.right (And.right (by assumption)))))) | exact And.right (And.right (And.right (And.right (And.right (And.right (And.right (by assumption))))))) | exact And.right (And.right (And.right (And.right (And.right (And.right (And.right (And.right (by assumption)))))))) | exact And.right (And.right (And.right (And.right (And.right (And.right (And.right (And.right (And.right (by assumption))))))))) | exact And.right (And.right (And.right (And.right (And.right (And.right (And.right (And.right (And.right (And.right (by assumption)))))))))) | exact And.right (And.right (And.right (And.right (And.right (And.right (And.right (And.right (And.right (And.right (And.right (by assumption))))))))))) | exact And.right (And.right (And.right (And.right (And.right (And.right (And.right (And.right (And.right (And.right (And.right (And.right (by assumption)))))))))))) | exact And.right (And.right (And.right (And.right (And.right (And.right (And.right (And.right (And.right (And.right (And.right (And.right (And.right (by assumption))))))))))))) | exact And.right (And.right (And.right (And.right (And.right (And.right (And.right (And.right (And.right (And.right (And.right (And.right (And.right (And.right (by assumption)))))))))))))) | exact And.right (And.right (And.right (And.right (And.right (And.right (And.right (And.right (And.right (And.right (And.right (And.right (And.right (And.right (And.right (by assumption))))))))))))))))))
  trivial
theorem c_on_finished_c (w : World) (tt : Nat → Tok) (x d ka eva : Addr) (tb twh ttr tro : Tok) (cfg st lo pp pr ic icf dr : Value) (btr bb bw : Array UInt8) (tr whole : List Int) (oky : Obj) (kvs : List (Str × Value)) (evs : Array Value) (ne : Nat) (rest : List (Addr × Obj))
    (hky : oky.IsDictOf (strKind Challenge.rw_pf0268_01.row.prog w) kvs) (hBt : KBw.bInts btr = tr) (hBb : KBw.bInts bb = tsum [115, 101, 114, 118, 101, 114, 32, 102, 105, 110, 105, 115, 104, 101, 100] tr) (hBw : KBw.bInts bw = whole) (htr : tr.length + whole.length < 5000) (hes : evs.size < 100) (hkz : kvs.length < 10) (hxd : x ≠ d) (hkd : ka ≠ d) (hed : eva ≠ d) (hxk : x ≠ ka) (hek : eva ≠ ka) (hxe : x ≠ eva) (hr1 : ∀ p ∈ rest, p.1 ≠ d) (hr2 : ∀ p ∈ rest, p.1 ≠ ka) (hr3 : ∀ p ∈ rest, p.1 ≠ eva) :
    ConG 16 w 276 [.ref x, .bytes bb tb, .bytes bw twh] ((x, instObj 328 d) :: (d, SD w tt (.str (Str.ofString "client") tro) cfg st (.bytes btr ttr) lo (.ref ka) (.ref eva) pp pr ic icf dr) :: (ka, oky) :: (eva, W.listOf evs ne) :: rest)
      (fun r nw => ∃ S n P bm tm th np oky' kvs' U V ne' b' t' ts, r = .ref S ∧ KBw.bInts b' = tr ++ whole ∧ KBw.bInts bm = msg 20 (tsum [99, 108, 105, 101, 110, 116, 32, 102, 105, 110, 105, 115, 104, 101, 100] (tr ++ whole)) ∧ oky'.IsDictOf (strKind Challenge.rw_pf0268_01.row.prog w) kvs' ∧ kvs'.length ≤ kvs.length + 1 ∧ (∀ p ∈ rest, p.1 ≠ S) ∧ (∀ p ∈ rest, p.1 ≠ P) ∧
        nw = (S, W.listOf #[.ref P] n) :: (P, { cls := .type "tuple", data := .seq #[.str (Str.ofString "handshake") th, .bytes bm tm] np }) :: (x, instObj 328 d) :: (d, SD w tt (.str (Str.ofString "client") tro) cfg (.str (Str.ofString "done") ts) (.bytes b' t') lo (.ref ka) (.ref eva) pp pr (.bool true) icf dr) :: (ka, oky') :: (eva, W.listOf ((evs.push (.ref U)).push (.ref V)) ne') :: rest) := by
  run_tac Mine.Sh.mark
  unfold ConG
  k_fill
  intro mean mg mb dp un gd cn cs a ccd cl outer A₀ base h₀ L m s Q X B F N T hk hd1 hu1 hret
  k_with "M248" => (refine' useG (c_ready_a w tt x d ka eva _ _ _ _ _ _ _ _ _ _ _ _ (tr ++ whole) oky kvs evs ne _ hky (by walk_at "M ints") (by simp only [List.length_append]; omega) hes hkz hxd hkd hed hxk hek hxe ?q1 ?q2 ?q3) ?x1 ?x2 ?x3 ?x4 ?x5 ?x6 ?x7 ?x8 ?_; (case x4 => exact rot4 (by k_asm)); walk_at "M args3"; (case q1 => k_all); (case q2 => k_all); (case q3 => k_all); (intro r9 nw9 h9 tk9 F9 N9 hR; obtain ⟨oky', kvs', U, ne', e9, hky', hkz', e8⟩ := hR; subst e9; subst e8))
  refine wpG_call ?_
  k_dflt (refine' codeG_defN (binds := [(Str.ofString "self", .ref x), (Str.ofString "body", .bytes bb tb), (Str.ofString "whole", .bytes bw twh)]) ?k1 ?k2 ?k3 ?k4 ?k5 ?kA ?kF ?kK ?k6 ?k7 ?k8 ?k9 ?kB ?_ ?c2 ?c3 ?c4 ?c5; walk_at "G entered")
  walk_at "G steps"
  all_goals (rename News h₀ L _ _ => hN; exact hret _ _ _ _ (by k_asm) (permF hN) ⟨_, _, _, _, _, _, _, oky', kvs', U, _, _, _, _, _, rfl, (by assumption), (by assumption), hky', hkz', (by walk_at "M fresh"), (by walk_at "M fresh"), rfl⟩)
  run_tac Mine.Sh.fin
end
-- EX
section
open PySem.Sem (wp)
noncomputable def Firm (P : Obj → Prop) : Prop := ∀ (o : Obj) f, P o → P (o.mapFields f)
theorem firm_dict (C : Value) (dA : Option Addr) : Firm fun o => o.cls = C ∧ o.dict = dA := fun o f h => by
  refine ⟨(Obj.cls_mapFields o f).trans h.1, ?_⟩
  rw [← h.2]; unfold Obj.mapFields; split <;> rfl
noncomputable def TrD (h base : Heap) (e : Addr) (P : Obj → Prop) (fl : Value) : Prop :=
  ∃ oe vs T oT ts, h.get? e = some oe ∧ P oe ∧ oe.data = .fields vs ∧ vs[1]? = some (.ref T) ∧ base.get? T = none ∧ T ≠ e ∧ h.get? T = some oT ∧ oT.data = .fields ts ∧ ts[3]? = some fl
noncomputable def HeldD (base : Heap) (l : List Env) (e : Addr) (P : Obj → Prop) (fl : Value) (h : Heap) : Prop :=
  base.StaysIn h ∧ base.get? e = none ∧ h.FunFrames base l ∧ TrD h base e P fl
theorem HeldD.there {base h : Heap} {l : List Env} {e : Addr} {P : Obj → Prop} {fl : Value} (x : HeldD base l e P fl h) : ∃ ob vs, h.get? e = some ob ∧ P ob ∧ ob.data = .fields vs :=
  let ⟨_, _, _, oe, vs, _, _, _, he, hp, hd, _⟩ := x; ⟨oe, vs, he, hp, hd⟩
section
variable {M : Model} {A : Around} {E : Value → Shared → Prop} {s : Shared} {P : Obj → Prop}
theorem entryD {base : Heap} {env : Env} {outer : List Env} {L e : Addr} {oe : Obj} {vs : Array Value} {head : Value} {hadNext : Bool} {Q : Unit → Shared → Prop} (hP : Firm P) (hPe : P oe)
    (hfr : A.frames = some (env :: outer)) (hl : s.heap.FunFrames base (env :: outer)) (hf : env.frame = some L)
    (he : s.heap.get? e = some oe) (hkb : base.StaysIn s.heap) (hen : base.get? e = none) (hd : oe.data = .fields vs) (hsz : 1 < vs.size)
    (h : ∀ h', HeldD base (env :: outer) e P (rawInt L) h' → s.heap.UpToSlots h' → Q () { s with heap := h' }) :
    wpAny M A (do let a ← frameOf env; let pl ← entryPlaceOf L hadNext; let b ← EntryCells.newEntry head a .none (rawInt L) .none pl; setField (.ref e) 1 b) Q E s := by
  run_tac Mine.Sh.mark
  have hene : e ∉ (env :: outer).filterMap (·.frame) := fun hm => by
    obtain ⟨_, o, ho, hnf⟩ := hl.mem hm
    rw [he] at ho
    exact hnf vs (Option.some.inj ho ▸ hd)
  refine wpAny_bind (wpAny_frameOf_fun hfr hl hf fun h₁ hs₁ => wpAny_bind (wpAny_entryPlaceOf fun pl hpl => ?_))
  unfold EntryCells.newEntry newFields
  refine wpAny_bind (wpAny_newObj_type ?_ (hpl.sizeOk5 _ _ _ _ _))
  have he₁ : h₁.get? e = some oe := (hs₁.2.1 e hene).trans he
  have kb₁ : base.StaysIn h₁ := fun b o hbo => (hs₁.2.1 b fun hm => by rw [(hl.mem hm).1] at hbo; cases hbo).trans (hkb b o hbo)
  generalize hT : ({ cls := .type "traceback", dict := none, data := .fields ([head, .ref L, .none, rawInt L, .none] ++ (if pl.isEmpty then List.replicate 6 Value.none else pl)).toArray } : Obj) = oT
  have hTf : oT.isFreed = false := by rw [← hT]; rfl
  have he₂ : (h₁.push oT).get? e = some oe := Heap.get?_push_of_some _ he₁
  refine wpAny_setField he₂ hd hsz ?_
  have hTe : h₁.objs.size ≠ e := Nat.ne_of_gt (Heap.lt_size he₁)
  have hd₃ := Obj.data_mapFields hd (·.setIfInBounds 1 (Value.ref h₁.objs.size))
  have he₃ := Heap.get?_update_self (Obj.mapFields (·.setIfInBounds 1 (Value.ref h₁.objs.size))) he₂ (Obj.isFreed_of_fields hd₃)
  have hT₃ : ((h₁.push oT).update e (Obj.mapFields (·.setIfInBounds 1 (Value.ref h₁.objs.size)))).get? h₁.objs.size = some oT :=
    (Heap.get?_update_other _ _ (Ne.symm hTe)).trans (Heap.get?_push_size h₁ hTf)
  have keep : ∀ b o, b ≠ e → h₁.get? b = some o → ((h₁.push oT).update e (Obj.mapFields (·.setIfInBounds 1 (Value.ref h₁.objs.size)))).get? b = some o := fun b o hbe hb =>
    (Heap.get?_update_other _ _ (Ne.symm hbe)).trans (Heap.get?_push_of_some _ hb)
  have plain : ∀ b o, s.heap.get? b = some o → (∀ vs, o.data ≠ .fields vs) → b ≠ e := fun b o hb hnf q => by
    rw [q, he] at hb
    exact hnf vs (Option.some.inj hb ▸ hd)
  refine h _ ⟨fun b o hbo => keep b o (fun q => by rw [q, hen] at hbo; cases hbo) (kb₁ b o hbo), hen, hl.of_keeps fun b o hb hnf => ?_, ?_⟩ fun b o hb hnf => ?_
  · obtain ⟨sl, hs⟩ := hs₁.2.2 b o hb
    exact ⟨_, keep b _ (plain b o hb hnf) hs, rfl⟩
  · subst hT
    exact ⟨_, _, h₁.objs.size, _, _, he₃, hP _ _ hPe, hd₃, by simp [hsz], kb₁.fresh, hTe, hT₃, rfl, by simp⟩
  · obtain ⟨sl, hs⟩ := hs₁.2.2 b o hb
    exact ⟨sl, keep b _ (plain b o hb hnf) hs⟩
  run_tac Mine.Sh.fin
theorem noteD_first {base : Heap} {env : Env} {outer : List Env} {L e : Addr} {oe : Obj} {vs : Array Value} {Q : Unit → Shared → Prop} (hP : Firm P) (hPe : P oe)
    (hfr : A.frames = some (env :: outer)) (hl : s.heap.FunFrames base (env :: outer)) (hf : env.frame = some L)
    (he : s.heap.get? e = some oe) (hkb : base.StaysIn s.heap) (hen : base.get? e = none) (hd : oe.data = .fields vs) (h1 : vs[1]? = some .none)
    (h : ∀ h', HeldD base (env :: outer) e P (rawInt L) h' → s.heap.UpToSlots h' → Q () { s with heap := h' }) : wpAny M A (noteFrame (.ref e) env) Q E s := by
  run_tac Mine.Sh.mark
  unfold noteFrame
  simp only [hf]
  refine wpAny_bind (wpAny_field he hd h1 ?_)
  rw [if_neg (by decide)]
  exact entryD hP hPe hfr hl hf he hkb hen hd (Array.getElem?_eq_some_iff.mp h1).1 h
  run_tac Mine.Sh.fin
theorem noteD_next {base : Heap} {env : Env} {outer : List Env} {L e : Addr} {Q : Unit → Shared → Prop} (hP : Firm P)
    (hfr : A.frames = some (env :: outer)) (hf : env.frame = some L) (hh : HeldD base (env :: outer) e P .none s.heap)
    (h : ∀ h', HeldD base (env :: outer) e P (rawInt L) h' → s.heap.UpToSlots h' → Q () { s with heap := h' }) : wpAny M A (noteFrame (.ref e) env) Q E s := by
  run_tac Mine.Sh.mark
  obtain ⟨hkb, hen, hl, oe, vs, T, oT, ts, he, hPe, hd, h1, hnT, hTe, hT, hdT, h3⟩ := hh
  unfold noteFrame
  simp only [hf]
  refine wpAny_bind (wpAny_field he hd h1 ?_)
  rw [if_pos (show (Value.ref T != Value.none) = true from by simp)]
  refine wpAny_bind (wpAny_field hT hdT h3 ?_)
  rw [if_neg (show ¬ ((Value.none == rawInt L) = true) from by simp [rawInt])]
  refine wpAny_bind (wpAny_setField hT hdT (Array.getElem?_eq_some_iff.mp h3).1 ?_)
  have other : ∀ b, b ≠ T → (s.heap.update T (Obj.mapFields (·.setIfInBounds 3 Value.none))).get? b = s.heap.get? b := fun b hb => Heap.get?_update_other _ _ (Ne.symm hb)
  have plain : ∀ b o, s.heap.get? b = some o → (∀ vs, o.data ≠ .fields vs) → b ≠ T := fun b o hb hnf q => by
    rw [q, hT] at hb
    exact hnf ts (Option.some.inj hb ▸ hdT)
  exact entryD hP hPe hfr (hl.of_keeps fun b o hb hnf => ⟨o, (other b (plain b o hb hnf)).trans hb, rfl⟩) hf ((other e (Ne.symm hTe)).trans he)
    (fun b o hbo => (other b fun q => by rw [q, hnT] at hbo; cases hbo).trans (hkb b o hbo)) hen hd (Array.getElem?_eq_some_iff.mp h1).1
    fun h' x1 x2 => h h' x1 fun b o hb hnf => x2 b o ((other b (plain b o hb hnf)).trans hb) hnf
  run_tac Mine.Sh.fin
theorem flightD {base : Heap} {l : List Env} {e : Addr} {fl : Value} {Q : Unit → Shared → Prop} (hh : HeldD base l e P fl s.heap)
    (h : ∀ h', HeldD base l e P .none h' → s.heap.UpToSlots h' → Q () { s with heap := h' }) : wpAny M A (setFlight (.ref e) none) Q E s := by
  run_tac Mine.Sh.mark
  obtain ⟨hkb, hen, hl, oe, vs, T, oT, ts, he, hPe, hd, h1, hnT, hTe, hT, hdT, h3⟩ := hh
  have hsz3 : 3 < ts.size := (Array.getElem?_eq_some_iff.mp h3).1
  have other : ∀ b, b ≠ T → (s.heap.update T (Obj.mapFields (·.setIfInBounds 3 ((none : Option Addr).elim Value.none fun f => rawInt f)))).get? b = s.heap.get? b :=
    fun b hb => Heap.get?_update_other _ _ (Ne.symm hb)
  have plain : ∀ b o, s.heap.get? b = some o → (∀ vs, o.data ≠ .fields vs) → b ≠ T := fun b o hb hnf q => by
    rw [q, hT] at hb
    exact hnf ts (Option.some.inj hb ▸ hdT)
  unfold setFlight
  refine wpAny_bind (wpAny_field he hd h1 ?_)
  rw [if_pos (show (Value.ref T != Value.none) = true from by simp)]
  refine wpAny_setField hT hdT hsz3 (h _ ⟨fun b o hbo => (other b fun q => by rw [q, hnT] at hbo; cases hbo).trans (hkb b o hbo), hen,
    hl.of_keeps fun b o hb hnf => ⟨o, (other b (plain b o hb hnf)).trans hb, rfl⟩, ?_⟩ fun b o hb hnf => ⟨o.slots, (other b (plain b o hb hnf)).trans hb⟩)
  exact ⟨oe, vs, T, _, _, (other e (Ne.symm hTe)).trans he, hPe, hd, h1, hnT, hTe, Heap.get?_update_self _ hT (Obj.isFreed_of_fields (Obj.data_mapFields hdT _)), Obj.data_mapFields hdT _, by simp [hsz3]⟩
  run_tac Mine.Sh.fin
theorem HeldD.pop {base h : Heap} {env : Env} {l : List Env} {e : Addr} {fl : Value} (x : HeldD base (env :: l) e P fl h) : HeldD base l e P fl h :=
  ⟨x.1, x.2.1, x.2.2.1.2.2, x.2.2.2⟩
theorem leaveD_first {base : Heap} {env : Env} {outer : List Env} {L e : Addr} {oe : Obj} {vs : Array Value} {Q : Unit → Shared → Prop} (hP : Firm P) (hPe : P oe)
    (hfr : A.frames = some (env :: outer)) (hl : s.heap.FunFrames base (env :: outer)) (hf : env.frame = some L)
    (he : s.heap.get? e = some oe) (hkb : base.StaysIn s.heap) (hen : base.get? e = none) (hd : oe.data = .fields vs) (h1 : vs[1]? = some .none)
    (h : ∀ h', HeldD base outer e P .none h' → s.heap.UpToSlots h' → Q () { s with heap := h' }) : wpAny M A (leaving env (.ref e)) Q E s := by
  run_tac Mine.Sh.mark
  unfold leaving
  exact wpAny_bind (noteD_first hP hPe hfr hl hf he hkb hen hd h1 fun h₁ x u => flightD x fun h₂ y v => h h₂ y.pop (u.trans v))
  run_tac Mine.Sh.fin
theorem leaveD_next {base : Heap} {env : Env} {outer : List Env} {L e : Addr} {Q : Unit → Shared → Prop} (hP : Firm P)
    (hfr : A.frames = some (env :: outer)) (hf : env.frame = some L) (hh : HeldD base (env :: outer) e P .none s.heap)
    (h : ∀ h', HeldD base outer e P .none h' → s.heap.UpToSlots h' → Q () { s with heap := h' }) : wpAny M A (leaving env (.ref e)) Q E s := by
  unfold leaving
  exact wpAny_bind (noteD_next hP hfr hf hh fun h₁ x u => flightD x fun h₂ y v => h h₂ y.pop (u.trans v))
end
end
-- EY
section
section
variable {prog : Program} {w : World} {A : Around} {R : Result → Shared → Prop} {h : Heap} {g : Array GenState} {d : Drawn} {t : Nat} {os : OsState}
variable {nm q : Str} {C N : Addr} {bs bm : List Value} {hdct : Bool} {sn : List Str} {sub : List Value} {ab : Bool} {col : Option Bool} {dd : Option Addr} {k0 k1 k2 k3 k5 : Option Value} {B newId initId : String}
abbrev excAt (C T : Addr) (dA : Option Addr) : Obj := { cls := .ref C, dict := dA, data := .fields #[.ref T, .none, .none, .none, .bool false, .none] }
abbrev tupOf (vs : List Value) : Obj := { cls := .type "tuple", data := .seq vs.toArray }
theorem make_exc (F : ExcBaseFacts B newId initId bm) {rest : List Value} {fI : Addr}
    (hC : h.get? C = some (excClassObj nm q C N bs bm hdct sn sub ab col dd k0 k1 k2 k3 k5 newId)) (hi : Looks (model prog w) h (typeLookup (.ref C) "__init__") (some (.ref fI)))
    (hb : ∀ self, Looks (model prog w) h (bindSpecial (.ref fI) self) (.ref fI, [self]))
    (hq : codeAny (model prog w) (A.under (.builtin "type.__call__" ⟨.ref C :: rest, []⟩)) (.call (.ref fI) ⟨.ref (h.objs.size + 1) :: rest, []⟩) (InitBack (h.objs.size + 1) R) ⟨(h.push (tupOf rest)).push (excAt C h.objs.size none), g, d, t, os⟩)
    (hrest : rest.length ≤ sizeLine := by size_fits) : codeAny (model prog w) A (.call (.ref C) ⟨rest, []⟩) R ⟨h, g, d, t, os⟩ := by
  run_tac Mine.Sh.mark
  refine codeAny_of_tree ?_
  show wpAny _ _ (callAny (.ref C) _) _ _ _
  have f1 := tc_lookup
  have f2 := tc_bind (.ref C)
  have hT : (⟨h, g, d, t, os⟩ : Shared).TypeIs (.ref C) "type" := ⟨_, hC, rfl⟩
  repeat (any_goals (first | assumption | with_reducible refine wpAny_loadPart_at hC ?_ | wp_step))
  refine ⟨rfl, ?_⟩
  refine codeAny_call_builtin_at (Code.quiet_builtin _ (by decide +kernel)) entry_typeCall (wpAny_check_type_call_sub hC ?_)
  unfold Builtin.«type.__call__»
  repeat (first | with_reducible refine wpAny_loadPart_at hC ?_ | with_reducible refine wpAny_madeBy_exc hC ?_ | wp_step)
  refine codeAny_call_builtin_code (Code.quiet_builtin _ F.quiet) (wpAny_check_new_sub F hC ?_)
  refine codeAny_exc_new_sub F hC ?_ hrest
  show wpAny _ _ _ _ _ _
  simp only [show ∀ l : List Value, List.append [] l = l from fun _ => rfl]
  have k : ∀ b o, h.get? b = some o → ((h.push (tupOf rest)).push (excAt C h.objs.size none)).get? b = some o := fun b o e => Heap.get?_push_of_some _ (Heap.get?_push_of_some _ e)
  have hC₁ := k _ _ hC
  have hget : ((h.push (tupOf rest)).push (excAt C h.objs.size none)).get? (h.objs.size + 1) = some (excAt C h.objs.size none) := by heap_get
  have hcC : (Value.ref C :: bm).contains (.ref C) = true := by simp
  have t1 : Looks (model prog w) ((h.push (tupOf rest)).push (excAt C h.objs.size none)) (typeOf (.ref (h.objs.size + 1))) (.ref C) := (Looks.ld hget).andThen .now
  have i1 := hi.keeps k
  have b1 := (hb (.ref (h.objs.size + 1))).keeps k
  unfold isInstance
  repeat (first | with_reducible refine wpAny_loadPart_at hget ?_ | (with_reducible refine wpAny_isSubtype_exc hC₁ ?_; rw [hcC]) | wp_step)
  show wpAny _ _ (typeLookup (.ref C) _) _ _ _
  refine i1.at ?_
  dsimp only
  repeat (first | with_reducible refine wpAny_call ?_ | lk)
  refine codeAny_mono hq fun r s' z => ?_
  rcases r with e | (v | _ | _ | _) <;> first | exact z | exact z.elim | skip
  obtain ⟨rfl, z⟩ := z
  exact wpAny_pure (wpAny_pure z)
  run_tac Mine.Sh.fin
end
end
-- EZ
section
open PySem.Builtin PySem.Builtin.ObjectAttr
noncomputable def excIs (K : Frag) (C : Addr) : Bool := (clsIn K C).any fun cd => cd.hasDict && !cd.hasDel && cd.mro == [.ref C, .type "Exception", .type "BaseException", .type "object"]
section
variable {prog : Program} {w : World} {A : Around} {s : Shared} {h₀ : Heap} {L x C : Addr} {m : Str → Option Value} {K : Frag} {R : Result → Shared → Prop} {E : Value → Shared → Prop}
theorem exc_open {ox : Obj} {name : Str} {tk : Tok} {v : Value} (X : K.In s.heap) (hx : s.heap.get? x = some ox) (hcl : ox.cls = .ref C) (hp : excIs K C = true) (ht : takerIn K C name = some none)
    (h : ∀ b, wpAny (model prog w) A.in1 (storeInOwnDict (.ref x) (.ref C) (.str name tk) name v b)
      (fun fin s' => match fin with | .done f => R (.ok f) s' | .again c' => c'.quiet = true ∧ codeAny (model prog w) A c' R s') (fun e s' => R (.error e) s') s) :
    codeAny (model prog w) A (.call (.builtin "object.__setattr__") ⟨[.ref x, .str name tk, v], []⟩) R s := by
  run_tac Mine.Sh.mark
  have SF := PySem.F.store_object
  obtain ⟨cd, hc, ho⟩ := any_some hp
  simp only [Bool.and_eq_true, beq_iff_eq, Bool.not_eq_true'] at ho
  obtain ⟨⟨hd, _⟩, ho⟩ := ho
  have ty : Looks (model prog w) s.heap (typeOf (.ref x)) (.ref C) := (Looks.ld hx).andThen (by rw [hcl]; exact .now)
  have sub : Looks (model prog w) s.heap (isInstance (.ref x) (.type "object")) true := ty.andThen (looks_mroIn X (by unfold mroIn; rw [hc, Option.bind_some, ho]; simp))
  refine codeAny_call_builtin SF.slot.plain SF.entry (@check_slot (model prog w) _ _ s "object.__setattr__" "object" "__setattr__" (.ref x) [.str name tk, v] [] _ SF.kind SF.split sub (SF.args (.ref x) (.str name tk) v) ?_)
  obtain ⟨attr, ha, hr⟩ := Option.bind_eq_some_iff.mp ht
  have hm : Looks (model prog w) s.heap (mroOf (.ref C)) cd.mro := (looks_clsIn X hc).andThen .now
  have L3 : Looks (model prog w) s.heap (storeTaker? attr) none := by
    cases attr with
    | none => exact .now
    | some a =>
      obtain ⟨b, hb, hb'⟩ := Option.map_eq_some_iff.mp hr
      refine (looks_takesIn X hb).andThen ?_
      cases b <;> first | exact .now | cases hb'
  rw [osa_eq, refuse_eq]
  refine wpAny_bind (wpAny_bind (ty.here (wpAny_bind (hm.here ?_))))
  rw [ho, refuseLoop_ref, PySem.F.store_Exception.passes]
  exact wpAny_pure (wpAny_bind (ty.here (wpAny_bind ((looks_findIn X ha).here (wpAny_bind (L3.here (h _)))))))
  run_tac Mine.Sh.fin
theorem store_in {dx : Addr} {od od' : Obj} {name : Str} {v : Value} {tk : Tok} {Q : Fin → Shared → Prop} {es : List DictEntry} {n : Nat} {pre post : List (Addr × Obj)} (F : Fr h₀ L s.heap m) (N : News h₀ L s.heap (pre ++ (dx, od) :: post))
    (hl : (lookIn name od).isSome = true) (h1 : ∀ p ∈ pre, p.1 ≠ dx) (h2 : ∀ p ∈ post, p.1 ≠ dx)
    (e : Obj.putName name (PyData.keyHash w.params name) (.str name s.toks) v od = od') (e' : od'.data = .dict es.toArray n) (hz : es.length ≤ 1000)
    (h : ∀ h', Fr h₀ L h' m → News h₀ L h' (pre ++ (dx, od') :: post) → Q (.done (.ret .none)) { s with heap := h', toks := s.toks + 1 }) :
    wpAny (model prog w) A (storeInDict dx (.str name tk) name v) Q E s := by
  run_tac Mine.Sh.mark
  obtain ⟨U1, U2⟩ := news_upd (f := Obj.putName name (PyData.keyHash w.params name) (.str name s.toks) v) F N h1 h2 e (by obtain ⟨_, _, dd, _⟩ := od'; cases e'; rfl)
  have D := (N (dx, od) (by simp)).1
  have D' := (U2 (dx, od') (by simp)).1
  unfold storeInDict newKeyGuard nsSet
  refine wpAny_bind (wpAny_pure (wpAny_bind ?_))
  refine wpAny_bind (wpAny_bind (wpAny_askSetting (wpAny_pure (wpAny_bind (wpAny_mkText (wpAny_bind (wpAny_loadPart D ?_)))))))
  unfold lookIn at hl
  split at hl
  · rename_i es₀ n₀ q
    rw [q]
    dsimp only
    have c : (!es₀.any (·.key.isStr name) && es₀.any (·.refKey)) = false := by
      rw [← Array.any_toList, ← Array.any_toList]
      split at hl
      · rename_i en he
        rw [List.any_eq_true.mpr ⟨en, List.mem_of_find?_eq_some he, List.find?_some he⟩]; rfl
      · split at hl
        · cases hl
        · rename_i z; rw [Bool.not_eq_true] at z; rw [z, Bool.and_false]
    rw [aRefKeyMayBeTheName_at, c]
    refine wpAny_updatePart D ?_
    refine wpAny_bind (wpAny_lookBehind D' (by rw [e']; exact pastItsLine_dict (by rw [List.size_toArray, sizeLine_eq]; omega)) ?_)
    exact wpAny_pure (h _ U1 U2)
  · cases hl
  run_tac Mine.Sh.fin
theorem exc_dict {T : Addr} {od od' : Obj} {dx : Addr} {name : Str} {tk : Tok} {v : Value} {pre post : List (Addr × Obj)} {es : List DictEntry} {n : Nat} (F : Fr h₀ L s.heap m) (N : News h₀ L s.heap (pre ++ (dx, od) :: post)) (X : K.In s.heap)
    (hx : s.heap.get? x = some (excAt C T (some dx))) (hp : excIs K C = true) (ht : takerIn K C name = some none)
    (hl : (lookIn name od).isSome = true) (h1 : ∀ p ∈ pre, p.1 ≠ dx) (h2 : ∀ p ∈ post, p.1 ≠ dx)
    (e : Obj.putName name (PyData.keyHash w.params name) (.str name s.toks) v od = od') (e' : od'.data = .dict es.toArray n) (hz : es.length ≤ 1000)
    (h : ∀ h', Fr h₀ L h' m → News h₀ L h' (pre ++ (dx, od') :: post) → R (.ok (.ret .none)) { s with heap := h', toks := s.toks + 1 }) :
    codeAny (model prog w) A (.call (.builtin "object.__setattr__") ⟨[.ref x, .str name tk, v], []⟩) R s := by
  run_tac Mine.Sh.mark
  refine exc_open X hx rfl hp ht fun b => ?_
  obtain ⟨cd, hc, ho⟩ := any_some hp
  simp only [Bool.and_eq_true, beq_iff_eq, Bool.not_eq_true'] at ho
  unfold storeInOwnDict
  refine wpAny_bind (wpAny_pure (wpAny_bind (wpAny_bind (wpAny_loadPart hx (wpAny_bind ((looks_clsIn X hc).here ?_))))))
  rw [ho.1.1]
  exact wpAny_pure (a := some dx) (store_in F N hl h1 h2 e e' hz h)
  run_tac Mine.Sh.fin
theorem exc_fresh {T : Addr} {od' : Obj} {name : Str} {tk : Tok} {v : Value} {pre post : List (Addr × Obj)} {es : List DictEntry} {n : Nat} (F : Fr h₀ L s.heap m) (N : News h₀ L s.heap (pre ++ (x, excAt C T none) :: post)) (X : K.In s.heap)
    (hp : excIs K C = true) (ht : takerIn K C name = some none) (h1 : ∀ p ∈ pre, p.1 ≠ x) (h2 : ∀ p ∈ post, p.1 ≠ x)
    (e : Obj.putName name (PyData.keyHash w.params name) (.str name s.toks) v (dictOf [] 0) = od') (e' : od'.data = .dict es.toArray n) (hz : es.length ≤ 1000)
    (h : ∀ dx h', Fr h₀ L h' m → News h₀ L h' ((dx, od') :: (pre ++ (x, excAt C T (some dx)) :: post)) → (∀ p ∈ pre ++ (x, excAt C T none) :: post, p.1 < dx) → R (.ok (.ret .none)) { s with heap := h', toks := s.toks + 1 }) :
    codeAny (model prog w) A (.call (.builtin "object.__setattr__") ⟨[.ref x, .str name tk, v], []⟩) R s := by
  run_tac Mine.Sh.mark
  have hx := (N (x, excAt C T none) (by simp)).1
  refine exc_open X hx rfl hp ht fun b => ?_
  obtain ⟨cd, hc, ho⟩ := any_some hp
  simp only [Bool.and_eq_true, beq_iff_eq, Bool.not_eq_true'] at ho
  unfold storeInOwnDict
  refine wpAny_bind (wpAny_pure (wpAny_bind (wpAny_bind (wpAny_loadPart hx (wpAny_bind ((looks_clsIn X hc).here ?_))))))
  rw [ho.1.1]
  obtain ⟨hp', g, d, tk', os⟩ := s
  show wpAny _ _ (Bind.bind (alloc (dictOf [] 0)) _) _ _ _
  refine wpAny_bind (wpAny_alloc' ?_)
  refine wpAny_bind (wpAny_update' (Heap.get?_push_of_some _ hx) (wpAny_pure ?_))
  have N₁ : News h₀ L (hp'.push (dictOf [] 0)) (((hp'.objs.size, dictOf [] 0) :: pre) ++ (x, excAt C T none) :: post) := N.push F (dictOf [] 0)
  have hlt : ∀ p ∈ pre ++ (x, excAt C T none) :: post, p.1 < hp'.objs.size := fun p hp => Heap.lt_size (N p hp).1
  obtain ⟨F₂, N₂⟩ := news_upd (f := fun o => { o with dict := some hp'.objs.size }) (o' := excAt C T (some hp'.objs.size)) (F.push _) N₁ (fun p hq => by
    rcases List.mem_cons.mp hq with rfl | hq
    · exact Nat.ne_of_gt (hlt (x, excAt C T none) (by simp))
    · exact h1 p hq) h2 rfl rfl
  refine store_in (pre := []) (s := ⟨_, g, d, tk', os⟩) F₂ N₂ rfl (fun _ h => nomatch h) (fun p hq => ?_) e e' hz fun h' F' N' => h _ h' F' N' hlt
  rcases List.mem_append.mp hq with hq | hq
  · exact Nat.ne_of_lt (hlt p (by simp [hq]))
  · rcases List.mem_cons.mp hq with rfl | hq
    · exact Nat.ne_of_lt (hlt (x, excAt C T none) (by simp))
    · exact Nat.ne_of_lt (hlt p (by simp [hq]))
  run_tac Mine.Sh.fin
end
end
-- EW
section
noncomputable def RaisedD (base G : Heap) (l : List Env) (e : Addr) (P : Obj → Prop) (news : List (Addr × Obj)) (h : Heap) : Prop :=
  ∃ B, base.StaysIn B ∧ (∀ b o, G.get? b = some o → b ∉ l.filterMap (·.frame) → B.get? b = some o) ∧ (∀ q ∈ news, B.get? q.1 = some q.2 ∧ G.get? q.1 = none ∧ base.get? q.1 = none) ∧ HeldD B l e P .none h
section
variable {M : Model} {A : Around} {E : Value → Shared → Prop} {s' : Shared} {base g g₂ h : Heap} {outer : List Env} {L a e : Addr} {m : Str → Option Value} {name : Str} {scope : Scope} {cd : Value} {Q : Unit → Shared → Prop} {news all : List (Addr × Obj)} {P : Obj → Prop}
theorem leave_raiseD {oe : Obj} {vs : Array Value} (hP : Firm P) (K : Below A base outer g) (F : Fr g L s'.heap m) (N : News g L s'.heap all) (he : (e, oe) ∈ all) (hPe : P oe) (hd : oe.data = .fields vs) (h1 : vs[1]? = some .none)
    (hsub : ∀ q ∈ news, q ∈ all ∧ q.1 ≠ e)
    (hQ : ∀ h', RaisedD base g outer e P news h' → g.UpToSlots h' → Q () { s' with heap := h' }) (hk : scope.kind = .function := by rfl) :
    wpAny M (A.deeper (envOf name scope L a cd)) (leaving (envOf name scope L a cd) (.ref e)) Q E s' := by
  run_tac Mine.Sh.mark
  have K' := K.push (name := name) (a := a) (cd := cd) F hk
  have hin : ∀ env ∈ (envOf name scope L a cd :: outer), ∀ b, env.frame = some b → b ∈ e :: (envOf name scope L a cd :: outer).filterMap (·.frame) := fun env he b hb => .tail _ (List.mem_filterMap.mpr ⟨env, he, hb⟩)
  have eg : g.get? e = none := (N _ he).2.2
  have eb : base.get? e = none := fresh_of_stays K.stays eg
  have st : base.StaysIn (hideAll s'.heap (e :: (envOf name scope L a cd :: outer).filterMap (·.frame))) := fun b o q => hideAll_get _ (K'.stays b o q) fun hm => by
    rcases List.mem_cons.mp hm with z | hm
    · rw [z, eb] at q; cases q
    · rw [(K'.frames.mem hm).1] at q; cases q
  have sg : ∀ b o, g.get? b = some o → b ∉ outer.filterMap (·.frame) → (hideAll s'.heap (e :: (envOf name scope L a cd :: outer).filterMap (·.frame))).get? b = some o := fun b o q nm => hideAll_get _ (F.keep b o q) fun hm => by
    rcases List.mem_cons.mp hm with z | hm
    · rw [z, eg] at q; cases q
    rcases kts_mem hm with z | z
    · rw [z, kts_self F] at q
      cases q
    · exact nm z
  have hl : ∀ q ∈ news, (hideAll s'.heap (e :: (envOf name scope L a cd :: outer).filterMap (·.frame))).get? q.1 = some q.2 ∧ g.get? q.1 = none ∧ base.get? q.1 = none := fun q hq => by
    obtain ⟨hqa, hqe⟩ := hsub q hq
    refine ⟨hideAll_get _ (N q hqa).1 fun hm => ?_, (N q hqa).2.2, fresh_of_stays K.stays (N q hqa).2.2⟩
    rcases List.mem_cons.mp hm with z | hm
    · exact hqe z
    obtain ⟨env, he, hf⟩ := List.mem_filterMap.mp hm
    rcases List.mem_cons.mp he with rfl | he
    · exact (N q hqa).2.1 (Option.some.inj hf).symm
    · obtain ⟨o, ho, _⟩ := (K.frames.mem (List.mem_filterMap.mpr ⟨env, he, hf⟩)).2
      rw [(N q hqa).2.2] at ho; cases ho
  exact leaveD_first hP hPe K'.stack (funFrames_hide K'.frames hin) rfl (N _ he).1 (fun b o q => of_hideAll _ q) (hideAll_none _ (.head _)) hd h1 fun h' x u =>
    hQ h' ⟨_, st, sg, hl, x⟩ ((Heap.UpToSlots.of_keeps F.keep).trans u)
  run_tac Mine.Sh.fin
theorem leave_onD (hP : Firm P) (K : Below A base outer g) (F : Fr g L g₂ m) (R : RaisedD base g₂ (envOf name scope L a cd :: outer) e P news s'.heap) (hsm : g₂.UpToSlots s'.heap)
    (hQ : ∀ h', RaisedD base g outer e P news h' → g.UpToSlots h' → Q () { s' with heap := h' }) :
    wpAny M (A.deeper (envOf name scope L a cd)) (leaving (envOf name scope L a cd) (.ref e)) Q E s' := by
  run_tac Mine.Sh.mark
  obtain ⟨B, hB, hBG, hl, hh⟩ := R
  exact leaveD_next hP (Around.frames_deeper K.stack) rfl hh fun h' x u =>
    hQ h' ⟨B, hB, fun b o q nm => hBG b o (F.keep b o q) (fun hm => by
      rcases kts_mem hm with z | z
      · rw [z, kts_self F] at q
        cases q
      · exact nm z), fun q hq => ⟨(hl q hq).1, kts_none F.keep (hl q hq).2.1, (hl q hq).2.2⟩, x⟩ ((Heap.UpToSlots.of_keeps F.keep).trans (hsm.trans u))
  run_tac Mine.Sh.fin
end
section
variable {M : Model} {A : Around} {E : Value → Shared → Prop} {s : Shared} {env : Env}
noncomputable def ExcThere (K : Frag) (C : Addr) (E : Value → Shared → Prop) (v : Value) (s₁ : Shared) : Prop := ∃ e T dA, v = .ref e ∧ K.In s₁.heap ∧ s₁.heap.get? e = some (excAt C T dA) ∧ E (.ref e) s₁
theorem raise_made {K : Frag} {C : Addr} {Q : Flow → Shared → Prop} {x : Expr} {pos : Pos} {h₀ : Heap} (_ : K.In h₀) (hh : A.handled = none) {nm q : Str} {N : Addr} {bs : List Value} {hdct : Bool} {sn : List Str} {sub : List Value} {ab : Bool} {col : Option Bool} {dd : Option Addr} {k0 k1 k2 k3 k5 : Option Value} {newId : String}
    (hc : K.lookup C = some (excClassObj nm q C N bs [.type "Exception", .type "BaseException", .type "object"] hdct sn sub ab col dd k0 k1 k2 k3 k5 newId))
    (h : wpAny M A (eval x env) (ExcThere K C E) E s) :
    wpAny M A (exec (.Raise (some x) none pos) env) Q E s := by
  run_tac Mine.Sh.mark
  have hcB : (Value.ref C :: [Value.type "Exception", .type "BaseException", .type "object"]).contains (.type "BaseException") = true := by simp
  rw [arm_exec_Raise]
  refine wpAny_bind (wpAny_standAt ?_)
  unfold raiseStmt
  refine wpAny_bind (wpAny_bind (wpAny_mono h (fun v s₁ h₁ => wpAny_bind (wpAny_standAt (wpAny_pure ?_))) fun _ _ y => y))
  obtain ⟨e, T, dA, rfl, X, he, hE⟩ := h₁
  have hC := X _ _ hc
  obtain ⟨hp, g, d, tk, os⟩ := s₁
  repeat (first | with_reducible refine wpAny_loadPart_at he ?_ | with_reducible refine wpAny_loadPart_at hC ?_ | (with_reducible refine wpAny_isSubtype_exc hC ?_; rw [hcB]) | wp_step)
  exact wpAny_raiseNew_none hh hE
  run_tac Mine.Sh.fin
end
section
variable {prog : Program} {w : World} {A : Around} {E : Value → Shared → Prop} {s : Shared} {h₀ : Heap} {L C : Addr} {m : Str → Option Value} {K : Frag} {news post : List (Addr × Obj)}
variable {nm q : Str} {N' : Addr} {bs : List Value} {hdct : Bool} {sn : List Str} {sub : List Value} {ab : Bool} {col : Option Bool} {dd : Option Addr} {k0 k1 k2 k3 k5 : Option Value}
theorem call_exc {pos : List Value} {fI : Addr} {Q : Value → Shared → Prop} (F : Fr h₀ L s.heap m) (X₀ : K.In h₀) (N : News h₀ L s.heap news)
    (hc : K.lookup C = some (excClassObj nm q C N' bs [.type "Exception", .type "BaseException", .type "object"] hdct sn sub ab col dd k0 k1 k2 k3 k5 "Exception.__new__")) (hi : findIn K (.ref C) "__init__" = some (some (.ref fI))) (hf : isFn K (.ref fI) = true)
    (h : ∀ x T h', Fr h₀ L h' m → News h₀ L h' ((x, excAt C T none) :: (T, tupOf pos) :: news) → (∀ p ∈ (T, tupOf pos) :: news, p.1 ≠ x) → (∀ p ∈ news, p.1 ≠ T ∧ p.1 ≠ x) → T ≠ x →
      codeAny (model prog w) (A.under (.builtin "type.__call__" ⟨.ref C :: pos, []⟩)) (.call (.ref fI) ⟨.ref x :: pos, []⟩) (InitBack x fun r s' => match r with | .ok (.ret v) => Q v s' | .ok _ => False | .error e => E e s') { s with heap := h' }) (hz : pos.length ≤ sizeLine := by size_fits) :
    wpAny (model prog w) A (call (.ref C) pos) Q E s := by
  run_tac Mine.Sh.mark
  obtain ⟨hp, g, d, t, os⟩ := s
  have X := X₀.keeps F.keep
  refine wpAny_call (make_exc PySem.F.excBase_Exception (X _ _ hc) (looks_findIn X hi) (fun self => bind_fn X self (beq_iff_eq.mp hf)) (h _ hp.objs.size _ ((F.push _).push _) ?_ (fun p hq => ?_) (fun p hq => ⟨Nat.ne_of_lt (Heap.lt_size (N p hq).1), Nat.ne_of_lt (Nat.lt_succ_of_lt (Heap.lt_size (N p hq).1))⟩) (Nat.ne_of_lt (Nat.lt_succ_self _))) hz)
  rotate_left
  · rcases List.mem_cons.mp hq with rfl | hq
    · exact Nat.ne_of_lt (Nat.lt_succ_self _)
    · exact Nat.ne_of_lt (Nat.lt_succ_of_lt (Heap.lt_size (N p hq).1))
  have := (N.push F (tupOf pos)).push (F.push _) (excAt C hp.objs.size none)
  rwa [Heap.size_push] at this
  run_tac Mine.Sh.fin
theorem exc_init {T x : Addr} {rest : List Value} {Q : Value → Shared → Prop} (F : Fr h₀ L s.heap m) (X₀ : K.In h₀) (N : News h₀ L s.heap ((x, excAt C T none) :: post)) (h2 : ∀ p ∈ post, p.1 ≠ x)
    (hc : K.lookup C = some (excClassObj nm q C N' bs [.type "Exception", .type "BaseException", .type "object"] hdct sn sub ab col dd k0 k1 k2 k3 k5 "Exception.__new__"))
    (h : ∀ T' h', Fr h₀ L h' m → News h₀ L h' ((x, excAt C T' none) :: (T', tupOf rest) :: post) → (∀ p ∈ (T', tupOf rest) :: post, p.1 ≠ x) → Q .none { s with heap := h' }) (hz : rest.length ≤ sizeLine := by size_fits) :
    wpAny (model prog w) A (call (.builtin "Exception.__init__") (.ref x :: rest)) Q E s := by
  run_tac Mine.Sh.mark
  have FX := PySem.F.excBase_Exception
  obtain ⟨hp, g, d, t, os⟩ := s
  have hx := (N (x, excAt C T none) (.head _)).1
  have hC := (X₀.keeps F.keep) _ _ hc
  have hlt : ∀ p ∈ (x, excAt C T none) :: post, p.1 < hp.objs.size := fun p hq => Heap.lt_size (N p hq).1
  refine wpAny_call (codeAny_call_builtin FX.init.plain FX.initEntry (wpAny_check_init_sub FX hC hx rfl ?_))
  wp_walk
  have N₁ := N.push F (tupOf rest)
  obtain ⟨F₂, N₂⟩ := news_upd (pre := [(hp.objs.size, tupOf rest)]) (f := Obj.mapFields (·.setIfInBounds 0 (.ref hp.objs.size))) (o' := excAt C hp.objs.size none) (F.push (tupOf rest)) N₁ (fun p hq => by
    rw [List.mem_singleton.mp hq]; exact Nat.ne_of_gt (hlt _ (.head _))) h2 rfl rfl
  refine h hp.objs.size _ F₂ (fun p hq => N₂ p ?_) (fun p hq => by
    rcases List.mem_cons.mp hq with rfl | hq
    · exact Nat.ne_of_gt (hlt _ (.head _))
    · exact h2 p hq)
  rcases List.mem_cons.mp hq with rfl | hq
  · exact .tail _ (.head _)
  rcases List.mem_cons.mp hq with rfl | hq
  · exact .head _
  · exact .tail _ (.tail _ hq)
  run_tac Mine.Sh.fin
theorem exc_set0 {T x : Addr} {name : Str} {v : Value} {Q : Unit → Shared → Prop} {es : List DictEntry} {n : Nat} (F : Fr h₀ L s.heap m) (X₀ : K.In h₀) (N : News h₀ L s.heap ((x, excAt C T none) :: post)) (h2 : ∀ p ∈ post, p.1 ≠ x)
    (hs : findIn K (.ref C) "__setattr__" = some (some (.builtin "object.__setattr__"))) (hp : excIs K C = true) (ht : takerIn K C name = some none)
    (e : (putL name (PyData.keyHash w.params name) (.str name (s.toks + 1)) v [], putN name [] 0) = (es, n)) (hz : es.length ≤ 1000)
    (h : ∀ dx h', Fr h₀ L h' m → News h₀ L h' ((dx, dictOf es n) :: (x, excAt C T (some dx)) :: post) → (∀ p ∈ (x, excAt C T (some dx)) :: post, p.1 ≠ dx) → Q () { s with heap := h', toks := s.toks + 2 }) :
    wpAny (model prog w) A (setAttr (.ref x) name v) Q E s := by
  run_tac Mine.Sh.mark
  obtain ⟨e1, e2⟩ := Prod.mk.inj e
  have X := X₀.keeps F.keep
  exact set_plain (ox := excAt C T none) (od := none) X ⟨(N _ (.head _)).1, rfl, rfl, trivial⟩ hs (exc_fresh (s := { s with toks := s.toks + 1 }) (pre := []) F N X hp ht (fun _ h => nomatch h) h2 (by rw [putName_dict, e1, e2]) rfl hz fun dx h' F' N' l => h dx h' F' N' fun p hq => by
    rcases List.mem_cons.mp hq with rfl | hq
    · exact Nat.ne_of_lt (l (x, excAt C T none) (.head _))
    · exact Nat.ne_of_lt (l p (.tail _ hq)))
  run_tac Mine.Sh.fin
theorem exc_set1 {T x dx : Addr} {name : Str} {v : Value} {Q : Unit → Shared → Prop} {es es' : List DictEntry} {n n' : Nat} (F : Fr h₀ L s.heap m) (X₀ : K.In h₀) (N : News h₀ L s.heap ((dx, dictOf es n) :: (x, excAt C T (some dx)) :: post)) (h2 : ∀ p ∈ (x, excAt C T (some dx)) :: post, p.1 ≠ dx)
    (hs : findIn K (.ref C) "__setattr__" = some (some (.builtin "object.__setattr__"))) (hp : excIs K C = true) (ht : takerIn K C name = some none) (hl : (getL name es).isSome = true)
    (e : (putL name (PyData.keyHash w.params name) (.str name (s.toks + 1)) v es, putN name es n) = (es', n')) (hz : es'.length ≤ 1000)
    (h : ∀ h', Fr h₀ L h' m → News h₀ L h' ((dx, dictOf es' n') :: (x, excAt C T (some dx)) :: post) → Q () { s with heap := h', toks := s.toks + 2 }) :
    wpAny (model prog w) A (setAttr (.ref x) name v) Q E s := by
  run_tac Mine.Sh.mark
  obtain ⟨e1, e2⟩ := Prod.mk.inj e
  have X := X₀.keeps F.keep
  exact set_plain (ox := excAt C T (some dx)) (od := some (dictOf es n)) X ⟨(N _ (.tail _ (.head _))).1, rfl, rfl, (N _ (.head _)).1⟩ hs (exc_dict (s := { s with toks := s.toks + 1 }) (pre := []) F N X (N _ (.tail _ (.head _))).1 hp ht hl (fun _ h => nomatch h) h2 (by rw [putName_dict, e1, e2]) rfl hz fun h' F' N' => h h' F' N')
  run_tac Mine.Sh.fin
end
end
-- EV
section
open PySem.Builtin PySem.Builtin.ObjectAttr
section
variable {prog : Program} {w : World} {A : Around} {E : Value → Shared → Prop} {s : Shared} {h₀ : Heap} {L C : Addr} {m : Str → Option Value} {K : Frag} {news post : List (Addr × Obj)}
variable {nm q : Str} {N' : Addr} {bs : List Value} {hdct : Bool} {sn : List Str} {sub : List Value} {ab : Bool} {col : Option Bool} {dd : Option Addr} {k0 k1 k2 k3 k5 : Option Value} {newId : String}
theorem exc_get {x dx : Addr} {ox : Obj} {name : Str} {v : Value} {expr : Bool} {Q : Value → Shared → Prop} {es : List DictEntry} {n : Nat} (F : Fr h₀ L s.heap m) (X₀ : K.In h₀) (hx : s.heap.get? x = some ox) (hxc : ox.cls = .ref C) (hxn : notCls ox = true) (hxd : ox.dict = some dx) (hdx : s.heap.get? dx = some (dictOf es n))
    (hc : K.lookup C = some (excClassObj nm q C N' bs [.type "Exception", .type "BaseException", .type "object"] hdct sn sub ab col dd k0 k1 k2 k3 k5 newId))
    (hga : findIn K (.ref C) "__getattribute__" = some (some (.builtin "BaseException.__getattribute__"))) (hgt : findIn K (.ref C) "__getattr__" = some none) (hh : hasDictIn K C = true) (ha : findIn K (.ref C) name = some none)
    (hl : getL name es = some (some v)) (hv : handedIn v = true) (h : Q v { s with toks := s.toks + 1 }) : wpAny (model prog w) A (getAttr (.ref x) name expr) Q E s := by
  run_tac Mine.Sh.mark
  have X := X₀.keeps F.keep
  have FB := PySem.F.attrBase_Exception
  have I : InstAt s.heap x ox C (some (dictOf es n)) := ⟨hx, hxc, hxn, by rw [hxd]; exact hdx⟩
  have ty := I.type (M := model prog w)
  have l1 := looks_findIn (M := model prog w) X hga
  have l2 := looks_findIn (M := model prog w) X hgt
  have l3 := looks_find (M := model prog w) X I (findObj_own hh ha rfl hl)
  have f3 := FB.ga.bind (.ref x)
  have hx0 : (expr && onTheHeap (Value.builtin "BaseException.__getattribute__")) = false := by cases expr <;> rfl
  have hx2 : (Value.builtin "BaseException.__getattribute__" == Value.builtin "object.__getattribute__") = false := by decide +kernel
  have hx1 : (onTheHeap (Value.ref C) && Value.builtin "BaseException.__getattribute__" == Value.builtin "object.__getattribute__") = false := by rw [hx2]; rfl
  have hC := X _ _ hc
  obtain ⟨hp, g, d, t, os⟩ := s
  dsimp only at hx hdx hC h I ty l1 l2 l3
  have call : ∀ (A' : Around) (R : Result → Shared → Prop) (tk : Tok), R (.ok (.ret v)) ⟨hp, g, d, t + 1, os⟩ →
      codeAny (model prog w) A' (.call (.builtin "BaseException.__getattribute__") ⟨[.ref x, .str name tk], []⟩) R ⟨hp, g, d, t + 1, os⟩ := fun A' R tk hR => by
    refine codeAny_call_builtin FB.ga.plain PySem.F.entry_bexc_ga (wpAny_check_ga_own FB hC .base hx hxc ?_)
    unfold Builtin.«object.__getattribute__»
    refine wpAny_bind (wpAny_pure (wpAny_bind (wpAny_pure (wpAny_bind (ty.at (wpAny_bind (l3.at ?_)))))))
    exact wpAny_pure hR
  unfold getAttr
  repeat (any_goals (first | assumption | with_reducible refine ty.at ?_ | with_reducible refine l1.at ?_ | with_reducible refine l2.at ?_ | wp_step))
  refine call _ _ _ ?_
  show wpAny _ _ (handedOut v) _ _ _
  rw [handedOut_of hv]
  exact wpAny_pure h
  run_tac Mine.Sh.fin
end
end
-- EU
section
section
variable {prog : Program} {w : World} {A₀ : Around} {E : Value → Shared → Prop} {s' : Shared} {base g G : Heap} {outer : List Env} {L a e C : Addr} {m : Str → Option Value} {name : Str} {scope : Scope} {cd : Value}
  {n : Str} {b₀ : Stmt} {suite : List Stmt} {pos np : Pos} {rest : List ExceptHandler} {Q : Flow → Shared → Prop} {news : List (Addr × Obj)} {KF : Frag}
  {p : Program} {loose : List Str} {mean : ExcName → Option Value} {mg mb : Str → Option Value} {x : Str} {P : Obj → Prop}
theorem caughtD (hP : Firm P) (hPc : ∀ o, P o → o.cls = .ref C) (R : RaisedD base G (envOf name scope L a cd :: outer) e P news s'.heap) (F : Fr g L G m) (K : Below A₀ base outer g) (hsm : G.UpToSlots s'.heap) (XB : KF.In base) (TB : Top p loose mean mg mb base)
    (D : KtsDicts (outer.filterMap (·.frame)) g) (ex : nsIn KF mainGlobals x = some (some (.ref C))) (q : ktsIn KF C "BaseException" = true)
    (k : ∀ h' g' oe vs tk, KtsTurn (outer.filterMap (·.frame)) g g' → Fr g' L h' (fun y => if y = n then some (.ref e) else m y) → P oe → oe.data = .fields vs → News g' L h' ((e, oe) :: news) → Below A₀ base outer g' → KF.In g' → Top p loose mean mg mb g' → KtsDicts (outer.filterMap (·.frame)) g' →
      wpAny (model prog w) ((A₀.deeper (envOf name scope L a cd)).mark (some (.ref e))) (execs (b₀ :: suite) (envOf name scope L a cd))
        (fun f s₄ => wpAny (model prog w) (A₀.deeper (envOf name scope L a cd)) (do bindName (envOf name scope L a cd) n .none; unbindBehindTheSuite (envOf name scope L a cd) n pos) (fun _ s₅ => Q f s₅) E s₄)
        (AsSuiteRaised (model prog w) ((A₀.deeper (envOf name scope L a cd)).mark (some (.ref e))) (envOf name scope L a cd) n pos (notedBy (model prog w) ((A₀.deeper (envOf name scope L a cd)).mark (some (.ref e))) (envOf name scope L a cd) (cameBackBy (model prog w) (A₀.deeper (envOf name scope L a cd)) (envOf name scope L a cd) E)))
        { s' with heap := h', toks := tk })
    (hk : scope.kind = .function := by rfl) (hlo : (envOf name scope L a cd).kindOf n = some .local := by rfl) (hx : (envOf name scope L a cd).kindOf x = some .globalImplicit := by rfl) (hd : (x == ("__debug__" : Str)) = false := by decide) :
    wpAny (model prog w) (A₀.deeper (envOf name scope L a cd)) (noteFrame (.ref e) (envOf name scope L a cd))
      (fun _ s₂ => wpAny (model prog w) (A₀.deeper (envOf name scope L a cd)) (setFlight (.ref e) none) (fun _ s₃ =>
        wpAny (model prog w) (A₀.deeper (envOf name scope L a cd)) (handleBy (.ref e) (envOf name scope L a cd) (.ExceptHandler (some (.Name x np)) (some n) (b₀ :: suite) pos :: rest)) Q E s₃) E s₂) E s' := by
  run_tac Mine.Sh.mark
  obtain ⟨B, hB, hBG, hl, hh⟩ := R
  have hL : B.get? L = none := by
    obtain ⟨_, ⟨L', _, hf, hn', _⟩, _⟩ := hh.2.2.1
    obtain rfl : L = L' := Option.some.inj hf
    exact hn'
  refine noteD_next hP (Around.frames_deeper K.stack) rfl hh fun h₄ hh₄ hsm₄ => ?_
  refine flightD hh₄ fun h₅ hh₅ hsm₅' => ?_
  have hsm₅ := hsm₄.trans hsm₅'
  obtain ⟨g₅, T₅, F₅, K₅⟩ := kts_ground K F hBG hh₅.1 (hsm.trans hsm₅)
  have X₅ : KF.In g₅ := XB.keeps K₅.stays
  have P₅ : TopRead p loose mg mb g₅ := topRead_of (TB.keeps K₅.stays)
  obtain ⟨ob, _, hob, hobP, _⟩ := hh₅.there
  obtain ⟨nm, q', N, bs, bm, hdct, sn, sub, ab, col, dd, k0, k1, k2, k3, k5, newId, hC, hbase, hbT⟩ := kts_cls X₅ q
  refine wpAny_handleBy_cons (codeAny_handlers_test (name_K F₅ X₅ P₅ ex ?_ hk hx hd)) (by intro q; cases q)
  refine wpAny_excMatches_sub_self (F₅.keep _ _ hC) hob (hPc _ hobP) hbase (codeAny_handlers_suite_as ?_)
  refine flightD hh₅ fun h₆ hh₆ hsm₆ => ?_
  obtain ⟨g₆, T₆, F₆, K₆⟩ := kts_ground K F hBG hh₆.1 ((hsm.trans hsm₅).trans hsm₆)
  obtain ⟨oe, ws, hoe, hoeP, hoed⟩ := hh₆.there
  have ne₆ : g₆.get? e = none := T₆.none_ _ (kts_fresh F hBG hh₆.2.1 fun o ho mm => by
    obtain ⟨_, o', ho', hd⟩ := K.frames.mem mm
    obtain rfl : o = o' := Option.some.inj (ho.symm.trans ho')
    obtain ⟨sl, hs⟩ := ((hsm.trans hsm₅).trans hsm₆) _ _ (F.keep _ _ ho) hd
    obtain rfl := Option.some.inj (hoe.symm.trans hs)
    exact hd _ hoed)
  have Ne : News g₆ L h₆ ((e, oe) :: news) := News.more F₆ (fun q hq => ⟨hh₆.1 _ _ (hl q hq).1, (fun z => by have := (hl q hq).1; rw [z, hL] at this; cases this), T₆.none_ _ (kts_none F.keep (hl q hq).2.1)⟩) hoe (fun es n q => by rw [hoed] at q; cases q) ne₆
  exact stN F₆ Ne (fun h₇ F₇ N₇ => k h₇ g₆ oe _ _ T₆ F₇ hoeP hoed N₇ K₆ (XB.keeps K₆.stays) (TB.keeps K₆.stays) (D.turn T₆)) hk hlo
  run_tac Mine.Sh.fin
end
section
variable {prog : Program} {w : World} {A₀ A : Around} {s : Shared} {base h₀ : Heap} {L : Addr} {m : Str → Option Value} {env : Env} {news : List (Addr × Obj)} {K : Frag} {p : Program} {loose : List Str} {mean : ExcName → Option Value} {mg mb : Str → Option Value}
    {R : Result → Shared → Prop} {name qual : Str} {params : Arguments} {body : List Stmt} {scope : Scope} {dV kV doc pm cdv ct oc : Value} {an od : Option Addr} {osl : Array (Option Value)} {f : Addr} {args : Args} {binds : List (Str × Value)}
theorem codeD0 (B : Below A₀ base [] h₀) (F : Fr h₀ L s.heap m) (X₀ : K.In h₀) (N : News h₀ L s.heap news) (T : Top p loose mean mg mb h₀) (hA : A.frames = some [env]) (hf : env.frame = some L) (hke : env.scope.kind = .function)
    (ho : K.lookup f = some ⟨oc, od, .func (fnOf name qual params body scope dV kV doc pm an cdv ct), osl⟩) (hcd : codeIn K cdv qual = true) (hroom : A.depth < recursionLimit)
    (hbind : BindsTo s (fnOf name qual params body scope dV kV doc pm an cdv ct) args binds) (hloc : ∀ y ∈ binds, scope.names.lookup y.1 = some .local)
    (h : ∀ g L' h₁ (Qb : Flow → Shared → Prop), Fr h₀ L g m → Fr g L' h₁ (fun y => binds.reverse.lookup y) → News g L' h₁ news → Below A base [env] g → K.In g → Top p loose mean mg mb g → KtsDicts ([env].filterMap (·.frame)) g →
      (∀ fl s', LeaveS0 ([env].filterMap (·.frame)) h₀ L m g R (match fl with | .ret v => v | _ => .none) s' → Qb fl s') →
      wpAny (model prog w) (A.deeper (envOf qual scope L' f cdv)) (execs body (envOf qual scope L' f cdv)) Qb
        (fun e s' => wpAny (model prog w) (A.deeper (envOf qual scope L' f cdv)) (leaving (envOf qual scope L' f cdv) e) (fun _ s'' => R (.error e) s'') (fun e' s'' => R (.error e') s'') s')
        { s with heap := h₁, toks := s.toks + binds.length })
    (hco : scope.isCoroutine = false) (hgen : scope.isGenerator = false) (hk : scope.kind = .function)
    (hcell : ∀ x ∈ scope.names, x.2 ≠ .cell) : codeAny (model prog w) A (.call (.ref f) args) R s := by
  run_tac Mine.Sh.mark
  have X := X₀.keeps F.keep
  refine codeAny_call_def (fd := fnOf name qual params body scope dV kV doc pm an cdv ct) (body := body) (binds := binds) hroom (X _ _ ho) rfl (T.nolimit.keeps F.keep) (codeRec_of X hcd) rfl hbind hcell hloc (fun h₁ hns hk₁ => ?_) hco hgen hk
  obtain ⟨FG, BG, st, _⟩ := groundX (R := R) B F N hA hf hke
  have nL₀ : h₀.get? L = none := kts_self F
  have mem1 : ∀ b, b ∈ [env].filterMap (·.frame) ↔ b = L := fun b => by simp [hf]
  obtain ⟨oL, es, ep, hLg, hLd, hLk, hLf⟩ := FG.ns
  refine h _ s.heap.objs.size h₁ _ FG ⟨hns, fun b o e => hk₁ b o (of_hideAll _ e), Nat.le_of_eq (hideAll_size _ _)⟩
    (fun p hp => ⟨hk₁ _ _ (N p hp).1, Nat.ne_of_lt (Heap.lt_size (N p hp).1), hideAll_none _ (List.mem_map_of_mem hp)⟩) BG (X₀.keeps st) (T.keeps st) (fun b hb => by
      rw [(mem1 b).mp hb]; exact ⟨oL, es, ep, hLg, hLd⟩) (fun fl s' hl => ?_)
  obtain ⟨g', L', m', news', T', F', N', k⟩ := hl
  obtain ⟨sl, hs⟩ := T'.up hLg
  refine k ⟨⟨_, es, ep, F'.keep _ _ hs, hLd, hLk, hLf⟩, fun b o e => F'.keep b o (T'.other b o (st b o e) (fun q => by
    rw [(mem1 b).mp q, nL₀] at e
    cases e)), F.above⟩ fun p hp => ⟨(N' p hp).1, fun q => ?_, ?_⟩
  · have := (N' p hp).2.2; rw [q, hs] at this; cases this
  · cases q : h₀.get? p.1 with
    | none => rfl
    | some o =>
      obtain ⟨sl', hs'⟩ := T'.up (st _ _ q)
      have := (N' p hp).2.2
      rw [hs'] at this
      cases this
  run_tac Mine.Sh.fin
end
end
-- EQ
section
open PySem.SeqAt
section
variable {prog : Program} {w : World} {A : Around} {E : Value → Shared → Prop} {s : Shared} {h₀ : Heap} {L : Addr} {news : List (Addr × Obj)}
theorem in1_room {A : Around} (hu : A.units + 64 < cLine) : A.in1.units + 32 < cLine := by simp only [Around.in1]; omega
theorem all_true (n : Nat) : ((List.range n).all fun _ => true) = true := by simp
theorem lists_same {a b : Addr} {xs : Array Value} (hl : s.heap.IsList a xs) (hb : s.heap.IsList b xs) (hne : a ≠ b) (hu : A.units + 32 < cLine) : EqAt A s (.ref a) (.ref b) true := by
  run_tac Mine.Sh.mark
  have := RcAt.lists (A := A) (e := fun _ => true) hl hb rfl (by omega) fun j _ _ => EqAt.same _
  rw [all_true] at this
  exact EqAt.of_refs hne this
  run_tac Mine.Sh.fin
theorem ne_pair {t u : Addr} {v1 v2 w1 w2 : Value} {Q : Value → Shared → Prop} (ht : s.heap.IsTuple t #[v1, v2]) (hu : s.heap.IsTuple u #[w1, w2]) (e1 : EqAt A.in1 s v1 w1 true) (e2 : EqAt A.in1 s v2 w2 true) (hr : A.units + 64 < cLine) (h : Q (.bool false) s) :
    wpAny (model prog w) A (compareOp .NotEq (.ref t) (.ref u)) Q E s := by
  run_tac Mine.Sh.mark
  have := RcNeAt.tuples (A := A) (e := fun _ => true) ht hu (by omega) fun j h1 h2 => by
    match j, h1 with
    | 0, _ => exact e1
    | 1, _ => exact e2
    | n + 2, h => simp at h; omega
  rw [all_true] at this
  exact this prog w E Q h
  run_tac Mine.Sh.fin
theorem eq_triple {t u : Addr} {v1 v2 v3 w1 w2 w3 : Value} {Q : Value → Shared → Prop} (ht : s.heap.IsTuple t #[v1, v2, v3]) (hu : s.heap.IsTuple u #[w1, w2, w3]) (e1 : EqAt A.in1 s v1 w1 true) (e2 : EqAt A.in1 s v2 w2 true) (e3 : EqAt A.in1 s v3 w3 true) (hr : A.units + 64 < cLine) (h : Q (.bool true) s) :
    wpAny (model prog w) A (compareOp .Eq (.ref t) (.ref u)) Q E s := by
  run_tac Mine.Sh.mark
  have := RcAt.tuples (A := A) (e := fun _ => true) ht hu (by omega) fun j h1 h2 => by
    match j, h1 with
    | 0, _ => exact e1
    | 1, _ => exact e2
    | 2, _ => exact e3
    | n + 3, h => simp at h; omega
  rw [all_true] at this
  exact this prog w E Q h
  run_tac Mine.Sh.fin
theorem eq_quad {t u : Addr} {v1 v2 v3 v4 w1 w2 w3 w4 : Value} {Q : Value → Shared → Prop} (ht : s.heap.IsTuple t #[v1, v2, v3, v4]) (hu : s.heap.IsTuple u #[w1, w2, w3, w4]) (e1 : EqAt A.in1 s v1 w1 true) (e2 : EqAt A.in1 s v2 w2 true) (e3 : EqAt A.in1 s v3 w3 true) (e4 : EqAt A.in1 s v4 w4 true) (hr : A.units + 64 < cLine) (h : Q (.bool true) s) :
    wpAny (model prog w) A (compareOp .Eq (.ref t) (.ref u)) Q E s := by
  run_tac Mine.Sh.mark
  have := RcAt.tuples (A := A) (e := fun _ => true) ht hu (by omega) fun j h1 h2 => by
    match j, h1 with
    | 0, _ => exact e1
    | 1, _ => exact e2
    | 2, _ => exact e3
    | 3, _ => exact e4
    | n + 4, h => simp at h; omega
  rw [all_true] at this
  exact this prog w E Q h
  run_tac Mine.Sh.fin
theorem news_list {a : Addr} {xs : Array Value} {n : Nat} (N : News h₀ L s.heap news) (h : (a, W.listOf xs n) ∈ news) : s.heap.IsList a xs := ⟨_, (N _ h).1, rfl, _, rfl⟩
theorem news_tup {a : Addr} {xs : Array Value} {n : Nat} (N : News h₀ L s.heap news) (h : (a, ({ cls := .type "tuple", data := .seq xs n } : Obj)) ∈ news) : s.heap.IsTuple a xs := ⟨_, (N _ h).1, rfl, _, rfl⟩
theorem str_at {x : Str} {t u : Tok} : EqAt A s (.str x t) (.str x u) true := by
  have := EqAt.str_str (A := A) (s := s) x t x u
  rwa [beq_self_eq_true] at this
theorem int_at {x y : Int} {t u : Tok} (h : x = y) : EqAt A s (.int x t) (.int y u) true := by
  subst h
  have := EqAt.int_int (A := A) (s := s) x t x u
  rwa [beq_self_eq_true] at this
end
end
-- EC
section
open PySem.Calls PySem.SeqAt
noncomputable def lget {α : Type} : List α → Nat → Option α
  | [], _ => none
  | a :: _, 0 => some a
  | _ :: r, n + 1 => lget r n
theorem lget_eq {α : Type} : ∀ {l : List α} {n : Nat} {x : α}, lget l n = some x → l[n]? = some x
  | a :: _, 0, x, h => by simpa [lget] using h
  | _ :: r, n + 1, x, h => by simpa using lget_eq (l := r) h
section
variable {prog : Program} {w : World} {A : Around} {E : Value → Shared → Prop} {s : Shared}
theorem bytes_at {b c : Array UInt8} {t u : Tok} (h : KBw.bInts b = KBw.bInts c) : EqAt A s (.bytes b t) (.bytes c u) true := fun prog w E Q hq => by
  refine eqBool_bytes ?_
  rw [decide_eq_true (bInts_inj h)]
  exact hq
theorem ne_two {l b : Addr} {v1 v2 w1 w2 : Value} {Q : Value → Shared → Prop} (hl : s.heap.IsList l #[v1, v2]) (hb : s.heap.IsList b #[w1, w2]) (e1 : EqAt A.in1 s v1 w1 true) (e2 : EqAt A.in1 s v2 w2 true) (hr : A.units + 64 < cLine) (h : Q (.bool false) s) :
    wpAny (model prog w) A (compareOp .NotEq (.ref l) (.ref b)) Q E s := by
  run_tac Mine.Sh.mark
  have := RcNeAt.lists (A := A) (e := fun _ => true) hl hb rfl (by omega) fun j h1 h2 => by
    match j, h1 with
    | 0, _ => exact e1
    | 1, _ => exact e2
    | n + 2, h => simp at h; omega
  rw [all_true] at this
  exact this prog w E Q h
  run_tac Mine.Sh.fin
theorem ne_one {l b : Addr} {v1 w1 : Value} {Q : Value → Shared → Prop} (hl : s.heap.IsList l #[v1]) (hb : s.heap.IsList b #[w1]) (e1 : EqAt A.in1 s v1 w1 true) (hr : A.units + 64 < cLine) (h : Q (.bool false) s) :
    wpAny (model prog w) A (compareOp .NotEq (.ref l) (.ref b)) Q E s := by
  run_tac Mine.Sh.mark
  have := RcNeAt.lists (A := A) (e := fun _ => true) hl hb rfl (by omega) fun j h1 h2 => by
    match j, h1 with
    | 0, _ => exact e1
    | n + 1, h => simp at h
  rw [all_true] at this
  exact this prog w E Q h
  run_tac Mine.Sh.fin
theorem tup_at {t u : Addr} {v1 v2 w1 w2 : Value} (ht : s.heap.IsTuple t #[v1, v2]) (hu : s.heap.IsTuple u #[w1, w2]) (hne : t ≠ u) (e1 : EqAt A.in1 s v1 w1 true) (e2 : EqAt A.in1 s v2 w2 true) (hr : A.units + 32 < cLine) : EqAt A s (.ref t) (.ref u) true := by
  run_tac Mine.Sh.mark
  have := RcAt.tuples (A := A) (e := fun _ => true) ht hu (by omega) fun j h1 h2 => by
    match j, h1 with
    | 0, _ => exact e1
    | 1, _ => exact e2
    | n + 2, h => simp at h; omega
  rw [all_true] at this
  exact EqAt.of_refs hne this
  run_tac Mine.Sh.fin
theorem it_list {value slice : PySem.Expr} {l : Addr} {items : List Value} {k : Int} {u : Tok} {x : Value} {Q : Value → Shared → Prop} (hl : s.heap.IsList l items.toArray) (h0 : 0 ≤ k) (hfit : k < 2 ^ 63) (hx : lget items k.toNat = some x) (h : Q x s)
    (hs : subscripted slice false (.ref l) (.int k u) = operate [.ref l, .int k u] (getItem (.ref l) (.int k u))) : wpAny (model prog w) A (subscriptTail value slice (.ref l) (.int k u)) Q E s :=
  tail_any hl.typeIs slot_list_getitem.lookup (wpAny_getItem_list hl h0 hfit (by simpa using lget_eq hx) h) hs
theorem it_tup {value slice : PySem.Expr} {l : Addr} {items : List Value} {k : Int} {u : Tok} {j : Nat} {x : Value} {Q : Value → Shared → Prop} (hl : s.heap.IsTuple l items.toArray) (h0 : 0 ≤ k) (hfit : k < 2 ^ 63) (hj : seqIndex? k items.length = some j) (hx : lget items j = some x) (h : Q x s)
    (hs : subscripted slice false (.ref l) (.int k u) = operate [.ref l, .int k u] (getItem (.ref l) (.int k u))) : wpAny (model prog w) A (subscriptTail value slice (.ref l) (.int k u)) Q E s :=
  tail_any (IsTup.typeIs hl) slot_tuple_getitem.lookup (getItem_tuple hl (by omega) hfit (by simpa using hj) (by simpa using lget_eq hx) h) hs
theorem it_bytes {value slice : PySem.Expr} {b : Array UInt8} {t u : Tok} {ks : List Int} {k x : Int} {Q : Value → Shared → Prop} (hk : KBw.bInts b = ks) (hfit : ks.length ≤ 65536) (h0 : 0 ≤ k) (h1 : k < (ks.length : Int)) (hx : lget ks k.toNat = some x) (h : ∀ t' k', Q (.int x t') { s with toks := k' })
    (hs : subscripted slice false (.bytes b t) (.int k u) = operate [.bytes b t, .int k u] (getItem (.bytes b t) (.int k u))) (ht : ∀ r, letTemporaryGo value (.bytes b t) r = pure ()) : wpAny (model prog w) A (subscriptTail value slice (.bytes b t) (.int k u)) Q E s :=
  KBw.item_K hk (by omega) h0 h1 (fun t' k' _ _ => by rw [List.getD_eq_getElem?_getD, lget_eq hx]; exact h t' k') hs ht
end
end
-- E1
section
noncomputable def ErrOf (w : World) (news : List (Addr × Obj)) (x dx : Addr) (es : List DictEntry) (T : Addr) (nw : List (Addr × Obj)) : Prop :=
  (∃ tc, getL (Str.ofString "code") es = some (some (.int 306 tc))) ∧ ∃ rest, nw = (dx, dictOf es 3) :: (x, excAt 38 T (some dx)) :: rest ∧ (∀ p ∈ rest, p.1 ≠ x) ∧ dx ≠ x ∧ ∀ p ∈ news, p ∈ rest
theorem err_ne {x dx T : Addr} {rest : List (Addr × Obj)} (h : ∀ p ∈ (x, excAt 38 T (some dx)) :: rest, p.1 ≠ dx) : dx ≠ x := fun q => h _ (.head _) q.symm
theorem line_E1 : True := by
  w_top off
  run_tac Mine.Sh.keep 25
  k_with "M enter" => ((
      refine' code_def ?k1 ?k2 ?k3 ?k4 ?k5 ?kA ?kF ?kK ?k6 ?k7 ?k8 ?k9 ?kB ?_ ?c2 ?c3 ?c4 ?c5
      (case kA => exact rfl)
      (case kF => exact rfl)
      (case kK => first | assumption | exact rfl)
      (case k1 => k_asm)
      (case k2 => k_asm)
      (case k3 => k_asm)
      (case k4 => k_asm)
      (case k5 => k_asm)
      (case k6 => k_is)
      (case k7 => k_is)
      (case k8 => walk_at "M room")
      (case k9 => exact BindsTo.of_eq rfl)
      (case c5 => decide)
      (case kB => exact locs rfl)
      (case c2 => exact rfl)
      (case c3 => exact rfl)
      (case c4 => exact rfl)
      k_whole
      intro g' L' h' FG' F' N' B' X' T'
      (try dsimp only)
      (try k_lift B')
      (try k_fold)))
  k_with "M room" => ((first | ktr_room | (show (_ : Nat) < _; simp only [Around.under, Around.deeper, ktrTop]; have hw : ∀ args, (Code.builtin "type.__call__" args).weight ≤ 1 := (by intro args; unfold Code.weight; (repeat' split) <;> simp_all [Code.isGuard, Code.isCaller, Code.frames, Code.isFrame]); omega)))
  k_with "ite" => ((k_here; k_openite; k_dflt (first
      | refine ite_neg (by (simp only [bne_iff_ne, beq_iff_eq, ne_eq, decide_eq_true_eq]; omega)) ?_
      | refine ite_pos (by (simp only [bne_iff_ne, beq_iff_eq, ne_eq, decide_eq_true_eq]; omega)) ?_)))
  k_with "k_all" => (assumption)
  k_with "call ref" => ((k_here; (with_reducible show wpAny _ _ (call (Value.ref 38) _) _ _ _); k_dflt (refine' call_exc ?k1 ?k2 ?k3 ?k4 ?k5 ?k6 ?_ ?z; (case k1 => k_asm); (case k2 => k_asm); (case k3 => k_asm); (case k4 => exact rfl); (case k5 => k_is); (case k6 => k_is); (case z => size_fits); k_whole; intro x' T' h' F' N' l1 l2 l3; (try k_sweep); walk_at "M enter")))
  k_with "getMethod type:Exception" => ((k_here; refine' method_type ?F ?X ?m (by decide +kernel) ?e ?h ?_; (case F => k_asm); (case X => k_asm); (case m => kernel_rfl); (case e => k_dflt k_is); (case h => k_handed)))
  k_with "call builtin:Exception.__init__" => ((k_here; k_dflt (refine' exc_init ?F ?X ?N ?h2 ?hc ?_ ?z; (case F => k_asm); (case X => k_asm); (case N => k_asm); (case h2 => k_all); (case hc => exact rfl); (case z => size_fits); k_whole; intro T' h' F' N' l1; (try k_sweep))))
  k_with "setAttr ref" => ((k_here; k_dflt (first
      | (refine' exc_set1 ?F ?X ?N ?h2 ?hs ?hp ?ht ?hl ?e ?hz ?_; (case F => k_asm); (case X => k_asm); (case N => k_asm); (case h2 => k_all); (case hs => k_is); (case hp => exact rfl); (case ht => k_is); (case hl => exact rfl); (case e => exact rfl); (case hz => exact Nat.le_of_ble_eq_true rfl); k_whole; intro h' F' N'; (try k_sweep))
      | (refine' exc_set0 ?F ?X ?N ?h2 ?hs ?hp ?ht ?e ?hz ?_; (case F => k_asm); (case X => k_asm); (case N => k_asm); (case h2 => k_all); (case hs => k_is); (case hp => exact rfl); (case ht => k_is); (case e => exact rfl); (case hz => exact Nat.le_of_ble_eq_true rfl); k_whole; intro dx' h' F' N' l1; (try k_sweep)))))
  trivial
theorem c_tls_error (w : World) (t1 tx : Tok) (news : List (Addr × Obj)) :
    ConL 6 w 82 [.int 50 t1, .str (Str.ofString "a message is too long") tx] news (fun r nw => ∃ x dx es T, r = .ref x ∧ ErrOf w news x dx es T nw) := by
  run_tac Mine.Sh.mark
  unfold ConL
  k_fill
  intro mean mg mb dp un gd cn cs a ccd cl outer A₀ base h₀ L m s Q E X B F N T hk hd1 hu1 hret
  refine wpAny_call ?_
  k_dflt cell_enter
  k_steps
  all_goals (
    rename News h₀ L _ _ => hN
    exact hret _ _ _ _ (by k_asm) hN ⟨_, _, _, _, rfl, ⟨_, rfl⟩, _, rfl, (by assumption), err_ne (by assumption), fun p hp => .tail _ (.tail _ hp)⟩)
  run_tac Mine.Sh.fin
end
-- E2
section
noncomputable def ConE (d : Nat) (w : World) (f : Addr) (vs : List Value) (news : List (Addr × Obj)) : Prop :=
  ∀ (mean : ExcName → Option Value) (mg mb : Str → Option Value) (dp un : Nat) (gd : Option (List Code)) (cn : Str) (cs : Scope) (a : Addr) (ccd : Value) (cl : List (Str × Addr)) (outer : List Env) (A₀ : Around) (base h₀ : Heap) (L : Addr) (m : Str → Option Value) (s : Shared) (Q E : Value → Shared → Prop),
   (hd.heap_39 w.params).In h₀ → Below A₀ base outer h₀ → Fr h₀ L s.heap m → News h₀ L s.heap news → Top hd.view_39 (looseW hd.view_39 [Str.ofString "SUM_PRIME", Str.ofString "AWAITED"]) mean mg mb h₀ → cs.kind = .function →
   dp + d < recursionLimit → un + 8 * d < cLine →
   (∀ (e dx : Addr) (es : List DictEntry) (g₂ h' : Heap) (tk' : Nat), (∃ tc, getL (Str.ofString "code") es = some (some (.int 306 tc))) → Fr h₀ L g₂ m → RaisedD base g₂ (envX cn cs L a ccd cl :: outer) e (fun o => o.cls = .ref 38 ∧ o.dict = some dx) ((dx, dictOf es 3) :: news) h' → g₂.UpToSlots h' → E (.ref e) { s with heap := h', toks := tk' }) →
   wpAny (model Challenge.rw_pf0268_01.row.prog w) (ktrTop dp un gd cn cs L a ccd cl outer) (call (.ref f) vs) Q E s
theorem useE {d : Nat} {w : World} {f : Addr} {vs : List Value} {news : List (Addr × Obj)} (C : ConE d w f vs news) {mean : ExcName → Option Value} {mg mb : Str → Option Value} {dp un : Nat} {gd : Option (List Code)} {cn : Str} {cs : Scope} {a : Addr} {ccd : Value} {cl : List (Str × Addr)} {outer : List Env} {A₀ : Around} {base h₀ : Heap} {L : Addr} {m : Str → Option Value} {s : Shared} {Q E : Value → Shared → Prop}
   (x1 : (hd.heap_39 w.params).In h₀) (x2 : Below A₀ base outer h₀) (x3 : Fr h₀ L s.heap m) (x4 : News h₀ L s.heap news) (x5 : Top hd.view_39 (looseW hd.view_39 [Str.ofString "SUM_PRIME", Str.ofString "AWAITED"]) mean mg mb h₀) (x6 : cs.kind = .function) (x7 : dp + d < recursionLimit) (x8 : un + 8 * d < cLine)
   (k : ∀ (e dx : Addr) (es : List DictEntry) (g₂ h' : Heap) (tk' : Nat), (∃ tc, getL (Str.ofString "code") es = some (some (.int 306 tc))) → Fr h₀ L g₂ m → RaisedD base g₂ (envX cn cs L a ccd cl :: outer) e (fun o => o.cls = .ref 38 ∧ o.dict = some dx) ((dx, dictOf es 3) :: news) h' → g₂.UpToSlots h' → E (.ref e) { s with heap := h', toks := tk' }) :
   wpAny (model Challenge.rw_pf0268_01.row.prog w) (ktrTop dp un gd cn cs L a ccd cl outer) (call (.ref f) vs) Q E s := C _ _ _ _ _ _ _ _ _ _ _ _ _ _ _ _ _ _ _ _ x1 x2 x3 x4 x5 x6 x7 x8 k
theorem RaisedD.sub {base G : Heap} {l : List Env} {e : Addr} {P : Obj → Prop} {news news' : List (Addr × Obj)} {h : Heap} (R : RaisedD base G l e P news h) (k : ∀ q ∈ news', q ∈ news) : RaisedD base G l e P news' h :=
  let ⟨B, a, b, c, d⟩ := R; ⟨B, a, b, fun q hq => c q (k q hq), d⟩
theorem end_raise {M : Model} {A : Around} {s' : Shared} {base g : Heap} {outer : List Env} {L a x dx T : Addr} {m : Str → Option Value} {name : Str} {scope : Scope} {cd : Value} {Q : Value → Unit → Shared → Prop} {Q' : Value → Value → Shared → Prop} {news all : List (Addr × Obj)} {KF : Frag} {w : World} {es : List DictEntry}
    (K : Below A base outer g) (F : Fr g L s'.heap m) (X : KF.In g) (N : News g L s'.heap all) (err : ErrOf w news x dx es T all)
    (hQ : ∀ h', RaisedD base g outer x (fun o => o.cls = .ref 38 ∧ o.dict = some dx) ((dx, dictOf es 3) :: news) h' → g.UpToSlots h' → Q (.ref x) () { s' with heap := h' }) (hk : scope.kind = .function := by rfl) :
    ExcThere KF 38 (fun e s' => wpAny M (A.deeper (envOf name scope L a cd)) (leaving (envOf name scope L a cd) e) (Q e) (Q' e) s') (.ref x) s' := by
  run_tac Mine.Sh.mark
  obtain ⟨_, rest, rfl, h1, h2, h3⟩ := err
  have hx : (x, excAt 38 T (some dx)) ∈ (dx, dictOf es 3) :: (x, excAt 38 T (some dx)) :: rest := .tail _ (.head _)
  refine ⟨x, T, some dx, rfl, X.keeps F.keep, (N _ hx).1, leave_raiseD (firm_dict (.ref 38) (some dx)) K F N hx ⟨rfl, rfl⟩ rfl rfl (fun q hq => ?_) hQ hk⟩
  rcases List.mem_cons.mp hq with rfl | hq
  · exact ⟨.head _, h2⟩
  · exact ⟨.tail _ (.tail _ (h3 q hq)), h1 q (h3 q hq)⟩
  run_tac Mine.Sh.fin
theorem split_sub {h₀ h : Heap} {L : Addr} {a : Addr × Obj} {l : List (Addr × Obj)} (N : News h₀ L h (a :: l)) : News h₀ L h l := fun p hp => N p (.tail _ hp)
theorem line_E2 : True := by
  w_top off
  run_tac Mine.Sh.keep 25
  k_with "ite" => ((k_here; k_openite; k_dflt (first
      | refine ite_neg (by (simp only [bne_iff_ne, beq_iff_eq, ne_eq, decide_eq_true_eq]; omega)) ?_
      | refine ite_pos (by (simp only [bne_iff_ne, beq_iff_eq, ne_eq, decide_eq_true_eq]; omega)) ?_)))
  k_with "call ref" => ((k_here; (with_reducible show wpAny _ _ (call (Value.ref 75) _) _ _ _); k_extra "M75"))
  k_with "WhlIf" => ((k_here; k_dflt (first
      | refine WhlIf.yes (by (rw [decide_eq_true_eq]; omega)) ?_
      | refine WhlIf.no (by (rw [decide_eq_false_iff_not]; omega)) ?_)))
  k_with "call ref" => ((k_here; (with_reducible show wpAny _ _ (call (Value.ref 82) _) _ _ _); k_extra "M82"))
  k_with "exec Raise some none" => ((k_here; k_dflt (refine' raise_made (C := 38) ?X ?hh ?hc ?_; (case X => k_asm); (case hh => exact rfl); (case hc => exact rfl))))
  trivial
theorem c_split_raise (w : World) {bd : Array UInt8} {tb tm : Tok} {ks : List Int} {k : Int} {m : Nat} {most : Int} (news : List (Addr × Obj)) (hB : KBw.bInts bd = ks) (hks : ks = [k] ++ (be 3 m ++ [])) (hm2 : m < 16777216) (hmost : most < m) :
    ConE 8 w 96 [.bytes bd tb, .int most tm] news := by
  run_tac Mine.Sh.mark
  have hlen : ks.length = 4 := by rw [hks]; simp [be]
  unfold ConE
  k_fill
  intro mean mg mb dp un gd cn cs a ccd cl outer A₀ base h₀ L m s Q E X B F N T hk hd1 hu1 hret
  k_with "M75" => (refine' useP (c_get3 w hB hks (by omega) (by omega) (by simp)) ?x1 ?x2 ?x3 ?x4 ?x5 ?x6 ?x7 ?x8 ?_; walk_at "M args"; (intro r9 h9 tk9 F9 N9 hR; obtain ⟨t9, e9⟩ := hR; subst e9))
  k_with "M82" => (refine' useL (c_tls_error w _ _ _) ?x1 ?x2 ?x3 ?x4 ?x5 ?x6 ?x7 ?x8 ?_; walk_at "M args"; (intro r9 nw9 h9 tk9 F9 N9 hR; obtain ⟨x9, dx9, es9, T9, e9, hErr⟩ := hR; subst e9))
  refine wpAny_call ?_
  k_dflt cell_enter
  k_steps
  all_goals (
    exact end_raise (by k_asm) (by k_asm) (by k_asm) (by k_asm) hErr fun h' R u => hret _ _ _ _ _ _ hErr.1 (by assumption) (R.sub (fun q hq => by rcases List.mem_cons.mp hq with rfl | hq; exact .head _; exact .tail _ (.tail _ (.tail _ hq)))) u)
  run_tac Mine.Sh.fin
end
-- E3
section
theorem line_E3 : True := by
  w_top off
  run_tac Mine.Sh.keep 25
  k_with "ite" => ((k_here; k_openite; k_dflt (first
      | refine ite_neg (by (simp only [bne_iff_ne, beq_iff_eq, ne_eq, decide_eq_true_eq]; omega)) ?_
      | refine ite_pos (by (simp only [bne_iff_ne, beq_iff_eq, ne_eq, decide_eq_true_eq]; omega)) ?_)))
  k_with "k_mem" => (assumption)
  k_with "M enter" => ((
      refine' code_def ?k1 ?k2 ?k3 ?k4 ?k5 ?kA ?kF ?kK ?k6 ?k7 ?k8 ?k9 ?kB ?_ ?c2 ?c3 ?c4 ?c5
      (case kA => exact rfl)
      (case kF => exact rfl)
      (case kK => first | assumption | exact rfl)
      (case k1 => k_asm)
      (case k2 => k_asm)
      (case k3 => k_asm)
      (case k4 => k_asm)
      (case k5 => k_asm)
      (case k6 => k_is)
      (case k7 => k_is)
      (case k8 => walk_at "M room")
      (case k9 => exact BindsTo.of_eq rfl)
      (case c5 => decide)
      (case kB => exact locs rfl)
      (case c2 => exact rfl)
      (case c3 => exact rfl)
      (case c4 => exact rfl)
      k_whole
      intro g' L' h' FG' F' N' B' X' T'
      (try dsimp only)
      (try k_lift B')
      (try k_fold)))
  k_with "M room" => ((first | ktr_room | (show (_ : Nat) < _; simp only [Around.under, Around.deeper, ktrTop]; have hw : ∀ args, (Code.builtin "type.__call__" args).weight ≤ 1 := (by intro args; unfold Code.weight; (repeat' split) <;> simp_all [Code.isGuard, Code.isCaller, Code.frames, Code.isFrame]); omega)))
  k_with "call ref" => ((k_here; (with_reducible show wpAny _ _ (call (Value.ref 328) _) _ _ _); k_dflt ((refine' call_cls ?k1 ?k2 ?k3 ?k4 ?k5 ?k6 ?_; (case k1 => k_asm); (case k2 => k_asm); (case k3 => k_asm); (case k4 => k_is); (case k5 => k_is); (case k6 => k_is); k_whole; intro x' d' h' F' N' l1 l2; (try k_lt l1); (try k_lt2 l2); (try k_sweep); walk_at "M enter"))))
  k_with "exec For Tuple Name cons nil" => ((k_here; k_dflt (refine' For_none ?F ?N ?hh ?h ?l ?_ ?hs; (case F => k_asm); (case N => k_asm); (case hh => exact rfl); (case h => (walk1; exact ⟨rfl, rfl⟩)); (case l => k_mem); (case hs => (intro _; with_unfolding_all rfl)); k_whole; intro h' tk' F' N'; (try k_sweep))))
  k_with "call ref" => ((k_here; (with_reducible show wpAny _ _ (call (Value.ref 234) _) _ _ _); k_extra "M234"))
  k_with "call ref" => ((k_here; (with_reducible show wpAny _ _ (call (Value.ref 96) _) _ _ _); k_extra "M96"))
  k_with "k_ne" => (first | assumption | exact Ne.symm (by assumption) | exact ne_cls (by k_asm) (by k_mem) (by k_mem) (by rfl))
  k_with "k_all" => (assumption)
  trivial
theorem c_take_raise (w : World) {st sp : Str} (hck : CheckOk w st sp) (T : Nat → Tok) (x d cf : Addr) (ts tp tlo td tm c1 c2 c3 c4 : Tok) (role tr ky ev pp pr ic icf dr vr vp vq : Value) (blo bd : Array UInt8) (l0 dks : List Int) (most : Int) (ocfg : Obj) (rest : List (Addr × Obj))
    (hcfg : ocfg.IsDictOf (strKind Challenge.rw_pf0268_01.row.prog w) (strPairs [(.str (Str.ofString "random") c1, vr), (.str (Str.ofString "protocols") c2, vp), (.str (Str.ofString "params") c3, vq), (.str (Str.ofString "most") c4, .int most tm)]))
    (hB0 : KBw.bInts blo = l0) (hBd : KBw.bInts bd = dks) (hd1 : 0 < dks.length) (k : Int) (mm : Nat) (hks : l0 ++ dks = [k] ++ (be 3 mm ++ [])) (hm2 : mm < 16777216) (hmost : most < (mm : Int)) (hxd : x ≠ d) (hcd : cf ≠ d) (hoff : ∀ p ∈ rest, p.1 ≠ d) :
    ConE 14 w 213 [.ref x, .str sp tp, .bytes bd td] ((x, instObj 328 d) :: (d, SD w T role (.ref cf) (.str st ts) tr (.bytes blo tlo) ky ev pp pr ic icf dr) :: (cf, ocfg) :: rest) := by
  run_tac Mine.Sh.mark
  have hl4 : (l0 ++ dks).length = 4 := by rw [hks]; simp [be]
  have hl5 : l0.length + dks.length = 4 := by rw [← hl4]; simp only [List.length_append]
  unfold ConE
  k_fill
  intro mean mg mb dp un gd cn cs a ccd cl outer A₀ base h₀ L m s Q E X B F N T hk hd1 hu1 hret
  k_with "M234" => (refine' useL (hck _ _ _ _ _ _ _ _ _ _ _ _ _ _ _ _ _ ?m1 ?m2) ?x1 ?x2 ?x3 ?x4 ?x5 ?x6 ?x7 ?x8 ?_; walk_at "M args"; (case m1 => k_mem); (case m2 => k_mem); (intro r9 nw9 h9 tk9 F9 N9 hR; obtain ⟨e9, e8⟩ := hR; subst e9; subst e8))
  k_with "M96" => (refine' useE (c_split_raise w _ (by walk_at "M ints") hks hm2 hmost) ?x1 ?x2 ?x3 ?x4 ?x5 ?x6 ?x7 ?x8 ?_; walk_at "M args"; (intro e9 dx9 es9 g9 h9 tk9 hc9 FR9 R9 u9))
  refine wpAny_call ?_
  k_dflt walk_at "M enter"
  k_steps
  all_goals (exact leave_onD (firm_dict (.ref 38) (some dx9)) (by k_asm) FR9 R9 u9 fun h' R u => hret _ _ _ _ _ _ hc9 (by assumption) R u)
  run_tac Mine.Sh.fin
end
-- E4
section
open PySem.SeqAt
theorem mv3 {h₀ h : Heap} {L : Addr} {a b c x d e : Addr × Obj} {l : List (Addr × Obj)} (N : News h₀ L h (a :: b :: c :: x :: d :: e :: l)) : News h₀ L h (x :: d :: e :: a :: b :: c :: l) := fun q hq => N q (by revert hq; revert q; repeat' (first | exact List.Mem.head _ | exact fun _ h => h | exact fun _ h => List.mem_append_left _ h | exact List.forall_mem_nil _ | refine mem_step ?_ ?_ | refine app_step ?_ ?_ | refine List.Mem.tail _ ?_ | refine sub_tail ?_ | refine sub_right ?_ | refine List.mem_append_right _ ?_))
theorem mv2 {h₀ h : Heap} {L : Addr} {a b x d e : Addr × Obj} {l : List (Addr × Obj)} (N : News h₀ L h (a :: b :: x :: d :: e :: l)) : News h₀ L h (x :: d :: e :: a :: b :: l) := fun q hq => N q (by revert hq; revert q; repeat' (first | exact List.Mem.head _ | exact fun _ h => h | exact fun _ h => List.mem_append_left _ h | exact List.forall_mem_nil _ | refine mem_step ?_ ?_ | refine app_step ?_ ?_ | refine List.Mem.tail _ ?_ | refine sub_tail ?_ | refine sub_right ?_ | refine List.mem_append_right _ ?_))
theorem be3_cut (m : Int) : be 3 m = be 2 (m / 256) ++ [m % 256] := rfl
theorem msg_cut {k : Int} {body : List Int} (hk0 : 0 ≤ k) (hk1 : k < 256) : msg k body = [] ++ (([k] ++ be 2 ((body.length : Int) / 256)) ++ ([(body.length : Int) % 256] ++ body)) := by
  simp only [msg, be3_cut, be, List.nil_append, List.append_assoc, Int.emod_eq_of_lt hk0 hk1]
theorem cut3 {ks body : List Int} {k : Int} {b : Array UInt8} (hks : ks = msg k body) (hk0 : 0 ≤ k) (hk1 : k < 256) (h : KBw.bInts b = List.take (clipAt ks.length 3) ks) : KBw.bInts b = [k] ++ be 2 ((body.length : Int) / 256) := by
  run_tac Mine.Sh.mark
  have := slice_eq (i := 0) (j := 3) (hks.trans (msg_cut hk0 hk1)) rfl (by simp [be])
  rw [show clipAt ks.length 0 = 0 from by rw [show (0 : Int) = ((0 : Nat) : Int) from rfl, clipAt_nat]; omega] at this
  rw [h]; simpa using this
  run_tac Mine.Sh.fin
theorem cut4 {ks body : List Int} {k : Int} {b : Array UInt8} (hks : ks = msg k body) (hk0 : 0 ≤ k) (hk1 : k < 256) (h : KBw.bInts b = List.take (clipAt ks.length 4 - clipAt ks.length 3) (List.drop (clipAt ks.length 3) ks)) : KBw.bInts b = [(body.length : Int) % 256] := by
  run_tac Mine.Sh.mark
  rw [h]
  exact slice_eq (i := 3) (j := 4) (pre := [k] ++ be 2 ((body.length : Int) / 256)) (post := body) (by rw [hks, msg_cut hk0 hk1]; simp) (by simp [be]) (by simp)
  run_tac Mine.Sh.fin
noncomputable def ConT (d : Nat) (w : World) (f : Addr) (vs : List Value) (news : List (Addr × Obj)) (Ret : Value → List (Addr × Obj) → Prop) : Prop :=
  ∀ (mean : ExcName → Option Value) (mg mb : Str → Option Value) (dp un : Nat) (gd : Option (List Code)) (cn : Str) (cs : Scope) (a : Addr) (ccd : Value) (cl : List (Str × Addr)) (A₀ : Around) (base h₀ : Heap) (L : Addr) (m : Str → Option Value) (s : Shared) (Q E : Value → Shared → Prop),
   (hd.heap_39 w.params).In h₀ → Below A₀ base [] h₀ → Fr h₀ L s.heap m → News h₀ L s.heap news → Top hd.view_39 (looseW hd.view_39 [Str.ofString "SUM_PRIME", Str.ofString "AWAITED"]) mean mg mb h₀ → cs.kind = .function →
   dp + d < recursionLimit → un + 8 * d < cLine → (hd.heap_39 w.params).In base → Top hd.view_39 (looseW hd.view_39 [Str.ofString "SUM_PRIME", Str.ofString "AWAITED"]) mean mg mb base →
   (∀ (r : Value) (nw : List (Addr × Obj)) (h' : Heap) (tk' : Nat), Fr h₀ L h' m → News h₀ L h' nw → Ret r nw → Q r { s with heap := h', toks := tk' }) →
   wpAny (model Challenge.rw_pf0268_01.row.prog w) (ktrTop dp un gd cn cs L a ccd cl []) (call (.ref f) vs) Q E s
theorem line_E4 : True := by
  w_top off
  run_tac Mine.Sh.keep 25
  k_with "ite" => ((k_here; k_openite; k_dflt (first
      | refine ite_neg (by (simp only [bne_iff_ne, beq_iff_eq, ne_eq, decide_eq_true_eq]; omega)) ?_
      | refine ite_pos (by (simp only [bne_iff_ne, beq_iff_eq, ne_eq, decide_eq_true_eq]; omega)) ?_)))
  k_with "k_mem" => (assumption)
  k_with "getAttr ref" => ((k_here; (with_reducible show wpAny _ _ (getAttr (Value.ref _) (Str.ofString "code") _) _ _ _); k_extra "MEXC"))
  k_with "M args3" => (((case x1 => k_asm); (case x2 => k_asm); (case x3 => k_asm); (case x5 => k_asm); (case x6 => first | exact rfl | assumption); (case x7 => ktr_room); (case x8 => ktr_units)))
  k_with "M off" => ((repeat (first | assumption | (refine List.forall_mem_cons.mpr ⟨?_, ?_⟩; · (dsimp only; k_ne)))))
  k_with "k_ne" => (first | assumption | exact Ne.symm (by assumption) | exact ne_cls (by k_asm) (by k_mem) (by k_mem) (by rfl))
  k_with "k_all" => (assumption)
  k_with "call ref" => ((k_here; (with_reducible show wpAny _ _ (call (Value.ref 213) _) _ _ _); k_extra "M213"))
  k_with "call type:list" => ((k_here; (with_reducible show wpAny _ _ (call (Value.type _) [Value.ref _]) _ _ _); k_dflt (refine' list_copyK ?FR8 ?NR8 ?lR8 ?_ ?zR8; (case FR8 => k_asm); (case NR8 => k_asm); (case lR8 => exact news_list (by k_asm) (by k_mem)); (case zR8 => walk_at "M size"); k_whole; intro DR8 cR8 hR8 FR8 NR8 l1R8; (try k_lt l1R8); (try k_sweep))))
  k_with "M size" => ((first | size_fits | (rw [sizeLine_eq]; omega)))
  k_with "M eqat" => ((first | exact str_at | exact int_at (by first | rfl | omega) | exact EqAt.same _ | exact lists_same (news_list (by k_asm) (by k_mem)) (news_list (by k_asm) (by k_mem)) (by k_ne) (in1_room (by ke_room))))
  k_with "compareOp NotEq ref ref" => ((k_here; k_dflt (refine' ne_pair ?tR11 ?uR11 ?e1R11 ?e2R11 ?rR11 ?_; (case tR11 => exact news_tup (by k_asm) (by k_mem)); (case uR11 => exact news_tup (by k_asm) (by k_mem)); (case e1R11 => walk_at "M eqat"); (case e2R11 => walk_at "M eqat"); (case rR11 => ke_room))))
  k_with "compareOp Eq ref ref" => ((k_here; k_dflt (refine' eq_triple ?tR12 ?uR12 ?e1R12 ?e2R12 ?e3R12 ?rR12 ?_; (case tR12 => exact news_tup (by k_asm) (by k_mem)); (case uR12 => exact news_tup (by k_asm) (by k_mem)); (case e1R12 => walk_at "M eqat"); (case e2R12 => walk_at "M eqat"); (case e3R12 => walk_at "M eqat"); (case rR12 => ke_room))))
  trivial
theorem c_taken_refused (w : World) {st sp : Str} (hck : CheckOk w st sp) (tt : Nat → Tok) (x d cf eva : Addr) (ts tp tlo td tm tm2 c1 c2 c3 c4 : Tok) (role tr ky pp pr ic icf dr vr vp vq : Value) (blo bd : Array UInt8) (ks body : List Int) (k : Int) (most : Int) (ocfg : Obj) (evs : Array Value) (ne : Nat) (rest : List (Addr × Obj))
    (hcfg : ocfg.IsDictOf (strKind Challenge.rw_pf0268_01.row.prog w) (strPairs [(.str (Str.ofString "random") c1, vr), (.str (Str.ofString "protocols") c2, vp), (.str (Str.ofString "params") c3, vq), (.str (Str.ofString "most") c4, .int most tm)]))
    (hB0 : KBw.bInts blo = []) (hBd : KBw.bInts bd = ks) (hks : ks = msg k body) (hk0 : 0 ≤ k) (hk1 : k < 256) (hb : body.length < 60000) (hmost : most < body.length) (hes : evs.size < 100) (hxd : x ≠ d) (hcd : cf ≠ d) (hed : eva ≠ d) (hoff : ∀ p ∈ rest, p.1 ≠ d) :
    ConT 20 w 353 [.ref x, .str sp tp, .bytes bd td, .int most tm2] ((x, instObj 328 d) :: (d, SD w tt role (.ref cf) (.str st ts) tr (.bytes blo tlo) ky (.ref eva) pp pr ic icf dr) :: (cf, ocfg) :: (eva, W.listOf evs ne) :: rest)
      (fun r nw => ∃ t b' t', r = .str (Str.ofString "refused") t ∧ nw = (x, instObj 328 d) :: (d, SD w tt role (.ref cf) (.str st ts) tr (.bytes b' t') ky (.ref eva) pp pr ic icf dr) :: (cf, ocfg) :: (eva, W.listOf evs ne) :: rest) := by
  run_tac Mine.Sh.mark
  have hlen : ks.length = body.length + 4 := by rw [hks, msg_length]
  unfold ConT
  k_fill
  intro mean mg mb dp un gd cn cs a ccd cl A₀ base h₀ L m s Q E X B F N T hk hd1 hu1 XB TB hret
  k_with "M213" => (first
    | (refine' useL (c_take_short w hck tt x d cf _ _ _ _ _ _ _ _ _ role tr ky (.ref eva) pp pr ic icf dr vr vp vq _ _ [] ([k] ++ be 2 ((body.length : Int) / 256)) most ocfg _ hcfg hB0 (cut3 hks hk0 hk1 (by assumption)) (by simp [be]) (by simp [be]) hxd hcd ?off) ?x1 ?x2 ?x3 ?x4 ?x5 ?x6 ?x7 ?x8 ?_; (case x4 => exact mv2 (by k_asm)); walk_at "M args3"; (case off => walk_at "M off"); (intro r9 nw9 h9 tk9 F9 N9 hR; obtain ⟨S9, b9, t9, n9, e9, e8, hB9⟩ := hR; subst e9; subst e8))
    | (refine' useE (c_take_raise w hck tt x d cf _ _ _ _ _ _ _ _ _ role tr ky (.ref eva) pp pr ic icf dr vr vp vq _ _ ([] ++ ([k] ++ be 2 ((body.length : Int) / 256))) [(body.length : Int) % 256] most ocfg _ hcfg hB9 (cut4 hks hk0 hk1 (by assumption)) (by simp) k body.length (by simp [be3_cut]) (by omega) (by omega) hxd hcd ?off) ?x1 ?x2 ?x3 ?x4 ?x5 ?x6 ?x7 ?x8 ?_; (case x4 => exact mv3 (by k_asm)); walk_at "M args3"; (case off => walk_at "M off"); (intro e9 dx9 es9 g9 h9 tk9 hc9 FR9 R9 u9)))
  refine wpAny_call ?_
  k_dflt (refine' codeD0 ?k1 ?k2 ?k3 ?k4 ?k5 ?kA ?kF ?kK ?k6 ?k7 ?k8 ?k9 ?kB ?_ ?c2 ?c3 ?c4 ?c5)
  (case kA => exact rfl)
  (case kF => exact rfl)
  (case kK => first | assumption | exact rfl)
  (case k1 => k_asm)
  (case k2 => k_asm)
  (case k3 => k_asm)
  (case k4 => k_asm)
  (case k5 => k_asm)
  (case k6 => k_is)
  (case k7 => k_is)
  (case k8 => ktr_room)
  (case k9 => exact BindsTo.of_eq rfl)
  (case c5 => decide)
  (case kB => exact locs rfl)
  (case c2 => exact rfl)
  (case c3 => exact rfl)
  (case c4 => exact rfl)
  k_whole
  intro g' L' h' Qb FG' F' N' B' X' T' D' hQb
  dsimp only
  k_lift B'
  k_steps
  obtain ⟨tc9, hc9⟩ := hc9
  refine caughtD (firm_dict (.ref 38) (some dx9)) (fun _ h => h.1) R9 FR9 B' u9 XB TB D' ?ex9 ?q9 ?k9
  case ex9 => exact rfl
  case q9 => exact rfl
  case k9 =>
  intro h2' g2' oe vs2 tk2 hT2 F2' hoe hdoe N2' B2' X2' T2' D2'
  k_with "MEXC" => (k_dflt (refine' exc_get ?F ?X ?m1 hoe.1 ?n hoe.2 ?m2 ?hc ?ga ?gt ?hh ?ha hc9 ?hv ?_; (case F => k_asm); (case X => k_asm); (case m1 => exact News.get (by k_asm) (by k_mem)); (case n => (unfold notCls; rw [hdoe])); (case m2 => exact News.get (by k_asm) (by k_mem)); (case hc => exact rfl); (case ga => k_is); (case gt => k_is); (case hh => exact rfl); (case ha => k_is); (case hv => exact rfl)))
  k_steps
  all_goals (
    rename News g2' _ _ _ => hN
    refine hQb _ _ (leaveS0_ (by k_asm) (news' := (x, instObj 328 d) :: (d, SD w tt role (.ref cf) (.str st ts) tr (.bytes b9 t9) ky (.ref eva) pp pr ic icf dr) :: (cf, ocfg) :: (eva, W.listOf evs ne) :: rest) (fun p hp => hN p (by revert hp; revert p; repeat' (first | exact List.Mem.head _ | exact fun _ h => h | exact fun _ h => List.mem_append_left _ h | exact List.forall_mem_nil _ | refine mem_step ?_ ?_ | refine app_step ?_ ?_ | refine List.Mem.tail _ ?_ | refine sub_tail ?_ | refine sub_right ?_ | refine List.mem_append_right _ ?_))) hT2 fun F3 N3 => hret _ _ _ _ F3 N3 ⟨_, _, _, rfl, rfl⟩))
  run_tac Mine.Sh.fin
end
-- TK
section
section
variable {prog : Program} {w : World} {A : Around} {E : Value → Shared → Prop} {s : Shared} {h₀ : Heap} {L D b : Addr} {m : Str → Option Value} {post : List (Addr × Obj)} {vs : Array Value} {n n2 : Nat}
theorem ext_new {Q : Value → Shared → Prop} (F : Fr h₀ L s.heap m) (N : News h₀ L s.heap ((D, W.listOf #[] n) :: post)) (h2 : ∀ p ∈ post, p.1 ≠ D) (hb : (b, W.listOf vs n2) ∈ post) (hz : vs.size < 1000)
    (h : ∀ h' n', Fr h₀ L h' m → News h₀ L h' ((D, W.listOf vs n') :: post) → Q .none { s with heap := h' }) : wpAny (model prog w) A (call (.builtin "list.extend") [.ref D, .ref b]) Q E s := by
  run_tac Mine.Sh.mark
  have hs : (1000 : Nat) ≤ sizeLine := by rw [sizeLine_eq]; omega
  have hm : (b, W.listOf vs n2) ∈ (D, W.listOf #[] n) :: post := .tail _ hb
  by_cases hv : vs.toList.length = 0
  · have e : vs = #[] := Array.toList_inj.mp (by simpa using hv)
    subst e
    exact kxn_extend F N hm rfl (.head h2) (by simp) (by simp) (by simp) fun h' F' N' => h h' n F' N'
  · refine kl_extend (l := vs.toList) F N hm (by simp) hv (.head h2) (by simp) (by simp) (by simp; omega) fun h' F' N' => h h' (n + 1) F' ?_
    rwa [Array.toArray_toList] at N'
  run_tac Mine.Sh.fin
end
end
-- E5
section
noncomputable def Above (a : Addr) (l : List (Addr × Obj)) : Prop := ∀ p ∈ l, p.1 < a
theorem forend_ok {h₀ : Heap} {L I O S x d cf S8 : Addr} {oI oO o8 ox od oc : Obj} {v : Value} {n : Nat} {mid rest : List (Addr × Obj)} {Q : Flow → Shared → Prop} {s₃ : Shared} {m' : Str → Option Value} (F : Fr h₀ L s₃.heap m')
    (N : News h₀ L s₃.heap ((O, oO) :: (S8, o8) :: (x, ox) :: (d, od) :: (cf, oc) :: (I, oI) :: (S, { cls := .type "list", data := .seq #[v] n }) :: (mid ++ rest))) (hOI : O ≠ I) (hne : ∀ p ∈ (x, ox) :: (d, od) :: (cf, oc) :: (mid ++ rest), p.1 ≠ I)
    (k : ∀ h'' tk'', Fr h₀ L h'' m' → News h₀ L h'' ((O, oO) :: (x, ox) :: (d, od) :: (cf, oc) :: (mid ++ rest)) → Q .next { s₃ with heap := h'', toks := tk'' }) : ForEnd h₀ L I oI S v n Q .next s₃ := by
  run_tac Mine.Sh.mark
  refine ⟨.inl rfl, m', _, _, F, N, by simp, by simp, fun p hp => ?_, k⟩
  rcases List.mem_cons.mp hp with rfl | hp
  · exact ⟨.head _, hOI⟩
  · refine ⟨?_, hne p hp⟩
    simp only [List.mem_cons] at hp ⊢
    rcases hp with h | h | h | h <;> simp [h]
  run_tac Mine.Sh.fin
section
variable {x d cf I O T S U S8 : Addr} {ox sd sd' oc oI oO oT oS oU o8 : Obj} {core rest mid : List (Addr × Obj)} {muts : List Addr}
theorem muts_ok (hmut : ∀ a ∈ muts, ∃ o, (a, o) ∈ (d, sd) :: (cf, oc) :: core) (hrest : ∀ p ∈ rest, ∀ a ∈ muts, p.1 ≠ a)
    (aI : Above I ((O, oO) :: (T, oT) :: (S, oS) :: (U, oU) :: (x, ox) :: (d, sd') :: (cf, oc) :: (core ++ rest))) (aO : Above O ((T, oT) :: (S, oS) :: (U, oU) :: (x, ox) :: (d, sd') :: (cf, oc) :: (core ++ rest)))
    (hS : ∀ p ∈ (x, ox) :: (d, sd) :: (cf, oc) :: (core ++ rest), p.1 < S) (hT : ∀ p ∈ (x, ox) :: (d, sd) :: (cf, oc) :: (core ++ rest), p.1 ≠ T) (hU : ∀ p ∈ (x, ox) :: (d, sd) :: (cf, oc) :: (core ++ rest), p.1 ≠ U) :
    ∀ p ∈ (I, oI) :: (O, oO) :: (T, oT) :: (S, oS) :: (U, oU) :: rest, ∀ a ∈ muts, p.1 ≠ a := fun p hp a ha => by
  obtain ⟨o, ho⟩ := hmut a ha
  have h1 : (a, o) ∈ (x, ox) :: (d, sd) :: (cf, oc) :: (core ++ rest) := by simp only [List.mem_cons, List.mem_append] at ho ⊢; rcases ho with h | h | h <;> simp [h]
  obtain ⟨o', h2⟩ : ∃ o', (a, o') ∈ (x, ox) :: (d, sd') :: (cf, oc) :: (core ++ rest) := by
    simp only [List.mem_cons, List.mem_append] at ho
    rcases ho with h | h | h
    · exact ⟨sd', by rw [(Prod.mk.inj h).1]; simp⟩
    · exact ⟨o, by simp [h]⟩
    · exact ⟨o, by simp [h]⟩
  rcases List.mem_cons.mp hp with rfl | hp
  · exact Nat.ne_of_gt (aI _ (.tail _ (.tail _ (.tail _ (.tail _ h2)))))
  rcases List.mem_cons.mp hp with rfl | hp
  · exact Nat.ne_of_gt (aO _ (.tail _ (.tail _ (.tail _ h2))))
  rcases List.mem_cons.mp hp with rfl | hp
  · exact fun e => hT _ h1 e.symm
  rcases List.mem_cons.mp hp with rfl | hp
  · exact Nat.ne_of_gt (hS _ h1)
  rcases List.mem_cons.mp hp with rfl | hp
  · exact fun e => hU _ h1 e.symm
  exact hrest p hp a ha
theorem rest_ok (aO : Above O ((T, oT) :: (S, oS) :: (U, oU) :: (x, ox) :: (d, sd') :: (cf, oc) :: (core ++ rest))) : ∀ p ∈ rest, p.1 ≠ O := fun p hp => Nat.ne_of_lt (aO p (by simp [hp]))
theorem out_ok {sd8 : Obj} (aI : Above I ((O, oO) :: (T, oT) :: (S, oS) :: (U, oU) :: (x, ox) :: (d, sd') :: (cf, oc) :: (core ++ rest))) (aO : Above O ((T, oT) :: (S, oS) :: (U, oU) :: (x, ox) :: (d, sd') :: (cf, oc) :: (core ++ rest)))
    (h8 : ∀ p ∈ (I, oI) :: (O, oO) :: (T, oT) :: (S, oS) :: (U, oU) :: rest, p.1 ≠ S8) (hM : ∀ q ∈ (I, oI) :: (O, oO) :: (T, oT) :: (S, oS) :: (U, oU) :: rest, ∀ p ∈ mid, p.1 ≠ q.1) :
    (∀ p ∈ (S8, o8) :: (x, ox) :: (d, sd8) :: (cf, oc) :: (I, oI) :: (S, oS) :: (mid ++ rest), p.1 ≠ O) ∧ O ≠ I ∧ ∀ p ∈ (x, ox) :: (d, sd8) :: (cf, oc) :: (mid ++ rest), p.1 ≠ I := by
  run_tac Mine.Sh.mark
  have x1 := aI (O, oO) (by simp)
  refine ⟨fun p hp => ?_, Nat.ne_of_lt x1, fun p hp => ?_⟩
  · simp only [List.mem_cons, List.mem_append] at hp
    rcases hp with rfl | rfl | rfl | rfl | rfl | rfl | h | h
    · exact fun e => h8 (O, oO) (by simp) e.symm
    · exact Nat.ne_of_lt (aO (x, ox) (by simp))
    · exact Nat.ne_of_lt (aO (d, sd') (by simp))
    · exact Nat.ne_of_lt (aO (cf, oc) (by simp))
    · exact Nat.ne_of_gt x1
    · exact Nat.ne_of_lt (aO (S, oS) (by simp))
    · exact hM (O, oO) (by simp) p h
    · exact Nat.ne_of_lt (aO p (by simp [h]))
  · simp only [List.mem_cons, List.mem_append] at hp
    rcases hp with rfl | rfl | rfl | h | h
    · exact Nat.ne_of_lt (aI (x, ox) (by simp))
    · exact Nat.ne_of_lt (aI (d, sd') (by simp))
    · exact Nat.ne_of_lt (aI (cf, oc) (by simp))
    · exact hM (I, oI) (by simp) p h
    · exact Nat.ne_of_lt (aI p (by simp [h]))
  run_tac Mine.Sh.fin
end
abbrev HPost := Array Value → Value → Value → Value → Value → Value → Value → List (Addr × Obj) → Prop
noncomputable def HRet (w : World) (tt : Nat → Tok) (x d cf : Addr) (ocfg : Obj) (role lo ky ev dr : Value) (rest : List (Addr × Obj)) (Post : HPost) (r : Value) (nw : List (Addr × Obj)) : Prop :=
  ∃ S vs n st' tr' pp' pr' ic' icf' mid, r = .ref S ∧ nw = (S, W.listOf vs n) :: (x, instObj 328 d) :: (d, SD w tt role (.ref cf) st' tr' lo ky ev pp' pr' ic' icf' dr) :: (cf, ocfg) :: (mid ++ rest) ∧ vs.size < 1000 ∧ (∀ p ∈ rest, p.1 ≠ S) ∧ (∀ q ∈ rest, ∀ p ∈ mid, p.1 ≠ q.1) ∧ (∀ p ∈ mid, p.1 ≠ d) ∧ Post vs st' tr' pp' pr' ic' icf' mid
noncomputable def OneOk (w : World) (tt : Nat → Tok) (x d cf : Addr) (ocfg : Obj) (k : Int) (body whole : List Int) (role : Value) (st : Str) (tr ky ev pp pr ic icf dr : Value) (core : List (Addr × Obj)) (muts : List Addr) (Post : HPost) : Prop :=
  ∀ (tk tb twh ts tlo : Tok) (bb bw blo : Array UInt8) (rest : List (Addr × Obj)), KBw.bInts bb = body → KBw.bInts bw = whole → (∀ p ∈ rest, ∀ a ∈ muts, p.1 ≠ a) →
    ConG 20 w 241 [.ref x, .int k tk, .bytes bb tb, .bytes bw twh] ((x, instObj 328 d) :: (d, SD w tt role (.ref cf) (.str st ts) tr (.bytes blo tlo) ky ev pp pr ic icf dr) :: (cf, ocfg) :: (core ++ rest))
      (HRet w tt x d cf ocfg role (.bytes blo tlo) ky ev dr rest Post)
theorem mvc {h₀ h : Heap} {L : Addr} {i o t s u x d e : Addr × Obj} {core l : List (Addr × Obj)} (N : News h₀ L h (i :: o :: t :: s :: u :: x :: d :: e :: (core ++ l))) : News h₀ L h (x :: d :: e :: (core ++ (i :: o :: t :: s :: u :: l))) := fun q hq => N q (by revert hq; revert q; repeat' (first | exact List.Mem.head _ | exact fun _ h => h | exact fun _ h => List.mem_append_left _ h | exact List.forall_mem_nil _ | refine mem_step ?_ ?_ | refine app_step ?_ ?_ | refine List.Mem.tail _ ?_ | refine sub_tail ?_ | refine sub_right ?_ | refine List.mem_append_right _ ?_))
theorem mvd {h₀ h : Heap} {L : Addr} {z i o t s u x d e : Addr × Obj} {mid l : List (Addr × Obj)} (N : News h₀ L h (z :: x :: d :: e :: (mid ++ (i :: o :: t :: s :: u :: l)))) : News h₀ L h (o :: z :: x :: d :: e :: i :: s :: (mid ++ l)) := fun q hq => N q (by revert hq; revert q; repeat' (first | exact List.Mem.head _ | exact fun _ h => h | exact fun _ h => List.mem_append_left _ h | exact List.forall_mem_nil _ | refine mem_step ?_ ?_ | refine app_step ?_ ?_ | refine List.Mem.tail _ ?_ | refine sub_tail ?_ | refine sub_right ?_ | refine List.mem_append_right _ ?_))
theorem line_E5 : True := by
  w_top off
  run_tac Mine.Sh.keep 25
  k_with "ite" => ((k_here; k_openite; k_dflt (first
      | refine ite_neg (by (simp only [bne_iff_ne, beq_iff_eq, ne_eq, decide_eq_true_eq]; omega)) ?_
      | refine ite_pos (by (simp only [bne_iff_ne, beq_iff_eq, ne_eq, decide_eq_true_eq]; omega)) ?_)))
  k_with "M args3" => (((case x1 => k_asm); (case x2 => k_asm); (case x3 => k_asm); (case x5 => k_asm); (case x6 => first | exact rfl | assumption); (case x7 => ktr_room); (case x8 => ktr_units)))
  k_with "k_ne" => (first | assumption | exact Ne.symm (by assumption) | exact ne_cls (by k_asm) (by k_mem) (by k_mem) (by rfl))
  k_with "k_all" => (assumption)
  k_with "k_mem" => (assumption)
  k_with "call ref" => ((k_here; (with_reducible show wpAny _ _ (call (Value.ref 234) _) _ _ _); k_extra "M234"))
  k_with "call ref" => ((k_here; (with_reducible show wpAny _ _ (call (Value.ref 96) _) _ _ _); k_extra "M96"))
  k_with "G call" => (((with_reducible show wpG _ _ (call (Value.ref 241) _) _ _ _); k_dflt (k_extra "M241")))
  k_with "newList" => ((k_here; k_dflt (refine' newList_K ?k1 ?k2 ?_; (case k1 => k_asm); (case k2 => k_asm); k_whole); intro l' h' F' N' l1; (k_dflt (replace l1 : Above l' _ := l1)); (try k_sweep)))
  k_with "wpG" => ((
      (with_reducible show wpG _ _ (exec (Stmt.For (Expr.Tuple _ _ _) _ _ [] _) _) _ _ _)
      k_dflt (refine' wpG_For1 ?F ?N ?hh ?h ?hl ?_ ?hs; (case F => k_asm); (case N => k_asm); (case hh => exact rfl); (case h => (walk1; exact ⟨rfl, rfl⟩)); (case hl => k_mem); (case hs => (intro _; with_unfolding_all rfl)); k_whole; intro I' oI' h' tk' F' N' l1; (replace l1 : Above I' _ := l1); (try k_sweep))))
  k_with "wpG" => (((with_reducible show wpG _ _ (call (Value.ref 241) _) _ _ _); walk_at "G call"))
  k_with "ForEnd" => ((k_here; k_dflt (refine' forend_ok ?F ?N ?oi ?ne ?_; (case F => k_asm); (case N => k_asm); (case oi => assumption); (case ne => assumption)); intro h' tk' F' N'; (try k_sweep)))
  k_with "call builtin:list.extend" => ((k_here; k_dflt (refine' ext_new ?F ?N ?h2 ?hb ?hz ?_; (case F => k_asm); (case N => k_asm); (case h2 => assumption); (case hb => exact .head _); (case hz => assumption)); intro h' n' F' N'; (try k_sweep)))
  trivial
theorem c_take_whole (w : World) {st sp : Str} (hck : CheckOk w st sp) (tt : Nat → Tok) (x d cf : Addr) (ts tp tlo td tmo c1 c2 c3 c4 : Tok) (role tr ky ev pp pr ic icf dr vr vp vq : Value) (blo bd : Array UInt8) (l0 dks body : List Int) (k most : Int) (ocfg : Obj) (core rest : List (Addr × Obj)) (muts : List Addr) (Post : HPost)
    (hcfg : ocfg.IsDictOf (strKind Challenge.rw_pf0268_01.row.prog w) (strPairs [(.str (Str.ofString "random") c1, vr), (.str (Str.ofString "protocols") c2, vp), (.str (Str.ofString "params") c3, vq), (.str (Str.ofString "most") c4, .int most tmo)]))
    (hB0 : KBw.bInts blo = l0) (hBd : KBw.bInts bd = dks) (hd1 : 0 < dks.length) (hks : l0 ++ dks = msg k body) (hk0 : 0 ≤ k) (hk1 : k < 256) (hm0 : 0 < body.length) (hm2 : body.length < 60000) (hmost : (body.length : Int) ≤ most)
    (hmut : ∀ a ∈ muts, ∃ o, (a, o) ∈ (d, SD w tt role (.ref cf) (.str st ts) tr (.bytes blo tlo) ky ev pp pr ic icf dr) :: (cf, ocfg) :: core) (hrest : ∀ p ∈ rest, ∀ a ∈ muts, p.1 ≠ a) (hxd : x ≠ d) (hcd : cf ≠ d) (hoff : ∀ p ∈ core ++ rest, p.1 ≠ d)
    (one : OneOk w tt x d cf ocfg k body (l0 ++ dks) role st tr ky ev pp pr ic icf dr core muts Post) :
    ConG 26 w 213 [.ref x, .str sp tp, .bytes bd td] ((x, instObj 328 d) :: (d, SD w tt role (.ref cf) (.str st ts) tr (.bytes blo tlo) ky ev pp pr ic icf dr) :: (cf, ocfg) :: (core ++ rest))
      (fun r nw => ∃ bl' tl', KBw.bInts bl' = [] ∧ HRet w tt x d cf ocfg role (.bytes bl' tl') ky ev dr rest Post r nw) := by
  run_tac Mine.Sh.mark
  have hl4 : (l0 ++ dks).length = body.length + 4 := by rw [hks, msg_length]
  have hl5 : l0.length + dks.length = body.length + 4 := by rw [← hl4]; simp only [List.length_append]
  unfold ConG
  k_fill
  intro mean mg mb dp un gd cn cs a ccd cl outer A₀ base h₀ L m s Q X B F N T hk hd1 hu1 hret
  k_with "M234" => (refine' useL (hck _ _ _ _ _ _ _ _ _ _ _ _ _ _ _ _ _ ?m1 ?m2) ?x1 ?x2 ?x3 ?x4 ?x5 ?x6 ?x7 ?x8 ?_; walk_at "M args"; (case m1 => k_mem); (case m2 => k_mem); (intro r9 nw9 h9 tk9 F9 N9 hR; obtain ⟨e9, e8⟩ := hR; subst e9; subst e8))
  k_with "M96" => (refine' useL (c_split_whole w _ (by walk_at "M ints") hks hm0 hm2 hmost hk0 hk1) ?x1 ?x2 ?x3 ?x4 ?x5 ?x6 ?x7 ?x8 ?_; walk_at "M args"; (intro r9 nw9 h9 tk9 F9 N9 hR; obtain ⟨T9, S9, U9, e9, bl9, tl9, kk9, bb9, tb9, bw9, tw9, tk99, k91, k92, k93, e8, hS9, hT9, hU9, ek9, g0, g1, g2⟩ := hR; subst e9; subst e8; subst ek9))
  k_with "M241" => (rename Above _ ((T9, _) :: _) => aO; rename Above _ ((_, W.listOf #[] 0) :: _) => aI; refine' useG (one tk99 tb9 tw9 ts tl9 bb9 bw9 bl9 _ g1 g2 ?mu) ?x1 ?x2 ?x3 ?x4 ?x5 ?x6 ?x7 ?x8 ?_; (case x4 => exact mvc (by k_asm)); walk_at "M args3"; (case mu => exact muts_ok hmut hrest aI aO hS9 hT9 hU9); (intro r9 nw9 h9 tk9 F9 N9 hR; obtain ⟨S8, vs8, n8, st8, tr8, pp8, pr8, ic8, icf8, mid8, e9, e8, hz8, hS8, hM8, hD8, hP8⟩ := hR; subst e9; subst e8; replace N9 := mvd N9; obtain ⟨hO8, hOI8, hI8⟩ := out_ok (S8 := S8) (o8 := W.listOf vs8 n8) (sd8 := SD w tt role (.ref cf) st8 tr8 (.bytes bl9 tl9) ky ev pp8 pr8 ic8 icf8 dr) aI aO hS8 hM8))
  refine wpG_call ?_
  k_dflt (refine' codeG_defN (binds := [(Str.ofString "self", .ref x), (Str.ofString "space", .str sp tp), (Str.ofString "data", .bytes bd td)]) ?k1 ?k2 ?k3 ?k4 ?k5 ?kA ?kF ?kK ?k6 ?k7 ?k8 ?k9 ?kB ?_ ?c2 ?c3 ?c4 ?c5; walk_at "G entered")
  walk_at "G steps"
  all_goals (rename News h₀ L _ _ => hN; exact hret _ _ _ _ (by k_asm) hN ⟨bl9, tl9, g0, _, vs8, _, st8, tr8, pp8, pr8, ic8, icf8, mid8, rfl, rfl, hz8, rest_ok aO, fun q hq => hM8 q (by simp [hq]), hD8, hP8⟩)
  run_tac Mine.Sh.fin
end
-- E6
section
theorem in_same {prog : Program} {w : World} {A : Around} {E : Value → Shared → Prop} {s : Shared} {h₀ : Heap} {L l : Addr} {news : List (Addr × Obj)} {b c : Array UInt8} {t u : Tok} {n : Nat} {ks : List Int} {Q : Value → Shared → Prop} (N : News h₀ L s.heap news) (hm : (l, { cls := .type "list", data := .seq #[.bytes c u] n }) ∈ news) (hb : KBw.bInts b = ks) (hc : KBw.bInts c = ks) (h : Q (.bool true) s) :
    wpAny (model prog w) A (compareOp .In (.bytes b t) (.ref l)) Q E s := by
  run_tac Mine.Sh.mark
  refine SeqInW.in_listW (fun _ => true) (fun y hy => ?_) (PySem.IsL.isList (n := n) (N _ hm).1) (by simpa using h)
  have e : y = .bytes c u := by simpa using hy
  subst e
  intro prog w A E s Q hq
  refine eqBool_bytes ?_
  rw [decide_eq_true (bInts_inj (hc.trans hb.symm))]
  exact hq
  run_tac Mine.Sh.fin
theorem wpG_ForRet1 {prog : Program} {w : World} {A : Around} {E : Value → Shared → Prop} {s : Shared} {env : Env} {h₀ : Heap} {L l : Addr} {m : Str → Option Value} {news : List (Addr × Obj)} {target iter : Expr} {body : List Stmt} {pos : Pos} {n : Nat} {v : Value} {Q : Flow → Shared → Prop} (F : Fr h₀ L s.heap m) (N : News h₀ L s.heap news)
    (h : wpAny (model prog w) A (eval iter env) (fun xv s₁ => xv = .ref l ∧ s₁ = s) (fun _ _ => False) s) (hl : (l, { cls := .type "list", data := .seq #[v] n }) ∈ news)
    (k : ∀ I oI h' tk, Fr h₀ L h' m → News h₀ L h' ((I, oI) :: news) → (∀ p ∈ news, p.1 < I) →
      wpAny (model prog w) A (assign target env v) (fun _ s₂ => wpG (model prog w) A (execs body env) (fun f s₃ => match f with | .ret r => Q (.ret r) s₃ | _ => False) (fun _ _ => False) s₂) (fun _ _ => False) { s with heap := h', toks := tk })
    (hs : ∀ x, foldedSetIterable iter env x = pure x := by intro _; rfl) :
    wpG (model prog w) A (exec (.For target iter body [] pos) env) Q E s := by
  run_tac Mine.Sh.mark
  refine wpG_For (wpG_any (wpAny_mono h (fun xv s₁ h₁ => ?_) fun _ _ e => e.elim)) hs
  obtain ⟨rfl, rfl⟩ := h₁
  obtain ⟨hp, g, d, tk, o⟩ := s₁
  have hlist : hp.IsList l #[v] := ⟨_, (N _ hl).1, rfl, _, rfl⟩
  refine wpAny_pyIter_list hlist ?_
  refine codeG_for_step (wpAny_pyNext_list_item ⟨_, Heap.get?_push_size _ rfl, rfl, rfl⟩ (hlist.push _) (x := v) rfl fun h₁ il hs₁ => ?_)
  dsimp only
  have up : ∀ b o, hp.get? b = some o → h₁.get? b = some o ∧ b < hp.objs.size := fun b o e => ⟨(hs₁.2 b (Nat.ne_of_lt (Heap.lt_size e))).trans (Heap.get?_push_of_some _ e), Heap.lt_size e⟩
  generalize hp.objs.size = I at il up hs₁ ⊢
  have hI₀ : h₀.get? I = none := by
    cases e : h₀.get? I with
    | none => rfl
    | some o' => exact absurd (up I o' (F.keep I o' e)).2 (Nat.lt_irrefl _)
  have hLI : L < I := by
    obtain ⟨oL, es, ep, e, _⟩ := F.ns
    exact (up L oL e).2
  refine letGo_listiter il ?_
  obtain ⟨oI, heI, hcI, hdI⟩ := il
  have F₁ : Fr h₀ L h₁ m := F.keeps fun b o e => (up b o e).1
  have N₁ : News h₀ L h₁ ((I, oI) :: news) := fun p hp => by
    rcases List.mem_cons.mp hp with rfl | hp
    · exact ⟨heI, Ne.symm (Nat.ne_of_lt hLI), hI₀⟩
    · exact ⟨(up _ _ (N p hp).1).1, (N p hp).2⟩
  refine wpAny_mono (k I oI h₁ tk F₁ N₁ fun p hp => (up _ _ (N p hp).1).2) (fun _ s₂ h₂ => wpG_mono h₂ (fun f s₃ h₃ => ?_) fun _ _ e => e) fun _ _ e => e
  cases f <;> first | exact h₃ | exact h₃.elim
  run_tac Mine.Sh.fin
theorem line_E6 : True := by
  w_top off
  run_tac Mine.Sh.keep 25
  k_with "k_mem" => (assumption)
  k_with "compareOp In bytes ref" => ((k_here; k_dflt (refine' in_same ?N ?m ?b ?c ?_; (case N => k_asm); (case m => k_mem); (case b => assumption); (case c => assumption))))
  k_with "wpG" => ((
      (with_reducible show wpG _ _ (exec (Stmt.For (Expr.Name _ _) _ _ [] _) _) _ _ _)
      k_dflt (refine' wpG_ForRet1 ?F ?N ?h ?hl ?_ ?hs; (case F => k_asm); (case N => k_asm); (case h => (walk1; exact ⟨rfl, rfl⟩)); (case hl => k_mem); (case hs => (intro _; with_unfolding_all rfl)); k_whole; intro I' oI' h' tk' F' N' l1; (try k_sweep))))
  trivial
theorem c_chosen (w : World) {bh bp : Array UInt8} {th tp : Tok} {np nq : Nat} {p q : Addr} {xp : List Int} (news : List (Addr × Obj)) (hp : (p, W.listOf #[.bytes bh th] np) ∈ news) (hq : (q, ({ cls := .type "list", data := .seq #[.bytes bp tp] nq } : Obj)) ∈ news) (hB1 : KBw.bInts bh = xp) (hB2 : KBw.bInts bp = xp) :
    ConG 6 w 178 [.ref p, .ref q] news (fun r nw => nw = news ∧ r = .bytes bh th) := by
  run_tac Mine.Sh.mark
  unfold ConG
  k_fill
  intro mean mg mb dp un gd cn cs a ccd cl outer A₀ base h₀ L m s Q X B F N T hk hd1 hu1 hret
  refine wpG_call ?_
  k_dflt (refine' codeG_defN (binds := [(Str.ofString "ours", .ref p), (Str.ofString "theirs", .ref q)]) ?k1 ?k2 ?k3 ?k4 ?k5 ?kA ?kF ?kK ?k6 ?k7 ?k8 ?k9 ?kB ?_ ?c2 ?c3 ?c4 ?c5; walk_at "G entered")
  walk_at "G steps"
  all_goals (rename News h₀ L _ _ => hN; exact hret _ _ _ _ (by k_asm) (show News h₀ L _ news from fun p hp => hN p (.tail _ hp)) ⟨rfl, rfl⟩)
  run_tac Mine.Sh.fin
end
-- E7
section
theorem ne_dict {h₀ h : Heap} {L a b : Addr} {news : List (Addr × Obj)} {oa ob : Obj} {prog : Program} {w : World} {kvs : List (Str × Value)} (N : News h₀ L h news) (ha : (a, oa) ∈ news) (hb : (b, ob) ∈ news) (hD : ob.IsDictOf (strKind prog w) kvs) (hc : (oa.cls == .type "dict") = false) : a ≠ b := by
  rintro rfl
  have e := (N _ ha).1.symm.trans (N _ hb).1
  cases e
  obtain ⟨es, ep, hx, _⟩ := hD
  rw [hx.1] at hc
  simp at hc
theorem mv54 {h₀ h : Heap} {L : Addr} {a b c e f x d k v : Addr × Obj} {l : List (Addr × Obj)} (N : News h₀ L h (a :: b :: c :: e :: f :: x :: d :: k :: v :: l)) : News h₀ L h (x :: d :: k :: v :: a :: b :: c :: e :: f :: l) := fun q hq => N q (by revert hq; revert q; repeat' (first | exact List.Mem.head _ | exact fun _ h => h | exact fun _ h => List.mem_append_left _ h | exact List.forall_mem_nil _ | refine mem_step ?_ ?_ | refine app_step ?_ ?_ | refine List.Mem.tail _ ?_ | refine sub_tail ?_ | refine sub_right ?_ | refine List.mem_append_right _ ?_))
theorem tup_tail {prog : Program} {w : World} {A : Around} {E : Value → Shared → Prop} {s : Shared} {h₀ : Heap} {L t : Addr} {m : Str → Option Value} {news : List (Addr × Obj)} {value slice : Expr} {v1 v2 v3 : Value} {k : Nat} {u : Tok} {Q : Value → Shared → Prop}
    (F : Fr h₀ L s.heap m) (N : News h₀ L s.heap news) (ht : (t, ({ cls := .type "tuple", data := .seq #[v1, v2, v3] k } : Obj)) ∈ news)
    (h : ∀ D h', Fr h₀ L h' m → News h₀ L h' ((D, { cls := .type "tuple", data := .seq #[v2, v3] }) :: news) → (∀ p ∈ news, p.1 < D) → Q (.ref D) { s with heap := h' })
    (hs : subscripted slice false (.ref t) (.ref s.heap.objs.size) = operate [.ref s.heap.objs.size, .ref t] (getItem (.ref t) (.ref s.heap.objs.size)))
    (hg : ∀ r, letTemporaryGo value (.ref t) r = pure ()) :
    wpAny (model prog w) A (subscriptTail value slice (.ref t) (.ref s.heap.objs.size)) Q E { s with heap := s.heap.push { cls := .type "slice", data := .fields #[.int 1 u, .none, .none] } } :=
  slice_tuple_from (a := 1) F N (items := #[v1, v2, v3]) ⟨_, (N _ ht).1, rfl, _, rfl⟩ (Nat.le_refl _) (by simp) (fun h' F' N' => h _ h' F' N' fun p hp => Nat.lt_succ_of_lt (Heap.lt_size (N p hp).1)) hs hg
theorem permCH {h₀ h : Heap} {L : Addr} {z P2 P1 x d ka eva V U D T S cf p : Addr × Obj} {l : List (Addr × Obj)} (N : News h₀ L h (z :: P2 :: P1 :: x :: d :: ka :: eva :: V :: U :: D :: T :: S :: cf :: p :: l)) : News h₀ L h (z :: x :: d :: cf :: p :: ka :: eva :: P1 :: P2 :: l) := fun q hq => N q (by revert hq; revert q; repeat' (first | exact List.Mem.head _ | exact fun _ h => h | exact fun _ h => List.mem_append_left _ h | exact List.forall_mem_nil _ | refine mem_step ?_ ?_ | refine app_step ?_ ?_ | refine List.Mem.tail _ ?_ | refine sub_tail ?_ | refine sub_right ?_ | refine List.mem_append_right _ ?_))
theorem line_E7 : True := by
  w_top off
  run_tac Mine.Sh.keep 25
  k_with "G bytes" => ((
      intro r9 h9 tk9 F9 N9 hR
      obtain ⟨b9, t9, e9, hB9⟩ := hR
      subst e9))
  k_with "G call" => ((
      (with_reducible show wpG _ _ (call (Value.ref 68) _) _ _ _)
      k_dflt (
       (first
       | refine' useGP (c_pw2 _ _ _ _ ?p0 ?p1) ?x1 ?x2 ?x3 ?x4 ?x5 ?x6 ?x7 ?x8 ?_
       | refine' useGP (c_pw1 _ _ _ _ ?p0 ?p1) ?x1 ?x2 ?x3 ?x4 ?x5 ?x6 ?x7 ?x8 ?_
       | refine' useGP (c_pw3 _ _ _ _ ?p0 ?p1) ?x1 ?x2 ?x3 ?x4 ?x5 ?x6 ?x7 ?x8 ?_
       | refine' useGP (c_pw8 _ _ _ _ ?p0 ?p1) ?x1 ?x2 ?x3 ?x4 ?x5 ?x6 ?x7 ?x8 ?_)
       walk_at "M args"
       (case p0 => walk_at "M pre")
       (case p1 => walk_at "M pre")
       walk_at "G bytes")))
  k_with "ite" => ((k_here; k_openite; k_dflt (first
      | refine ite_neg (by (simp only [bne_iff_ne, beq_iff_eq, ne_eq, decide_eq_true_eq]; omega)) ?_
      | refine ite_pos (by (simp only [bne_iff_ne, beq_iff_eq, ne_eq, decide_eq_true_eq]; omega)) ?_)))
  k_with "k_mem" => (assumption)
  k_with "getMethod bytes" => ((k_here; (with_reducible refine bj_method ?_)))
  k_with "getMethod str" => ((k_here; (with_reducible refine en_method ?_)))
  k_with "call builtin:bytes.join" => ((k_here; k_dflt (refine' bj_one (News.get ?N ?m) ?_; (case N => k_asm); (case m => k_mem))))
  k_with "call builtin:str.encode" => ((k_here; k_dflt (first
      | (with_reducible refine' en_call (en_c _ _) ?hb ?_; (case hb => decide))
      | (with_reducible refine' en_call (en_s _ _) ?hb ?_; (case hb => decide))
      | (with_reducible refine' en_call (en_h _ _) ?hb ?_; (case hb => decide))
      | (with_reducible refine' en_call (en_a _ _) ?hb ?_; (case hb => decide)))))
  k_with "G call" => ((
      (with_reducible show wpG _ _ (call (Value.ref 129) _) _ _ _)
      k_dflt (
       refine' useGP (c_server_hello _ _ _ _ ?p0 ?p1) ?x1 ?x2 ?x3 ?x4 ?x5 ?x6 ?x7 ?x8 ?_
       walk_at "M args"
       (case p0 => walk_at "M pre")
       (case p1 => walk_at "M pre")
       walk_at "G bytes")))
  k_with "G call" => ((
      (with_reducible show wpG _ _ (call (Value.ref 143) _) _ _ _)
      k_dflt (
       refine' useGP (c_extensions _ _ _ _ _ _ _ ?p0 ?p1 ?p2) ?x1 ?x2 ?x3 ?x4 ?x5 ?x6 ?x7 ?x8 ?_
       walk_at "M args"
       (case p0 => walk_at "M pre")
       (case p1 => walk_at "M pre")
       (case p2 => walk_at "M pre")
       walk_at "G bytes")))
  k_with "G call" => ((
      (with_reducible show wpG _ _ (call (Value.ref 164) _) _ _ _)
      k_dflt (
       refine' useGP (c_finished _ _ _ _ _ _ _ ?p0 ?p1 ?p2) ?x1 ?x2 ?x3 ?x4 ?x5 ?x6 ?x7 ?x8 ?_
       walk_at "M args"
       (case p0 => walk_at "M pre")
       (case p1 => walk_at "M pre")
       (case p2 => walk_at "M pre")
       walk_at "G bytes")))
  k_with "G call" => ((
      (with_reducible show wpG _ _ (call (Value.ref 171) _) _ _ _)
      k_dflt (
       refine' useGP (c_toy_key _ _ _ _ _ _ _ ?p0 ?p1 ?p2) ?x1 ?x2 ?x3 ?x4 ?x5 ?x6 ?x7 ?x8 ?_
       walk_at "M args"
       (case p0 => walk_at "M pre")
       (case p1 => walk_at "M pre")
       (case p2 => walk_at "M pre")
       walk_at "G bytes")))
  k_with "getItem ref str" => ((k_here; k_dflt (refine' kd_get ?N ?m ?d (val_stored _ _ _) ?_; (case N => k_asm); (case m => k_mem); (case d => k_asm))))
  k_with "setItem ref str" => ((k_here; (with_reducible show wpAny _ _ (setItem (Value.ref _) (Value.str _ _) (Value.bytes _ _)) _ _ _); k_dflt (refine' kda_set (knd := PySem.strKind _ _) ?F ?N ?U ?d (strKind_is _ _ _ _) ?z ?_; (case F => k_asm); (case N => k_asm); (case U => k_updF); (case d => k_asm); (case z => rw [sizeLine_eq]; omega); intro h' o' F' N' hd'; (try dsimp only at N'); (try k_sweep))))
  k_with "subscriptTail" => ((k_here; (with_reducible show wpAny _ _ (subscriptTail _ _ (Value.ref _) (Value.str _ _)) _ _ _); k_dflt (refine kda_item (knd := PySem.strKind _ _) (by k_asm) (by k_mem) (by k_asm) (strKind_is _ _ _ _) (val_stored _ _ _) ?_)))
  k_with "k_ne" => (first | assumption | exact Ne.symm (by assumption) | exact ne_cls (by k_asm) (by k_mem) (by k_mem) (by rfl))
  k_with "k_all" => (assumption)
  k_with "call ref" => ((k_here; (with_reducible show wpAny _ _ (call (Value.ref 136) _) _ _ _); k_extra "M136"))
  k_with "call ref" => ((k_here; (with_reducible show wpAny _ _ (call (Value.ref 150) _) _ _ _); k_extra "M150"))
  k_with "G call" => (((with_reducible show wpG _ _ (call (Value.ref 248) _) _ _ _); k_dflt (k_extra "M248")))
  k_with "G call" => (((with_reducible show wpG _ _ (call (Value.ref 157) _) _ _ _); k_dflt (k_extra "M157")))
  k_with "call ref" => ((k_here; (with_reducible show wpAny _ _ (call (Value.ref 122) _) _ _ _); k_extra "M122"))
  k_with "G call" => (((with_reducible show wpG _ _ (call (Value.ref 178) _) _ _ _); k_dflt (k_extra "M178")))
  k_with "wpG" => (((with_reducible show wpG _ _ (call (Value.ref 178) _) _ _ _); walk_at "G call"))
  k_with "M args3" => (((case x1 => k_asm); (case x2 => k_asm); (case x3 => k_asm); (case x5 => k_asm); (case x6 => first | exact rfl | assumption); (case x7 => ktr_room); (case x8 => ktr_units)))
  k_with "compareOp In bytes ref" => ((k_here; k_dflt (refine' in_same ?N ?m ?b ?c ?_; (case N => k_asm); (case m => k_mem); (case b => assumption); (case c => assumption))))
  k_with "M fresh" => ((first | assumption | exact allLt_ne (allLt_of (by assumption)) | exact allLt_ne (by first | assumption | exact And.right (by assumption) | exact And.right (And.right (by assumption)) | exact And.right (And.right (And.right (by assumption))) | exact And.right (And.right (And.right (And.right (by assumption)))) | exact And.right (And.right (And.right (And.right (And.right (by assumption))))) | exact And.right (And.right (And.right (And.right (And.right (And.right (by assumption)))))) | exact And.right (And.right (And.right (And.right (And.right (And.right (And.right (by assumption))))))) | exact And.right (And.right (And.right (And.right (And.right (And.right (And.right (And.right (by assumption)))))))) | exact And.right (And.right (And.right (And.right (And.right (And.right (And.right (And.right (And.right (by assumption))))))))) | exact And.right (And.right (And.right (And.right (And.right (And.right (And.right (And.right (And.right (And.right (by assumption)))))))))) | exact And.right (And.right (And.right (And.right (And.right (And.right (And.right (And.right (And.right (And.right (And.right (by assumption))))))))))) | exact And.right (And.right (And.right (And.right (And.right (And.right (And.right (And.right (And.right (And.right (And.right (And.right (by assumption)))))))))))) | exact And.right (And.right (And.right (And.right (And.right (And.right (And.right (And.right (And.right (And.right (And.right (And.right (And.right (by assumption))))))))))))) | exact And.right (And.right (And.right (And.right (And.right (And.right (And.right (And.right (And.right (And.right (And.right (And.right (And.right (And.right (by assumption)))))))))))))) | exact And.right (And.right (And.right (And.right (And.right (And.right (And.right (And.right (And.right (And.right (And.right (And.right (And.right (And.right (And.right (by assumption))))))))))))))))))
  k_with "M len" => ((first | omega | (simp only [shello, exts, fin, tkey, List.length_append, List.length_cons, List.length_nil, be_length, msg_length, fld_length, tsum_length, KBw.ints_list, List.length_map, Array.size_push] at *; omega)))
  k_with "k_ne" => (exact ne_dict (by k_asm) (by k_mem) (by k_mem) (by assumption) (by rfl))
  k_with "M off" => ((repeat (first | assumption | (refine List.forall_mem_cons.mpr ⟨?_, ?_⟩; · (dsimp only; k_ne)))))
  k_with "subscriptTail Name Slice ref ref" => ((k_here; (with_reducible show wpAny _ _ (subscriptTail _ (Expr.Slice _ none none _) (Value.ref _) (Value.ref _)) _ _ _); k_dflt ((rename Fr _ _ _ _ => F'); (rename News _ _ _ _ => N'); (refine' tup_tail (s := ⟨_, _, _, _, _⟩) F' N' ?m ?_ ?hs ?hg; (case m => k_mem); (case hs => with_unfolding_all rfl); (case hg => (intro _; with_unfolding_all rfl)); k_whole; intro D' h' F' N' l1; (try k_lt l1); (try k_sweep)))))
  trivial
theorem c_on_client_hello (w : World) (tt : Nat → Tok) (x d cf p ka eva : Addr) (tb twh ttr th c1 c2 c3 c4 tr1 tq1 : Tok) (role st trv lo pp pr ic icf dr vm : Value) (bb bw bh br bq : Array UInt8) (body whole xa xp xc ra xq : List Int) (ocfg oky : Obj) (kvs : List (Str × Value)) (evs : Array Value) (np ne : Nat) (rest : List (Addr × Obj))
    (hcfg : ocfg.IsDictOf (strKind Challenge.rw_pf0268_01.row.prog w) (strPairs [(.str (Str.ofString "random") c1, .bytes br tr1), (.str (Str.ofString "protocols") c2, .ref p), (.str (Str.ofString "params") c3, .bytes bq tq1), (.str (Str.ofString "most") c4, vm)]))
    (hky : oky.IsDictOf (strKind Challenge.rw_pf0268_01.row.prog w) kvs) (hkz : kvs.length < 8) (hBb : KBw.bInts bb = body) (hBw : KBw.bInts bw = whole) (hBh : KBw.bInts bh = xp) (hBr : KBw.bInts br = ra) (hBq : KBw.bInts bq = xq) (hbody : body = fld xa ++ fld (fld xp) ++ fld xc)
    (ha : xa.length = 8) (hp : xp.length < 100) (hc : xc.length < 100) (hra : ra.length = 8) (hxq : xq.length < 100) (hwl : whole.length < 1000) (hes : evs.size < 90) (hxd : x ≠ d) (hcd : cf ≠ d) (hed : eva ≠ d) (hpd : p ≠ d) (hkd : ka ≠ d) (hxe : x ≠ eva) (hce : cf ≠ eva) (hpe : p ≠ eva) (hek : eva ≠ ka) (hxk : x ≠ ka) (hck : cf ≠ ka) (hpk : p ≠ ka) (hr1 : ∀ p ∈ rest, p.1 ≠ d) (hr2 : ∀ p ∈ rest, p.1 ≠ ka) (hr3 : ∀ p ∈ rest, p.1 ≠ eva) :
    ConG 18 w 255 [.ref x, .bytes bb tb, .bytes bw twh] ((x, instObj 328 d) :: (d, SD w tt role (.ref cf) st trv lo (.ref ka) (.ref eva) pp pr ic icf dr) :: (ka, oky) :: (eva, W.listOf evs ne) :: (cf, ocfg) :: (p, W.listOf #[.bytes bh th] np) :: rest)
      (fun r nw => ∃ S n P1 P2 b1 t1 b2 t2 th1 th2 k1 k2 oky' kvs' evs' ne' b' t' bc tc ts, r = .ref S ∧ KBw.bInts b1 = shello ra ∧ KBw.bInts b2 = exts xp xq ++ fin [115, 101, 114, 118, 101, 114, 32, 102, 105, 110, 105, 115, 104, 101, 100] (whole ++ shello ra ++ exts xp xq) ∧ KBw.bInts b' = whole ++ shello ra ++ exts xp xq ++ fin [115, 101, 114, 118, 101, 114, 32, 102, 105, 110, 105, 115, 104, 101, 100] (whole ++ shello ra ++ exts xp xq) ∧ KBw.bInts bc = xc ∧ evs'.size = evs.size + 4 ∧
        oky'.IsDictOf (strKind Challenge.rw_pf0268_01.row.prog w) kvs' ∧ kvs'.length ≤ kvs.length + 2 ∧ (∀ p ∈ rest, p.1 ≠ S) ∧ (∀ p ∈ rest, p.1 ≠ P1) ∧ (∀ p ∈ rest, p.1 ≠ P2) ∧
        nw = (S, W.listOf #[.ref P1, .ref P2] n) :: (x, instObj 328 d) :: (d, SD w tt role (.ref cf) (.str (Str.ofString "wait_client_finished") ts) (.bytes b' t') lo (.ref ka) (.ref eva) (.bytes bc tc) (.bytes bh th) ic icf dr) :: (cf, ocfg) :: (p, W.listOf #[.bytes bh th] np) :: (ka, oky') :: (eva, W.listOf evs' ne') :: (P1, { cls := .type "tuple", data := .seq #[.str (Str.ofString "initial") th1, .bytes b1 t1] k1 }) :: (P2, { cls := .type "tuple", data := .seq #[.str (Str.ofString "handshake") th2, .bytes b2 t2] k2 }) :: rest) := by
  run_tac Mine.Sh.mark
  unfold ConG
  k_fill
  intro mean mg mb dp un gd cn cs a ccd cl outer A₀ base h₀ L m s Q X B F N T hk hd1 hu1 hret
  k_with "M122" => (refine' useL (c_read_client_hello w _ hBb hbody ha (by omega) (by omega)) ?x1 ?x2 ?x3 ?x4 ?x5 ?x6 ?x7 ?x8 ?_; walk_at "M args"; (intro r9 nw9 h9 tk9 F9 N9 hR; obtain ⟨T9, S9, e9, ba, ta, bp, tp, bc, tc, k9, k8, e8, hT9, hS9, g0, g1, g2⟩ := hR; subst e9; subst e8; have hSe9 : eva ≠ S9 := hS9 (eva, W.listOf evs ne) (by simp)))
  k_with "M178" => (refine' useG (c_chosen w _ ?p1 ?p2 hBh g1) ?x1 ?x2 ?x3 ?x4 ?x5 ?x6 ?x7 ?x8 ?_; walk_at "M args"; (case p1 => k_mem); (case p2 => k_mem); (intro r9 nw9 h9 tk9 F9 N9 hR; obtain ⟨e8, e9⟩ := hR; subst e9; subst e8))
  k_with "M248" => (first
    | (refine' useG (c_ready_h w tt x d ka eva _ _ _ _ _ _ _ _ _ _ _ _ (whole ++ shello ra) oky kvs _ _ _ hky (by walk_at "M ints") (by walk_at "M len") ?es (by omega) hxd hkd hed hxk hek hxe ?q1 ?q2 ?q3) ?x1 ?x2 ?x3 ?x4 ?x5 ?x6 ?x7 ?x8 ?_; (case x4 => exact mv54 (by k_asm)); walk_at "M args3"; (case es => (simp only [Array.size_push]; omega)); (case q1 => walk_at "M off"); (case q2 => walk_at "M off"); (case q3 => walk_at "M off"); (intro r9 nw9 h9 tk9 F9 N9 hR; obtain ⟨oky1, kvs1, U1, ne1, e9, hky1, hkz1, e8⟩ := hR; subst e9; subst e8))
    | (refine' useG (c_ready_a w tt x d ka eva _ _ _ _ _ _ _ _ _ _ _ _ (whole ++ shello ra ++ exts xp xq ++ fin [115, 101, 114, 118, 101, 114, 32, 102, 105, 110, 105, 115, 104, 101, 100] (whole ++ shello ra ++ exts xp xq)) oky1 kvs1 _ _ _ hky1 (by walk_at "M ints") (by walk_at "M len") ?es (by omega) hxd hkd hed hxk hek hxe ?q1 ?q2 ?q3) ?x1 ?x2 ?x3 ?x4 ?x5 ?x6 ?x7 ?x8 ?_; (case x4 => k_asm); walk_at "M args3"; (case es => (simp only [Array.size_push]; omega)); (case q1 => walk_at "M off"); (case q2 => walk_at "M off"); (case q3 => walk_at "M off"); (intro r9 nw9 h9 tk9 F9 N9 hR; obtain ⟨oky2, kvs2, U2, ne2, e9, hky2, hkz2, e8⟩ := hR; subst e9; subst e8)))
  refine wpG_call ?_
  k_dflt (refine' codeG_defN (binds := [(Str.ofString "self", .ref x), (Str.ofString "body", .bytes bb tb), (Str.ofString "whole", .bytes bw twh)]) ?k1 ?k2 ?k3 ?k4 ?k5 ?kA ?kF ?kK ?k6 ?k7 ?k8 ?k9 ?kB ?_ ?c2 ?c3 ?c4 ?c5; walk_at "G entered")
  walk_at "G steps"
  all_goals (rename News h₀ L _ _ => hN; exact hret _ _ _ _ (by k_asm) (permCH hN) ⟨_, _, _, _, _, _, _, _, _, _, _, _, oky2, kvs2, _, _, _, _, _, _, _, rfl, (by assumption), (by assumption), (by assumption), g2, (by simp only [Array.size_push]), hky2, (by omega), (by walk_at "M fresh"), (by walk_at "M fresh"), (by walk_at "M fresh"), rfl⟩)
  run_tac Mine.Sh.fin
end
-- E8
section
theorem permFS {h₀ h : Heap} {L : Addr} {a b c z x d e f : Addr × Obj} {l : List (Addr × Obj)} (N : News h₀ L h (a :: b :: c :: z :: x :: d :: e :: f :: l)) : News h₀ L h (z :: x :: d :: e :: f :: l) := fun q hq => N q (.tail _ (.tail _ (.tail _ hq)))
theorem line_E8 : True := by
  w_top off
  run_tac Mine.Sh.keep 25
  k_with "G bytes" => ((
      intro r9 h9 tk9 F9 N9 hR
      obtain ⟨b9, t9, e9, hB9⟩ := hR
      subst e9))
  k_with "G call" => ((
      (with_reducible show wpG _ _ (call (Value.ref 68) _) _ _ _)
      k_dflt (
       (first
       | refine' useGP (c_pw2 _ _ _ _ ?p0 ?p1) ?x1 ?x2 ?x3 ?x4 ?x5 ?x6 ?x7 ?x8 ?_
       | refine' useGP (c_pw1 _ _ _ _ ?p0 ?p1) ?x1 ?x2 ?x3 ?x4 ?x5 ?x6 ?x7 ?x8 ?_
       | refine' useGP (c_pw3 _ _ _ _ ?p0 ?p1) ?x1 ?x2 ?x3 ?x4 ?x5 ?x6 ?x7 ?x8 ?_
       | refine' useGP (c_pw8 _ _ _ _ ?p0 ?p1) ?x1 ?x2 ?x3 ?x4 ?x5 ?x6 ?x7 ?x8 ?_)
       walk_at "M args"
       (case p0 => walk_at "M pre")
       (case p1 => walk_at "M pre")
       walk_at "G bytes")))
  k_with "ite" => ((k_here; k_openite; k_dflt (first
      | refine ite_neg (by (simp only [bne_iff_ne, beq_iff_eq, ne_eq, decide_eq_true_eq]; omega)) ?_
      | refine ite_pos (by (simp only [bne_iff_ne, beq_iff_eq, ne_eq, decide_eq_true_eq]; omega)) ?_)))
  k_with "k_mem" => (assumption)
  k_with "getMethod bytes" => ((k_here; (with_reducible refine bj_method ?_)))
  k_with "getMethod str" => ((k_here; (with_reducible refine en_method ?_)))
  k_with "call builtin:bytes.join" => ((k_here; k_dflt (refine' bj_one (News.get ?N ?m) ?_; (case N => k_asm); (case m => k_mem))))
  k_with "call builtin:str.encode" => ((k_here; k_dflt (first
      | (with_reducible refine' en_call (en_c _ _) ?hb ?_; (case hb => decide))
      | (with_reducible refine' en_call (en_s _ _) ?hb ?_; (case hb => decide))
      | (with_reducible refine' en_call (en_h _ _) ?hb ?_; (case hb => decide))
      | (with_reducible refine' en_call (en_a _ _) ?hb ?_; (case hb => decide)))))
  k_with "G call" => ((
      (with_reducible show wpG _ _ (call (Value.ref 129) _) _ _ _)
      k_dflt (
       refine' useGP (c_server_hello _ _ _ _ ?p0 ?p1) ?x1 ?x2 ?x3 ?x4 ?x5 ?x6 ?x7 ?x8 ?_
       walk_at "M args"
       (case p0 => walk_at "M pre")
       (case p1 => walk_at "M pre")
       walk_at "G bytes")))
  k_with "G call" => ((
      (with_reducible show wpG _ _ (call (Value.ref 143) _) _ _ _)
      k_dflt (
       refine' useGP (c_extensions _ _ _ _ _ _ _ ?p0 ?p1 ?p2) ?x1 ?x2 ?x3 ?x4 ?x5 ?x6 ?x7 ?x8 ?_
       walk_at "M args"
       (case p0 => walk_at "M pre")
       (case p1 => walk_at "M pre")
       (case p2 => walk_at "M pre")
       walk_at "G bytes")))
  k_with "G call" => ((
      (with_reducible show wpG _ _ (call (Value.ref 164) _) _ _ _)
      k_dflt (
       refine' useGP (c_finished _ _ _ _ _ _ _ ?p0 ?p1 ?p2) ?x1 ?x2 ?x3 ?x4 ?x5 ?x6 ?x7 ?x8 ?_
       walk_at "M args"
       (case p0 => walk_at "M pre")
       (case p1 => walk_at "M pre")
       (case p2 => walk_at "M pre")
       walk_at "G bytes")))
  k_with "G call" => ((
      (with_reducible show wpG _ _ (call (Value.ref 171) _) _ _ _)
      k_dflt (
       refine' useGP (c_toy_key _ _ _ _ _ _ _ ?p0 ?p1 ?p2) ?x1 ?x2 ?x3 ?x4 ?x5 ?x6 ?x7 ?x8 ?_
       walk_at "M args"
       (case p0 => walk_at "M pre")
       (case p1 => walk_at "M pre")
       (case p2 => walk_at "M pre")
       walk_at "G bytes")))
  k_with "G call" => ((
      (with_reducible show wpG _ _ (call (Value.ref 103) _) _ _ _)
      k_dflt (
       refine' useGP (c_put_field _ _ _ _ ?p0 ?p1) ?x1 ?x2 ?x3 ?x4 ?x5 ?x6 ?x7 ?x8 ?_
       walk_at "M args"
       (case p0 => walk_at "M pre")
       (case p1 => walk_at "M pre")
       walk_at "G bytes")))
  k_with "G call" => ((
      (with_reducible show wpG _ _ (call (Value.ref 89) _) _ _ _)
      k_dflt (
       refine' useGP (c_put_message _ _ _ _ _ _ ?p0 ?p1 ?p2 ?p3) ?x1 ?x2 ?x3 ?x4 ?x5 ?x6 ?x7 ?x8 ?_
       walk_at "M args"
       (case p0 => walk_at "M pre")
       (case p1 => walk_at "M pre")
       (case p2 => walk_at "M pre")
       (case p3 => walk_at "M pre")
       walk_at "G bytes")))
  k_with "G call" => ((
      (with_reducible show wpG _ _ (call (Value.ref 157) _) _ _ _)
      k_dflt (
       refine' useGP (c_toy_sum _ _ _ _ _ _ _ ?p0 ?p1 ?p2) ?x1 ?x2 ?x3 ?x4 ?x5 ?x6 ?x7 ?x8 ?_
       walk_at "M args"
       (case p0 => walk_at "M pre")
       (case p1 => walk_at "M pre")
       (case p2 => walk_at "M pre")
       walk_at "G bytes")))
  k_with "M args3" => (((case x1 => k_asm); (case x2 => k_asm); (case x3 => k_asm); (case x5 => k_asm); (case x6 => first | exact rfl | assumption); (case x7 => ktr_room); (case x8 => ktr_units)))
  k_with "getItem ref str" => ((k_here; k_dflt (refine' kd_get ?N ?m ?d (val_stored _ _ _) ?_; (case N => k_asm); (case m => k_mem); (case d => k_asm))))
  k_with "setItem ref str" => ((k_here; (with_reducible show wpAny _ _ (setItem (Value.ref _) (Value.str _ _) (Value.bytes _ _)) _ _ _); k_dflt (refine' kda_set (knd := PySem.strKind _ _) ?F ?N ?U ?d (strKind_is _ _ _ _) ?z ?_; (case F => k_asm); (case N => k_asm); (case U => k_updF); (case d => k_asm); (case z => rw [sizeLine_eq]; omega); intro h' o' F' N' hd'; (try dsimp only at N'); (try k_sweep))))
  k_with "subscriptTail" => ((k_here; (with_reducible show wpAny _ _ (subscriptTail _ _ (Value.ref _) (Value.str _ _)) _ _ _); k_dflt (refine kda_item (knd := PySem.strKind _ _) (by k_asm) (by k_mem) (by k_asm) (strKind_is _ _ _ _) (val_stored _ _ _) ?_)))
  k_with "k_ne" => (first | assumption | exact Ne.symm (by assumption) | exact ne_cls (by k_asm) (by k_mem) (by k_mem) (by rfl))
  k_with "k_all" => (assumption)
  k_with "call ref" => ((k_here; (with_reducible show wpAny _ _ (call (Value.ref 136) _) _ _ _); k_extra "M136"))
  k_with "call ref" => ((k_here; (with_reducible show wpAny _ _ (call (Value.ref 150) _) _ _ _); k_extra "M150"))
  k_with "G call" => (((with_reducible show wpG _ _ (call (Value.ref 248) _) _ _ _); k_dflt (k_extra "M248")))
  k_with "wpG" => (((with_reducible show wpG _ _ (eval (Expr.Tuple [_, Expr.Call _ _ _ _] _ _) _) _ _ _); with_reducible refine wpG_Tuple ?_))
  k_with "compareOp NotIn bytes ref" => ((k_here; k_dflt (refine' notin_same ?N ?m ?b ?c ?_; (case N => k_asm); (case m => k_mem); (case b => assumption); (case c => assumption))))
  k_with "compareOp NotEq bytes bytes" => ((k_here; k_dflt (refine' ne_same ?b ?c ?_; (case b => assumption); (case c => assumption))))
  k_with "M enter" => ((
      refine' code_def ?k1 ?k2 ?k3 ?k4 ?k5 ?kA ?kF ?kK ?k6 ?k7 ?k8 ?k9 ?kB ?_ ?c2 ?c3 ?c4 ?c5
      (case kA => exact rfl)
      (case kF => exact rfl)
      (case kK => first | assumption | exact rfl)
      (case k1 => k_asm)
      (case k2 => k_asm)
      (case k3 => k_asm)
      (case k4 => k_asm)
      (case k5 => k_asm)
      (case k6 => k_is)
      (case k7 => k_is)
      (case k8 => walk_at "M room")
      (case k9 => exact BindsTo.of_eq rfl)
      (case c5 => decide)
      (case kB => exact locs rfl)
      (case c2 => exact rfl)
      (case c3 => exact rfl)
      (case c4 => exact rfl)
      k_whole
      intro g' L' h' FG' F' N' B' X' T'
      (try dsimp only)
      (try k_lift B')
      (try k_fold)))
  k_with "M room" => ((first | ktr_room | (show (_ : Nat) < _; simp only [Around.under, Around.deeper, ktrTop]; have hw : ∀ args, (Code.builtin "type.__call__" args).weight ≤ 1 := (by intro args; unfold Code.weight; (repeat' split) <;> simp_all [Code.isGuard, Code.isCaller, Code.frames, Code.isFrame]); omega)))
  k_with "call ref" => ((k_here; (with_reducible show wpAny _ _ (call (Value.ref 328) _) _ _ _); k_dflt ((refine' call_cls ?k1 ?k2 ?k3 ?k4 ?k5 ?k6 ?_; (case k1 => k_asm); (case k2 => k_asm); (case k3 => k_asm); (case k4 => k_is); (case k5 => k_is); (case k6 => k_is); k_whole; intro x' d' h' F' N' l1 l2; (try k_lt l1); (try k_lt2 l2); (try k_sweep); walk_at "M enter"))))
  k_with "call ref" => ((k_here; (first | (with_reducible show wpAny _ _ (call (Value.ref 283) _) _ _ _) | (with_reducible show wpAny _ _ (call (Value.ref 304) _) _ _ _)); k_dflt (refine wpAny_call ?_; walk_at "M enter")))
  k_with "M fresh" => ((first | assumption | exact allLt_ne (allLt_of (by assumption)) | exact allLt_ne (by first | assumption | exact And.right (by assumption) | exact And.right (And.right (by assumption)) | exact And.right (And.right (And.right (by assumption))) | exact And.right (And.right (And.right (And.right (by assumption)))) | exact And.right (And.right (And.right (And.right (And.right (by assumption))))) | exact And.right (And.right (And.right (And.right (And.right (And.right (by assumption)))))) | exact And.right (And.right (And.right (And.right (And.right (And.right (And.right (by assumption))))))) | exact And.right (And.right (And.right (And.right (And.right (And.right (And.right (And.right (by assumption)))))))) | exact And.right (And.right (And.right (And.right (And.right (And.right (And.right (And.right (And.right (by assumption))))))))) | exact And.right (And.right (And.right (And.right (And.right (And.right (And.right (And.right (And.right (And.right (by assumption)))))))))) | exact And.right (And.right (And.right (And.right (And.right (And.right (And.right (And.right (And.right (And.right (And.right (by assumption))))))))))) | exact And.right (And.right (And.right (And.right (And.right (And.right (And.right (And.right (And.right (And.right (And.right (And.right (by assumption)))))))))))) | exact And.right (And.right (And.right (And.right (And.right (And.right (And.right (And.right (And.right (And.right (And.right (And.right (And.right (by assumption))))))))))))) | exact And.right (And.right (And.right (And.right (And.right (And.right (And.right (And.right (And.right (And.right (And.right (And.right (And.right (And.right (by assumption)))))))))))))) | exact And.right (And.right (And.right (And.right (And.right (And.right (And.right (And.right (And.right (And.right (And.right (And.right (And.right (And.right (And.right (by assumption))))))))))))))))))
  trivial
theorem c_on_finished_s (w : World) (tt : Nat → Tok) (x d eva dl : Addr) (tb twh ttr tro : Tok) (cfg st lo ky pp pr ic : Value) (btr bb bw : Array UInt8) (tr whole : List Int) (evs : Array Value) (ne nd : Nat) (rest : List (Addr × Obj))
    (hBt : KBw.bInts btr = tr) (hBb : KBw.bInts bb = tsum [99, 108, 105, 101, 110, 116, 32, 102, 105, 110, 105, 115, 104, 101, 100] tr) (hBw : KBw.bInts bw = whole) (htr : tr.length + whole.length < 5000) (hes : evs.size < 90) (hxd : x ≠ d) (hed : eva ≠ d) (hxe : x ≠ eva) (hld : dl ≠ d) (hle : dl ≠ eva) (hxl : x ≠ dl) (hr1 : ∀ p ∈ rest, p.1 ≠ d) (hr3 : ∀ p ∈ rest, p.1 ≠ eva) (hr4 : ∀ p ∈ rest, p.1 ≠ dl) :
    ConG 16 w 276 [.ref x, .bytes bb tb, .bytes bw twh] ((x, instObj 328 d) :: (d, SD w tt (.str (Str.ofString "server") tro) cfg st (.bytes btr ttr) lo ky (.ref eva) pp pr ic (.bool false) (.ref dl)) :: (eva, W.listOf evs ne) :: (dl, W.listOf #[] nd) :: rest)
      (fun r nw => ∃ S n evs' ne' b' t' ts nd' th, r = .ref S ∧ KBw.bInts b' = tr ++ whole ∧ evs'.size = evs.size + 3 ∧ (∀ p ∈ rest, p.1 ≠ S) ∧
        nw = (S, W.listOf #[] n) :: (x, instObj 328 d) :: (d, SD w tt (.str (Str.ofString "server") tro) cfg (.str (Str.ofString "done") ts) (.bytes b' t') lo ky (.ref eva) pp pr (.bool true) (.bool true) (.ref dl)) :: (eva, W.listOf evs' ne') :: (dl, W.listOf #[.str (Str.ofString "handshake") th] nd') :: rest) := by
  run_tac Mine.Sh.mark
  unfold ConG
  k_fill
  intro mean mg mb dp un gd cn cs a ccd cl outer A₀ base h₀ L m s Q X B F N T hk hd1 hu1 hret
  refine wpG_call ?_
  k_dflt (refine' codeG_defN (binds := [(Str.ofString "self", .ref x), (Str.ofString "body", .bytes bb tb), (Str.ofString "whole", .bytes bw twh)]) ?k1 ?k2 ?k3 ?k4 ?k5 ?kA ?kF ?kK ?k6 ?k7 ?k8 ?k9 ?kB ?_ ?c2 ?c3 ?c4 ?c5; walk_at "G entered")
  walk_at "G steps"
  all_goals (rename News h₀ L _ _ => hN; exact hret _ _ _ _ (by k_asm) (permFS hN) ⟨_, _, _, _, _, _, _, _, _, rfl, (by assumption), (by simp only [Array.size_push]), (by walk_at "M fresh"), rfl⟩)
  run_tac Mine.Sh.fin
end
-- E9
section
structure Ap (x d cf p ka eva dl : Addr) : Prop where
  xd : x ≠ d
  cd : cf ≠ d
  pd : p ≠ d
  kd : ka ≠ d
  ed : eva ≠ d
  ld : dl ≠ d
  xk : x ≠ ka
  ck : cf ≠ ka
  pk : p ≠ ka
  ek : eva ≠ ka
  lk : dl ≠ ka
  xe : x ≠ eva
  ce : cf ≠ eva
  pe : p ≠ eva
  le : dl ≠ eva
  xl : x ≠ dl
  cl : cf ≠ dl
  pl : p ≠ dl
abbrev CoreL (p : Addr) (bh : Array UInt8) (th : Tok) (np : Nat) (ka : Addr) (oky : Obj) (eva : Addr) (evs : Array Value) (ne : Nat) (dl : Addr) (dls : Array Value) (nd : Nat) : List (Addr × Obj) :=
  [(p, W.listOf #[.bytes bh th] np), (ka, oky), (eva, W.listOf evs ne), (dl, W.listOf dls nd)]
noncomputable def PostOf (w : World) (p : Addr) (bh : Array UInt8) (th : Tok) (np : Nat) (ka eva dl : Addr) (st : String) (trw : List Int) (kn en : Nat) (PP PR : Value → Prop) (ic icf : Value) (D : Array Value → Prop) (V : Array Value → List (Addr × Obj) → Prop) : HPost := fun vs st' tr' pp' pr' ic' icf' mid =>
  ∃ ts b' t' oky' kvs' evs' ne' dls' nd' ext, st' = .str (Str.ofString st) ts ∧ tr' = .bytes b' t' ∧ KBw.bInts b' = trw ∧ PP pp' ∧ PR pr' ∧ ic' = ic ∧ icf' = icf ∧ oky'.IsDictOf (strKind Challenge.rw_pf0268_01.row.prog w) kvs' ∧ kvs'.length ≤ kn ∧ evs'.size ≤ en ∧ D dls' ∧ mid = CoreL p bh th np ka oky' eva evs' ne' dl dls' nd' ++ ext ∧ V vs ext
noncomputable def VNil (vs : Array Value) (ext : List (Addr × Obj)) : Prop := vs = #[] ∧ ext = []
noncomputable def VOne (ks : List Int) (vs : Array Value) (ext : List (Addr × Obj)) : Prop := ∃ P t1 b1 t2 k, vs = #[.ref P] ∧ KBw.bInts b1 = ks ∧ ext = [(P, { cls := .type "tuple", data := .seq #[.str (Str.ofString "handshake") t1, .bytes b1 t2] k })]
noncomputable def VTwo (ks ls : List Int) (vs : Array Value) (ext : List (Addr × Obj)) : Prop := ∃ P1 P2 t1 b1 t2 k t3 b2 t4 k2, vs = #[.ref P1, .ref P2] ∧ KBw.bInts b1 = ks ∧ KBw.bInts b2 = ls ∧
  ext = [(P1, { cls := .type "tuple", data := .seq #[.str (Str.ofString "initial") t1, .bytes b1 t2] k }), (P2, { cls := .type "tuple", data := .seq #[.str (Str.ofString "handshake") t3, .bytes b2 t4] k2 })]
theorem fml {a : Addr} {o : Obj} {l : List (Addr × Obj)} {d : Addr} (h : a ≠ d) (k : ∀ q ∈ l, q.1 ≠ d) : ∀ q ∈ (a, o) :: l, q.1 ≠ d := List.forall_mem_cons.mpr ⟨h, k⟩
theorem core_apart {d p ka eva dl : Addr} {a b c e : Obj} {ext rest : List (Addr × Obj)} (hrest : ∀ q ∈ rest, ∀ y ∈ [d, p, ka, eva, dl], q.1 ≠ y) (hx : ∀ q ∈ rest, ∀ y ∈ ext, y.1 ≠ q.1) :
    ∀ q ∈ rest, ∀ y ∈ [(p, a), (ka, b), (eva, c), (dl, e)] ++ ext, y.1 ≠ q.1 := fun q hq y hy => by
  have h := hrest q hq
  simp only [List.mem_append, List.mem_cons, List.not_mem_nil, or_false] at hy
  rcases hy with (rfl | rfl | rfl | rfl) | hy
  · exact (h p (by simp)).symm
  · exact (h ka (by simp)).symm
  · exact (h eva (by simp)).symm
  · exact (h dl (by simp)).symm
  · exact hx q hq y hy
theorem core_off {x d cf p ka eva dl : Addr} {a b c e : Obj} {ext : List (Addr × Obj)} (ap : Ap x d cf p ka eva dl) (hx : ∀ y ∈ ext, y.1 ≠ d) : ∀ y ∈ [(p, a), (ka, b), (eva, c), (dl, e)] ++ ext, y.1 ≠ d := fun y hy => by
  simp only [List.mem_append, List.mem_cons, List.not_mem_nil, or_false] at hy
  rcases hy with (rfl | rfl | rfl | rfl) | hy
  · exact ap.pd
  · exact ap.kd
  · exact ap.ed
  · exact ap.ld
  · exact hx y hy
theorem p1a {h₀ h : Heap} {L : Addr} {c d e k p v x : Addr × Obj} {l : List (Addr × Obj)} (N : News h₀ L h (x :: d :: c :: p :: k :: e :: v :: l)) : News h₀ L h (x :: d :: k :: e :: c :: p :: v :: l) := fun q hq => N q (by revert hq; revert q; repeat' (first | exact List.Mem.head _ | exact fun _ h => h | exact fun _ h => List.mem_append_left _ h | exact List.forall_mem_nil _ | refine mem_step ?_ ?_ | refine app_step ?_ ?_ | refine List.Mem.tail _ ?_ | refine sub_tail ?_ | refine sub_right ?_ | refine List.mem_append_right _ ?_))
theorem p1b {h₀ h : Heap} {L : Addr} {c d e k p v x z : Addr × Obj} {l : List (Addr × Obj)} (N : News h₀ L h (z :: x :: d :: k :: e :: c :: p :: v :: l)) : News h₀ L h (z :: x :: d :: c :: p :: k :: e :: v :: l) := fun q hq => N q (by revert hq; revert q; repeat' (first | exact List.Mem.head _ | exact fun _ h => h | exact fun _ h => List.mem_append_left _ h | exact List.forall_mem_nil _ | refine mem_step ?_ ?_ | refine app_step ?_ ?_ | refine List.Mem.tail _ ?_ | refine sub_tail ?_ | refine sub_right ?_ | refine List.mem_append_right _ ?_))
theorem p2a {h₀ h : Heap} {L : Addr} {c d e k p v x : Addr × Obj} {l : List (Addr × Obj)} (N : News h₀ L h (x :: d :: c :: p :: k :: e :: v :: l)) : News h₀ L h (x :: d :: c :: p :: e :: k :: v :: l) := fun q hq => N q (by revert hq; revert q; repeat' (first | exact List.Mem.head _ | exact fun _ h => h | exact fun _ h => List.mem_append_left _ h | exact List.forall_mem_nil _ | refine mem_step ?_ ?_ | refine app_step ?_ ?_ | refine List.Mem.tail _ ?_ | refine sub_tail ?_ | refine sub_right ?_ | refine List.mem_append_right _ ?_))
theorem p2b {h₀ h : Heap} {L : Addr} {c d e k p v x z : Addr × Obj} {l : List (Addr × Obj)} (N : News h₀ L h (z :: x :: d :: c :: p :: e :: k :: v :: l)) : News h₀ L h (z :: x :: d :: c :: p :: k :: e :: v :: l) := fun q hq => N q (by revert hq; revert q; repeat' (first | exact List.Mem.head _ | exact fun _ h => h | exact fun _ h => List.mem_append_left _ h | exact List.forall_mem_nil _ | refine mem_step ?_ ?_ | refine app_step ?_ ?_ | refine List.Mem.tail _ ?_ | refine sub_tail ?_ | refine sub_right ?_ | refine List.mem_append_right _ ?_))
theorem p3b {h₀ h : Heap} {L : Addr} {c d e k p v x y z : Addr × Obj} {l : List (Addr × Obj)} (N : News h₀ L h (z :: y :: x :: d :: k :: e :: c :: p :: v :: l)) : News h₀ L h (z :: x :: d :: c :: p :: k :: e :: v :: y :: l) := fun q hq => N q (by revert hq; revert q; repeat' (first | exact List.Mem.head _ | exact fun _ h => h | exact fun _ h => List.mem_append_left _ h | exact List.forall_mem_nil _ | refine mem_step ?_ ?_ | refine app_step ?_ ?_ | refine List.Mem.tail _ ?_ | refine sub_tail ?_ | refine sub_right ?_ | refine List.mem_append_right _ ?_))
theorem p4b {h₀ h : Heap} {L : Addr} {c d e k p u v x y z : Addr × Obj} {l : List (Addr × Obj)} (N : News h₀ L h (z :: x :: d :: c :: p :: k :: e :: y :: u :: v :: l)) : News h₀ L h (z :: x :: d :: c :: p :: k :: e :: v :: y :: u :: l) := fun q hq => N q (by revert hq; revert q; repeat' (first | exact List.Mem.head _ | exact fun _ h => h | exact fun _ h => List.mem_append_left _ h | exact List.forall_mem_nil _ | refine mem_step ?_ ?_ | refine app_step ?_ ?_ | refine List.Mem.tail _ ?_ | refine sub_tail ?_ | refine sub_right ?_ | refine List.mem_append_right _ ?_))
theorem p5a {h₀ h : Heap} {L : Addr} {c d e k p v x : Addr × Obj} {l : List (Addr × Obj)} (N : News h₀ L h (x :: d :: c :: p :: k :: e :: v :: l)) : News h₀ L h (x :: d :: e :: v :: c :: p :: k :: l) := fun q hq => N q (by revert hq; revert q; repeat' (first | exact List.Mem.head _ | exact fun _ h => h | exact fun _ h => List.mem_append_left _ h | exact List.forall_mem_nil _ | refine mem_step ?_ ?_ | refine app_step ?_ ?_ | refine List.Mem.tail _ ?_ | refine sub_tail ?_ | refine sub_right ?_ | refine List.mem_append_right _ ?_))
theorem p5b {h₀ h : Heap} {L : Addr} {c d e k p v x z : Addr × Obj} {l : List (Addr × Obj)} (N : News h₀ L h (z :: x :: d :: e :: v :: c :: p :: k :: l)) : News h₀ L h (z :: x :: d :: c :: p :: k :: e :: v :: l) := fun q hq => N q (by revert hq; revert q; repeat' (first | exact List.Mem.head _ | exact fun _ h => h | exact fun _ h => List.mem_append_left _ h | exact List.forall_mem_nil _ | refine mem_step ?_ ?_ | refine app_step ?_ ?_ | refine List.Mem.tail _ ?_ | refine sub_tail ?_ | refine sub_right ?_ | refine List.mem_append_right _ ?_))
theorem line_E9 : True := by
  w_top off
  run_tac Mine.Sh.keep 25
  k_with "G bytes" => ((
      intro r9 h9 tk9 F9 N9 hR
      obtain ⟨b9, t9, e9, hB9⟩ := hR
      subst e9))
  k_with "G call" => ((
      (with_reducible show wpG _ _ (call (Value.ref 68) _) _ _ _)
      k_dflt (
       (first
       | refine' useGP (c_pw2 _ _ _ _ ?p0 ?p1) ?x1 ?x2 ?x3 ?x4 ?x5 ?x6 ?x7 ?x8 ?_
       | refine' useGP (c_pw1 _ _ _ _ ?p0 ?p1) ?x1 ?x2 ?x3 ?x4 ?x5 ?x6 ?x7 ?x8 ?_
       | refine' useGP (c_pw3 _ _ _ _ ?p0 ?p1) ?x1 ?x2 ?x3 ?x4 ?x5 ?x6 ?x7 ?x8 ?_
       | refine' useGP (c_pw8 _ _ _ _ ?p0 ?p1) ?x1 ?x2 ?x3 ?x4 ?x5 ?x6 ?x7 ?x8 ?_)
       walk_at "M args"
       (case p0 => walk_at "M pre")
       (case p1 => walk_at "M pre")
       walk_at "G bytes")))
  k_with "ite" => ((k_here; k_openite; k_dflt (first
      | refine ite_neg (by (simp only [bne_iff_ne, beq_iff_eq, ne_eq, decide_eq_true_eq]; omega)) ?_
      | refine ite_pos (by (simp only [bne_iff_ne, beq_iff_eq, ne_eq, decide_eq_true_eq]; omega)) ?_)))
  k_with "M args3" => (((case x1 => k_asm); (case x2 => k_asm); (case x3 => k_asm); (case x5 => k_asm); (case x6 => first | exact rfl | assumption); (case x7 => ktr_room); (case x8 => ktr_units)))
  k_with "G call" => (((with_reducible show wpG _ _ (call (Value.ref 262) _) _ _ _); k_dflt (k_extra "M262")))
  k_with "wpG" => (((with_reducible show wpG _ _ (call (Value.ref 262) _) _ _ _); walk_at "G call"))
  k_with "G call" => (((with_reducible show wpG _ _ (call (Value.ref 255) _) _ _ _); k_dflt (k_extra "M255")))
  k_with "wpG" => (((with_reducible show wpG _ _ (call (Value.ref 255) _) _ _ _); walk_at "G call"))
  k_with "G call" => (((with_reducible show wpG _ _ (call (Value.ref 276) _) _ _ _); k_dflt (k_extra "M276")))
  k_with "wpG" => (((with_reducible show wpG _ _ (call (Value.ref 276) _) _ _ _); walk_at "G call"))
  k_with "call ref" => ((k_here; (with_reducible show wpAny _ _ (call (Value.ref 269) _) _ _ _); k_extra "M269"))
  k_with "M fresh" => ((first | assumption | exact allLt_ne (allLt_of (by assumption)) | exact allLt_ne (by first | assumption | exact And.right (by assumption) | exact And.right (And.right (by assumption)) | exact And.right (And.right (And.right (by assumption))) | exact And.right (And.right (And.right (And.right (by assumption)))) | exact And.right (And.right (And.right (And.right (And.right (by assumption))))) | exact And.right (And.right (And.right (And.right (And.right (And.right (by assumption)))))) | exact And.right (And.right (And.right (And.right (And.right (And.right (And.right (by assumption))))))) | exact And.right (And.right (And.right (And.right (And.right (And.right (And.right (And.right (by assumption)))))))) | exact And.right (And.right (And.right (And.right (And.right (And.right (And.right (And.right (And.right (by assumption))))))))) | exact And.right (And.right (And.right (And.right (And.right (And.right (And.right (And.right (And.right (And.right (by assumption)))))))))) | exact And.right (And.right (And.right (And.right (And.right (And.right (And.right (And.right (And.right (And.right (And.right (by assumption))))))))))) | exact And.right (And.right (And.right (And.right (And.right (And.right (And.right (And.right (And.right (And.right (And.right (And.right (by assumption)))))))))))) | exact And.right (And.right (And.right (And.right (And.right (And.right (And.right (And.right (And.right (And.right (And.right (And.right (And.right (by assumption))))))))))))) | exact And.right (And.right (And.right (And.right (And.right (And.right (And.right (And.right (And.right (And.right (And.right (And.right (And.right (And.right (by assumption)))))))))))))) | exact And.right (And.right (And.right (And.right (And.right (And.right (And.right (And.right (And.right (And.right (And.right (And.right (And.right (And.right (And.right (by assumption))))))))))))))))))
  trivial
theorem one_sh (w : World) (tt : Nat → Tok) (x d cf p ka eva dl : Addr) (ttr th : Tok) (role pp pr ic icf : Value) (ra : List Int) (btr bh : Array UInt8) (tr whole : List Int) (ocfg oky : Obj) (kvs : List (Str × Value)) (evs dls : Array Value) (np ne nd : Nat) (ap : Ap x d cf p ka eva dl)
    (hky : oky.IsDictOf (strKind Challenge.rw_pf0268_01.row.prog w) kvs) (hBt : KBw.bInts btr = tr) (htr : tr.length + whole.length < 5000) (hra : ra.length = 8) (hes : evs.size < 80) (hkz : kvs.length < 6) :
    OneOk w tt x d cf ocfg 2 (fld ra) whole role (Str.ofString "wait_server_hello") (.bytes btr ttr) (.ref ka) (.ref eva) pp pr ic icf (.ref dl) (CoreL p bh th np ka oky eva evs ne dl dls nd) [d, p, ka, eva, dl]
      (PostOf w p bh th np ka eva dl "wait_extensions" (tr ++ whole) (kvs.length + 1) (evs.size + 1) (· = pp) (· = pr) ic icf (· = dls) VNil) := by
  run_tac Mine.Sh.mark
  intro tk tb twh ts tlo bb bw blo rest hBb hBw hrest
  have r1 : ∀ q ∈ rest, q.1 ≠ d := fun q hq => hrest q hq d (by simp)
  have r2 : ∀ q ∈ rest, q.1 ≠ ka := fun q hq => hrest q hq ka (by simp)
  have r3 : ∀ q ∈ rest, q.1 ≠ eva := fun q hq => hrest q hq eva (by simp)
  have r4 : ∀ q ∈ rest, q.1 ≠ dl := fun q hq => hrest q hq dl (by simp)
  unfold ConG
  k_fill
  intro mean mg mb dp un gd cn cs a ccd cl outer A₀ base h₀ L m s Q X B F N T hk hd1 hu1 hret
  k_with "M262" => (refine' useG (c_on_server_hello w tt x d ka eva _ _ _ _ _ _ _ _ _ _ _ _ _ _ _ tr (fld ra) ra whole oky kvs evs ne _ hky hBt hBb hBw rfl hra htr (by omega) (by omega) ap.xd ap.kd ap.ed ap.xk ap.ek ap.xe (fml ap.cd (fml ap.pd (fml ap.ld r1))) (fml ap.ck (fml ap.pk (fml ap.lk r2))) (fml ap.ce (fml ap.pe (fml ap.le r3)))) ?x1 ?x2 ?x3 ?x4 ?x5 ?x6 ?x7 ?x8 ?_; (case x4 => exact p1a (by k_asm)); walk_at "M args3"; (intro r9 nw9 h9 tk9 F9 N9 hR; obtain ⟨S8, n8, oky', kvs', U8, ne', b8, t8, ts8, e9, hb8, hky', hkz', hS8, e8⟩ := hR; subst e9; subst e8))
  refine wpG_call ?_
  k_dflt (refine' codeG_defN (binds := [(Str.ofString "self", .ref x), (Str.ofString "kind", .int 2 tk), (Str.ofString "body", .bytes bb tb), (Str.ofString "whole", .bytes bw twh)]) ?k1 ?k2 ?k3 ?k4 ?k5 ?kA ?kF ?kK ?k6 ?k7 ?k8 ?k9 ?kB ?_ ?c2 ?c3 ?c4 ?c5; walk_at "G entered")
  walk_at "G steps"
  all_goals (rename News h₀ L _ _ => hN; exact hret _ _ _ _ (by k_asm) (p1b hN) ⟨S8, #[], n8, _, _, _, _, _, _, CoreL p bh th np ka oky' eva _ ne' dl dls nd ++ [], rfl, rfl, by simp, fun q hq => hS8 q (.tail _ (.tail _ (.tail _ hq))), core_apart hrest (fun _ _ _ h => nomatch h), core_off ap (fun _ h => nomatch h), ⟨ts8, b8, t8, oky', kvs', _, ne', dls, nd, [], rfl, rfl, hb8, rfl, rfl, rfl, rfl, hky', hkz', by simp, rfl, rfl, rfl, rfl⟩⟩)
  run_tac Mine.Sh.fin
theorem one_ex (w : World) (tt : Nat → Tok) (x d cf p ka eva dl : Addr) (ttr th : Tok) (role pp pr ic icf vr vq vm : Value) (c1 c2 c3 c4 : Tok) (pa pb : List Int) (btr bh : Array UInt8) (tr whole : List Int) (ocfg oky : Obj) (kvs : List (Str × Value)) (evs dls : Array Value) (np ne nd : Nat) (ap : Ap x d cf p ka eva dl)
    (hky : oky.IsDictOf (strKind Challenge.rw_pf0268_01.row.prog w) kvs) (hcfg : ocfg.IsDictOf (strKind Challenge.rw_pf0268_01.row.prog w) (strPairs [(.str (Str.ofString "random") c1, vr), (.str (Str.ofString "protocols") c2, .ref p), (.str (Str.ofString "params") c3, vq), (.str (Str.ofString "most") c4, vm)])) (hBt : KBw.bInts btr = tr) (htr : tr.length + whole.length < 5000) (hBh : KBw.bInts bh = pa) (hpa : pa.length < 1000) (hpb : pb.length < 1000) (hes : evs.size < 80) (hkz : kvs.length < 6) :
    OneOk w tt x d cf ocfg 8 (fld pa ++ fld pb) whole role (Str.ofString "wait_extensions") (.bytes btr ttr) (.ref ka) (.ref eva) pp pr ic icf (.ref dl) (CoreL p bh th np ka oky eva evs ne dl dls nd) [d, p, ka, eva, dl]
      (PostOf w p bh th np ka eva dl "wait_server_finished" (tr ++ whole) kvs.length (evs.size + 2) (fun v => ∃ b t, v = .bytes b t ∧ KBw.bInts b = pb) (fun v => ∃ b t, v = .bytes b t ∧ KBw.bInts b = pa) ic icf (· = dls) VNil) := by
  run_tac Mine.Sh.mark
  intro tk tb twh ts tlo bb bw blo rest hBb hBw hrest
  have r1 : ∀ q ∈ rest, q.1 ≠ d := fun q hq => hrest q hq d (by simp)
  have r2 : ∀ q ∈ rest, q.1 ≠ ka := fun q hq => hrest q hq ka (by simp)
  have r3 : ∀ q ∈ rest, q.1 ≠ eva := fun q hq => hrest q hq eva (by simp)
  have r4 : ∀ q ∈ rest, q.1 ≠ dl := fun q hq => hrest q hq dl (by simp)
  unfold ConG
  k_fill
  intro mean mg mb dp un gd cn cs a ccd cl outer A₀ base h₀ L m s Q X B F N T hk hd1 hu1 hret
  k_with "M269" => (refine' useL (c_on_extensions w tt x d cf p eva _ _ _ th c1 c2 c3 c4 _ _ _ _ _ _ _ _ _ vr vq vm _ _ _ bh tr _ pa pb whole ocfg evs np ne _ hcfg hBt hBb hBw rfl hBh hpa hpb htr (by omega) ap.xd ap.cd ap.ed ap.pd ap.xe ap.ce ap.pe (fml ap.kd (fml ap.ld r1)) (fml ap.ek.symm (fml ap.le r3))) ?x1 ?x2 ?x3 ?x4 ?x5 ?x6 ?x7 ?x8 ?_; (case x4 => exact p2a (by k_asm)); walk_at "M args3"; (intro r9 nw9 h9 tk9 F9 N9 hR; obtain ⟨S8, n8, U8, V8, ne', b8, t8, ts8, b1, t1, b2, t2, e9, hb8, hb1, hb2, hS8, e8⟩ := hR; subst e9; subst e8))
  refine wpG_call ?_
  k_dflt (refine' codeG_defN (binds := [(Str.ofString "self", .ref x), (Str.ofString "kind", .int 8 tk), (Str.ofString "body", .bytes bb tb), (Str.ofString "whole", .bytes bw twh)]) ?k1 ?k2 ?k3 ?k4 ?k5 ?kA ?kF ?kK ?k6 ?k7 ?k8 ?k9 ?kB ?_ ?c2 ?c3 ?c4 ?c5; walk_at "G entered")
  walk_at "G steps"
  all_goals (rename News h₀ L _ _ => hN; exact hret _ _ _ _ (by k_asm) (p2b hN) ⟨S8, #[], n8, _, _, _, _, _, _, CoreL p bh th np ka oky eva _ ne' dl dls nd ++ [], rfl, rfl, by simp, fun q hq => hS8 q (.tail _ (.tail _ hq)), core_apart hrest (fun _ _ _ h => nomatch h), core_off ap (fun _ h => nomatch h), ⟨ts8, b8, t8, oky, kvs, _, ne', dls, nd, [], rfl, rfl, hb8, ⟨b2, t2, rfl, hb2⟩, ⟨b1, t1, rfl, hb1⟩, rfl, rfl, hky, Nat.le_refl _, by simp, rfl, rfl, rfl, rfl⟩⟩)
  run_tac Mine.Sh.fin
theorem one_fc (w : World) (tt : Nat → Tok) (x d cf p ka eva dl : Addr) (ttr th tro : Tok) (pp pr ic icf : Value) (btr bh : Array UInt8) (tr whole : List Int) (ocfg oky : Obj) (kvs : List (Str × Value)) (evs dls : Array Value) (np ne nd : Nat) (ap : Ap x d cf p ka eva dl)
    (hky : oky.IsDictOf (strKind Challenge.rw_pf0268_01.row.prog w) kvs) (hBt : KBw.bInts btr = tr) (htr : tr.length + whole.length < 5000) (hes : evs.size < 80) (hkz : kvs.length < 6) :
    OneOk w tt x d cf ocfg 20 (tsum [115, 101, 114, 118, 101, 114, 32, 102, 105, 110, 105, 115, 104, 101, 100] tr) whole (.str (Str.ofString "client") tro) (Str.ofString "wait_server_finished") (.bytes btr ttr) (.ref ka) (.ref eva) pp pr ic icf (.ref dl) (CoreL p bh th np ka oky eva evs ne dl dls nd) [d, p, ka, eva, dl]
      (PostOf w p bh th np ka eva dl "done" (tr ++ whole) (kvs.length + 1) (evs.size + 2) (· = pp) (· = pr) (.bool true) icf (· = dls) (VOne (msg 20 (tsum [99, 108, 105, 101, 110, 116, 32, 102, 105, 110, 105, 115, 104, 101, 100] (tr ++ whole))))) := by
  run_tac Mine.Sh.mark
  intro tk tb twh ts tlo bb bw blo rest hBb hBw hrest
  have r1 : ∀ q ∈ rest, q.1 ≠ d := fun q hq => hrest q hq d (by simp)
  have r2 : ∀ q ∈ rest, q.1 ≠ ka := fun q hq => hrest q hq ka (by simp)
  have r3 : ∀ q ∈ rest, q.1 ≠ eva := fun q hq => hrest q hq eva (by simp)
  have r4 : ∀ q ∈ rest, q.1 ≠ dl := fun q hq => hrest q hq dl (by simp)
  unfold ConG
  k_fill
  intro mean mg mb dp un gd cn cs a ccd cl outer A₀ base h₀ L m s Q X B F N T hk hd1 hu1 hret
  k_with "M276" => (refine' useG (c_on_finished_c w tt x d ka eva _ _ _ tro _ _ _ _ _ _ _ _ _ _ _ tr whole oky kvs evs ne _ hky hBt hBb hBw htr (by omega) (by omega) ap.xd ap.kd ap.ed ap.xk ap.ek ap.xe (fml ap.cd (fml ap.pd (fml ap.ld r1))) (fml ap.ck (fml ap.pk (fml ap.lk r2))) (fml ap.ce (fml ap.pe (fml ap.le r3)))) ?x1 ?x2 ?x3 ?x4 ?x5 ?x6 ?x7 ?x8 ?_; (case x4 => exact p1a (by k_asm)); walk_at "M args3"; (intro r9 nw9 h9 tk9 F9 N9 hR; obtain ⟨S8, n8, P8, bm8, tm8, th8, np8, oky', kvs', U8, V8, ne', b8, t8, ts8, e9, hb8, hbm8, hky', hkz', hS8, hP8, e8⟩ := hR; subst e9; subst e8))
  refine wpG_call ?_
  k_dflt (refine' codeG_defN (binds := [(Str.ofString "self", .ref x), (Str.ofString "kind", .int 20 tk), (Str.ofString "body", .bytes bb tb), (Str.ofString "whole", .bytes bw twh)]) ?k1 ?k2 ?k3 ?k4 ?k5 ?kA ?kF ?kK ?k6 ?k7 ?k8 ?k9 ?kB ?_ ?c2 ?c3 ?c4 ?c5; walk_at "G entered")
  walk_at "G steps"
  all_goals (rename News h₀ L _ _ => hN; exact hret _ _ _ _ (by k_asm) (p3b hN) ⟨S8, #[.ref P8], n8, _, _, _, _, _, _, CoreL p bh th np ka oky' eva _ ne' dl dls nd ++ [(P8, { cls := .type "tuple", data := .seq #[.str (Str.ofString "handshake") th8, .bytes bm8 tm8] np8 })], rfl, rfl, by simp, fun q hq => hS8 q (.tail _ (.tail _ (.tail _ hq))), core_apart hrest (fun q hq y hy => by rw [List.mem_singleton.mp hy]; exact (hP8 q (.tail _ (.tail _ (.tail _ hq)))).symm), core_off ap (fun y hy => by rw [List.mem_singleton.mp hy]; exact ne_cls hN (.tail _ (.head _)) (.tail _ (.tail _ (.tail _ (.head _)))) rfl), ⟨ts8, b8, t8, oky', kvs', _, ne', dls, nd, _, rfl, rfl, hb8, rfl, rfl, rfl, rfl, hky', hkz', by simp, rfl, rfl, ⟨P8, _, bm8, _, _, rfl, hbm8, rfl⟩⟩⟩)
  run_tac Mine.Sh.fin
theorem one_ch (w : World) (tt : Nat → Tok) (x d cf p ka eva dl : Addr) (ttr th : Tok) (role pp pr ic icf vm : Value) (c1 c2 c3 c4 tr1 tq1 : Tok) (br bq : Array UInt8) (xa xp xc ra xq : List Int) (btr bh : Array UInt8) (tr whole : List Int) (ocfg oky : Obj) (kvs : List (Str × Value)) (evs dls : Array Value) (np ne nd : Nat) (ap : Ap x d cf p ka eva dl)
    (hky : oky.IsDictOf (strKind Challenge.rw_pf0268_01.row.prog w) kvs) (hcfg : ocfg.IsDictOf (strKind Challenge.rw_pf0268_01.row.prog w) (strPairs [(.str (Str.ofString "random") c1, .bytes br tr1), (.str (Str.ofString "protocols") c2, .ref p), (.str (Str.ofString "params") c3, .bytes bq tq1), (.str (Str.ofString "most") c4, vm)])) (hBh : KBw.bInts bh = xp) (hBr : KBw.bInts br = ra) (hBq : KBw.bInts bq = xq) (ha : xa.length = 8) (hp : xp.length < 100) (hc : xc.length < 100) (hra : ra.length = 8) (hxq : xq.length < 100) (hwl : whole.length < 1000) (hes : evs.size < 80) (hkz : kvs.length < 6) :
    OneOk w tt x d cf ocfg 1 (fld xa ++ fld (fld xp) ++ fld xc) whole role (Str.ofString "wait_client_hello") (.bytes btr ttr) (.ref ka) (.ref eva) pp pr ic icf (.ref dl) (CoreL p bh th np ka oky eva evs ne dl dls nd) [d, p, ka, eva, dl]
      (PostOf w p bh th np ka eva dl "wait_client_finished" (whole ++ shello ra ++ exts xp xq ++ fin [115, 101, 114, 118, 101, 114, 32, 102, 105, 110, 105, 115, 104, 101, 100] (whole ++ shello ra ++ exts xp xq)) (kvs.length + 2) (evs.size + 4) (fun v => ∃ b t, v = .bytes b t ∧ KBw.bInts b = xc) (fun v => ∃ b t, v = .bytes b t ∧ KBw.bInts b = xp) ic icf (· = dls) (VTwo (shello ra) (exts xp xq ++ fin [115, 101, 114, 118, 101, 114, 32, 102, 105, 110, 105, 115, 104, 101, 100] (whole ++ shello ra ++ exts xp xq)))) := by
  run_tac Mine.Sh.mark
  intro tk tb twh ts tlo bb bw blo rest hBb hBw hrest
  have r1 : ∀ q ∈ rest, q.1 ≠ d := fun q hq => hrest q hq d (by simp)
  have r2 : ∀ q ∈ rest, q.1 ≠ ka := fun q hq => hrest q hq ka (by simp)
  have r3 : ∀ q ∈ rest, q.1 ≠ eva := fun q hq => hrest q hq eva (by simp)
  have r4 : ∀ q ∈ rest, q.1 ≠ dl := fun q hq => hrest q hq dl (by simp)
  unfold ConG
  k_fill
  intro mean mg mb dp un gd cn cs a ccd cl outer A₀ base h₀ L m s Q X B F N T hk hd1 hu1 hret
  k_with "M255" => (refine' useG (c_on_client_hello w tt x d cf p ka eva _ _ ttr th c1 c2 c3 c4 tr1 tq1 _ _ _ _ _ _ _ _ _ vm _ _ bh br bq _ whole xa xp xc ra xq ocfg oky kvs evs np ne _ hcfg hky (by omega) hBb hBw hBh hBr hBq rfl ha hp hc hra hxq hwl (by omega) ap.xd ap.cd ap.ed ap.pd ap.kd ap.xe ap.ce ap.pe ap.ek ap.xk ap.ck ap.pk (fml ap.ld r1) (fml ap.lk r2) (fml ap.le r3)) ?x1 ?x2 ?x3 ?x4 ?x5 ?x6 ?x7 ?x8 ?_; (case x4 => exact p1a (by k_asm)); walk_at "M args3"; (intro r9 nw9 h9 tk9 F9 N9 hR; obtain ⟨S8, n8, P1, P2, b1, t1, b2, t2, th1, th2, k1, k2, oky', kvs', evs', ne', b8, t8, bc, tc, ts8, e9, hb1, hb2, hb8, hbc, hes8, hky', hkz', hS8, hP1, hP2, e8⟩ := hR; subst e9; subst e8))
  refine wpG_call ?_
  k_dflt (refine' codeG_defN (binds := [(Str.ofString "self", .ref x), (Str.ofString "kind", .int 1 tk), (Str.ofString "body", .bytes bb tb), (Str.ofString "whole", .bytes bw twh)]) ?k1 ?k2 ?k3 ?k4 ?k5 ?kA ?kF ?kK ?k6 ?k7 ?k8 ?k9 ?kB ?_ ?c2 ?c3 ?c4 ?c5; walk_at "G entered")
  walk_at "G steps"
  all_goals (rename News h₀ L _ _ => hN; exact hret _ _ _ _ (by k_asm) (p4b hN) ⟨S8, #[.ref P1, .ref P2], n8, _, _, _, _, _, _, CoreL p bh th np ka oky' eva evs' ne' dl dls nd ++ [(P1, { cls := .type "tuple", data := .seq #[.str (Str.ofString "initial") th1, .bytes b1 t1] k1 }), (P2, { cls := .type "tuple", data := .seq #[.str (Str.ofString "handshake") th2, .bytes b2 t2] k2 })], rfl, rfl, by simp, fun q hq => hS8 q (.tail _ hq), core_apart hrest (fun q hq y hy => by rcases List.mem_cons.mp hy with rfl | hy; exact (hP1 q (.tail _ hq)).symm; rw [List.mem_singleton.mp hy]; exact (hP2 q (.tail _ hq)).symm), core_off ap (fun y hy => by rcases List.mem_cons.mp hy with rfl | hy; exact ne_cls hN (.tail _ (.tail _ (.tail _ (.tail _ (.tail _ (.tail _ (.tail _ (.head _)))))))) (.tail _ (.tail _ (.head _))) rfl; rw [List.mem_singleton.mp hy]; exact ne_cls hN (.tail _ (.tail _ (.tail _ (.tail _ (.tail _ (.tail _ (.tail _ (.tail _ (.head _))))))))) (.tail _ (.tail _ (.head _))) rfl), ⟨ts8, b8, t8, oky', kvs', evs', ne', dls, nd, _, rfl, rfl, hb8, ⟨bc, tc, rfl, hbc⟩, ⟨bh, th, rfl, hBh⟩, rfl, rfl, hky', hkz', Nat.le_of_eq hes8, rfl, rfl, ⟨P1, P2, _, b1, _, _, _, b2, _, _, rfl, hb1, hb2, rfl⟩⟩⟩)
  run_tac Mine.Sh.fin
theorem one_fs (w : World) (tt : Nat → Tok) (x d cf p ka eva dl : Addr) (ttr th tro : Tok) (pp pr ic : Value) (btr bh : Array UInt8) (tr whole : List Int) (ocfg oky : Obj) (kvs : List (Str × Value)) (evs : Array Value) (np ne nd : Nat) (ap : Ap x d cf p ka eva dl)
    (hky : oky.IsDictOf (strKind Challenge.rw_pf0268_01.row.prog w) kvs) (hBt : KBw.bInts btr = tr) (htr : tr.length + whole.length < 5000) (hes : evs.size < 80) (hkz : kvs.length < 6) :
    OneOk w tt x d cf ocfg 20 (tsum [99, 108, 105, 101, 110, 116, 32, 102, 105, 110, 105, 115, 104, 101, 100] tr) whole (.str (Str.ofString "server") tro) (Str.ofString "wait_client_finished") (.bytes btr ttr) (.ref ka) (.ref eva) pp pr ic (.bool false) (.ref dl) (CoreL p bh th np ka oky eva evs ne dl #[] nd) [d, p, ka, eva, dl]
      (PostOf w p bh th np ka eva dl "done" (tr ++ whole) kvs.length (evs.size + 3) (· = pp) (· = pr) (.bool true) (.bool true) (fun _ => True) VNil) := by
  run_tac Mine.Sh.mark
  intro tk tb twh ts tlo bb bw blo rest hBb hBw hrest
  have r1 : ∀ q ∈ rest, q.1 ≠ d := fun q hq => hrest q hq d (by simp)
  have r2 : ∀ q ∈ rest, q.1 ≠ ka := fun q hq => hrest q hq ka (by simp)
  have r3 : ∀ q ∈ rest, q.1 ≠ eva := fun q hq => hrest q hq eva (by simp)
  have r4 : ∀ q ∈ rest, q.1 ≠ dl := fun q hq => hrest q hq dl (by simp)
  unfold ConG
  k_fill
  intro mean mg mb dp un gd cn cs a ccd cl outer A₀ base h₀ L m s Q X B F N T hk hd1 hu1 hret
  k_with "M276" => (refine' useG (c_on_finished_s w tt x d eva dl _ _ _ tro _ _ _ _ _ _ _ _ _ _ tr whole evs ne nd _ hBt hBb hBw htr (by omega) ap.xd ap.ed ap.xe ap.ld ap.le ap.xl (fml ap.cd (fml ap.pd (fml ap.kd r1))) (fml ap.ce (fml ap.pe (fml ap.ek.symm r3))) (fml ap.cl (fml ap.pl (fml ap.lk.symm r4)))) ?x1 ?x2 ?x3 ?x4 ?x5 ?x6 ?x7 ?x8 ?_; (case x4 => exact p5a (by k_asm)); walk_at "M args3"; (intro r9 nw9 h9 tk9 F9 N9 hR; obtain ⟨S8, n8, evs', ne', b8, t8, ts8, nd', th8, e9, hb8, hes8, hS8, e8⟩ := hR; subst e9; subst e8))
  refine wpG_call ?_
  k_dflt (refine' codeG_defN (binds := [(Str.ofString "self", .ref x), (Str.ofString "kind", .int 20 tk), (Str.ofString "body", .bytes bb tb), (Str.ofString "whole", .bytes bw twh)]) ?k1 ?k2 ?k3 ?k4 ?k5 ?kA ?kF ?kK ?k6 ?k7 ?k8 ?k9 ?kB ?_ ?c2 ?c3 ?c4 ?c5; walk_at "G entered")
  walk_at "G steps"
  all_goals (rename News h₀ L _ _ => hN; exact hret _ _ _ _ (by k_asm) (p5b hN) ⟨S8, #[], n8, _, _, _, _, _, _, CoreL p bh th np ka oky eva evs' ne' dl _ nd' ++ [], rfl, rfl, by simp, fun q hq => hS8 q (.tail _ (.tail _ (.tail _ hq))), core_apart hrest (fun _ _ _ h => nomatch h), core_off ap (fun _ h => nomatch h), ⟨ts8, b8, t8, oky, kvs, evs', ne', _, nd', [], rfl, rfl, hb8, rfl, rfl, rfl, rfl, hky, Nat.le_refl _, Nat.le_of_eq hes8, trivial, rfl, rfl, rfl⟩⟩)
  run_tac Mine.Sh.fin
end
-- E10
section
open PySem.SeqAt
theorem cat_new {w : World} {prog : Program} {A : Around} {E : Value → Shared → Prop} {s : Shared} {h₀ : Heap} {L : Addr} {m : Str → Option Value} {b c : Addr} {vs : Array Value} {n1 n2 : Nat} {post : List (Addr × Obj)} {Q : Value → Shared → Prop} (F : Fr h₀ L s.heap m) (N : News h₀ L s.heap ((c, W.listOf vs n2) :: post)) (h1 : (b, W.listOf #[] n1) ∈ post) (hz : vs.size < 1000)
    (h : ∀ D n' h', Fr h₀ L h' m → News h₀ L h' ((D, W.listOf vs n') :: (c, W.listOf vs n2) :: post) → Above D ((c, W.listOf vs n2) :: post) → Q (.ref D) { s with heap := h' }) :
    wpAny (model prog w) A (binaryOp .Add (.ref b) (.ref c)) Q E s := by
  run_tac Mine.Sh.mark
  have hs : (1000 : Nat) ≤ sizeLine := by rw [sizeLine_eq]; omega
  refine add_lists (vs := []) (ws := vs.toList) (hsz := by simpa using (by omega : vs.size ≤ sizeLine)) F N (news_list N (.tail _ h1)) (by simpa using news_list N (.head _)) fun h' F' N' => ?_
  exact h _ _ h' F' (by simpa using N') (fun p hp => Heap.lt_size (N p hp).1)
  run_tac Mine.Sh.fin
theorem mvR {h₀ h : Heap} {L : Addr} {r z x d e y : Addr × Obj} {mid l : List (Addr × Obj)} (N : News h₀ L h (r :: z :: x :: d :: e :: (mid ++ (y :: l)))) : News h₀ L h (r :: x :: d :: e :: (mid ++ l)) := fun q hq => N q (by revert hq; revert q; repeat' (first | exact List.Mem.head _ | exact fun _ h => h | exact fun _ h => List.mem_append_left _ h | exact List.forall_mem_nil _ | refine mem_step ?_ ?_ | refine app_step ?_ ?_ | refine List.Mem.tail _ ?_ | refine sub_tail ?_ | refine sub_right ?_ | refine List.mem_append_right _ ?_))
theorem restR {R : Addr} {z x d e y : Addr × Obj} {mid l : List (Addr × Obj)} (a : Above R (z :: x :: d :: e :: (mid ++ (y :: l)))) : ∀ p ∈ l, p.1 ≠ R := fun p hp => Nat.ne_of_lt (a p (by simp [hp]))
theorem mvW {h₀ h : Heap} {L : Addr} {z x d e a b c f g p k v l : Addr × Obj} {r : List (Addr × Obj)} (N : News h₀ L h (z :: x :: d :: e :: a :: b :: c :: f :: g :: p :: k :: v :: l :: r)) : News h₀ L h (x :: d :: e :: p :: k :: v :: l :: z :: r) := fun q hq => N q (by revert hq; revert q; repeat' (first | exact List.Mem.head _ | exact fun _ h => h | exact fun _ h => List.mem_append_left _ h | exact List.forall_mem_nil _ | refine mem_step ?_ ?_ | refine app_step ?_ ?_ | refine List.Mem.tail _ ?_ | refine sub_tail ?_ | refine sub_right ?_ | refine List.mem_append_right _ ?_))
theorem core_mut {d p ka eva dl cf : Addr} {sd oc a b c e : Obj} : ∀ y ∈ [d, p, ka, eva, dl], ∃ o, (y, o) ∈ (d, sd) :: (cf, oc) :: [(p, a), (ka, b), (eva, c), (dl, e)] := fun y hy => by
  simp only [List.mem_cons, List.not_mem_nil, or_false] at hy
  rcases hy with rfl | rfl | rfl | rfl | rfl
  · exact ⟨_, .head _⟩
  · exact ⟨_, .tail _ (.tail _ (.head _))⟩
  · exact ⟨_, .tail _ (.tail _ (.tail _ (.head _)))⟩
  · exact ⟨_, .tail _ (.tail _ (.tail _ (.tail _ (.head _))))⟩
  · exact ⟨_, .tail _ (.tail _ (.tail _ (.tail _ (.tail _ (.head _)))))⟩
theorem five {z d p ka eva dl : Addr} (h1 : z ≠ d) (h2 : z ≠ p) (h3 : z ≠ ka) (h4 : z ≠ eva) (h5 : z ≠ dl) : ∀ y ∈ [d, p, ka, eva, dl], z ≠ y := fun y hy => by
  simp only [List.mem_cons, List.not_mem_nil, or_false] at hy
  rcases hy with rfl | rfl | rfl | rfl | rfl <;> assumption
theorem msg_head {k : Int} {body : List Int} (hk0 : 0 ≤ k) (hk1 : k < 256) : ([] ++ ([k] ++ be 2 ((body.length : Int) / 256))) ++ [(body.length : Int) % 256] ++ body = msg k body := by
  rw [msg_cut hk0 hk1]; simp
theorem cutR {ks body : List Int} {k : Int} {b : Array UInt8} (hks : ks = msg k body) (hk0 : 0 ≤ k) (hk1 : k < 256) (h : KBw.bInts b = List.take (ks.length - clipAt ks.length 4) (List.drop (clipAt ks.length 4) ks)) : KBw.bInts b = body := by
  run_tac Mine.Sh.mark
  have hl : ks.length = body.length + 4 := by rw [hks, msg_length]
  have e : clipAt ks.length 4 = 4 := by rw [show (4 : Int) = ((4 : Nat) : Int) from rfl, clipAt_nat]; omega
  rw [h, e, List.take_of_length_le (by rw [List.length_drop]; exact Nat.le_refl _), hks, msg_cut hk0 hk1]
  simp [be]
  run_tac Mine.Sh.fin
theorem line_E10 : True := by
  w_top off
  run_tac Mine.Sh.keep 25
  k_with "ite" => ((k_here; k_openite; k_dflt (first
      | refine ite_neg (by (simp only [bne_iff_ne, beq_iff_eq, ne_eq, decide_eq_true_eq]; omega)) ?_
      | refine ite_pos (by (simp only [bne_iff_ne, beq_iff_eq, ne_eq, decide_eq_true_eq]; omega)) ?_)))
  k_with "k_mem" => (assumption)
  k_with "M args3" => (((case x1 => k_asm); (case x2 => k_asm); (case x3 => k_asm); (case x5 => k_asm); (case x6 => first | exact rfl | assumption); (case x7 => ktr_room); (case x8 => ktr_units)))
  k_with "M off" => ((repeat (first | assumption | (refine List.forall_mem_cons.mpr ⟨?_, ?_⟩; · (dsimp only; k_ne)))))
  k_with "k_ne" => (first | assumption | exact Ne.symm (by assumption) | exact ne_cls (by k_asm) (by k_mem) (by k_mem) (by rfl))
  k_with "k_all" => (assumption)
  k_with "call ref" => ((k_here; (with_reducible show wpAny _ _ (call (Value.ref 213) _) _ _ _); k_extra "M213"))
  k_with "G call" => (((with_reducible show wpG _ _ (call (Value.ref 213) _) _ _ _); k_dflt (k_extra "MG213")))
  k_with "wpG" => (((with_reducible show wpG _ _ (call (Value.ref 213) _) _ _ _); walk_at "G call"))
  k_with "wpG" => (((with_reducible show wpG _ _ (exec (Stmt.If _ _ _ _) _) _ _ _); (refine wpG_any ?_)))
  k_with "call type:list" => ((k_here; (with_reducible show wpAny _ _ (call (Value.type _) [Value.ref _]) _ _ _); k_dflt (refine' list_copyK ?FR10 ?NR10 ?lR10 ?_ ?zR10; (case FR10 => k_asm); (case NR10 => k_asm); (case lR10 => exact news_list (by k_asm) (by k_mem)); (case zR10 => walk_at "M size"); k_whole; intro DR10 cR10 hR10 FR10 NR10 l1R10; (try k_lt l1R10); (try k_sweep))))
  k_with "M size" => ((first | size_fits | (rw [sizeLine_eq]; omega)))
  k_with "M eqat" => ((first | exact str_at | exact int_at (by first | rfl | omega) | exact EqAt.same _ | exact lists_same (news_list (by k_asm) (by k_mem)) (news_list (by k_asm) (by k_mem)) (by k_ne) (in1_room (by ke_room))))
  k_with "compareOp NotEq ref ref" => ((k_here; k_dflt (refine' ne_pair ?tR13 ?uR13 ?e1R13 ?e2R13 ?rR13 ?_; (case tR13 => exact news_tup (by k_asm) (by k_mem)); (case uR13 => exact news_tup (by k_asm) (by k_mem)); (case e1R13 => walk_at "M eqat"); (case e2R13 => walk_at "M eqat"); (case rR13 => ke_room))))
  k_with "binaryOp Add ref ref" => ((k_here; k_dflt (refine' cat_new ?FR14 ?NR14 ?h1R14 ?zR14 ?_; (case FR14 => k_asm); (case NR14 => k_asm); (case h1R14 => exact .tail _ (.tail _ (.tail _ (List.mem_append_right _ (.head _))))); (case zR14 => assumption); k_whole; intro DR14 nR14 hR14 FR14 NR14 aRR14)))
  trivial
theorem c_taken (w : World) {st sp : Str} (hck : CheckOk w st sp) (tt : Nat → Tok) (x d cf p ka eva dl : Addr) (ts tp tlo td tmo tm2 c1 c2 c3 c4 th : Tok) (role tr pp pr ic icf vr vp vq : Value) (blo bd bh : Array UInt8) (ks body : List Int) (k most : Int) (ocfg oky : Obj) (evs dls : Array Value) (np ne nd : Nat) (rest : List (Addr × Obj)) (Post : HPost)
    (hcfg : ocfg.IsDictOf (strKind Challenge.rw_pf0268_01.row.prog w) (strPairs [(.str (Str.ofString "random") c1, vr), (.str (Str.ofString "protocols") c2, vp), (.str (Str.ofString "params") c3, vq), (.str (Str.ofString "most") c4, .int most tmo)]))
    (hB0 : KBw.bInts blo = []) (hBd : KBw.bInts bd = ks) (hks : ks = msg k body) (hk0 : 0 ≤ k) (hk1 : k < 256) (hm0 : 0 < body.length) (hm2 : body.length < 60000) (hmost : (body.length : Int) ≤ most) (hes : evs.size < 100) (ap : Ap x d cf p ka eva dl)
    (hoff : ∀ q ∈ rest, ∀ y ∈ [d, p, ka, eva, dl], q.1 ≠ y)
    (one : OneOk w tt x d cf ocfg k body ks role st tr (.ref ka) (.ref eva) pp pr ic icf (.ref dl) (CoreL p bh th np ka oky eva evs ne dl dls nd) [d, p, ka, eva, dl] Post) :
    ConG 32 w 353 [.ref x, .str sp tp, .bytes bd td, .int most tm2] ((x, instObj 328 d) :: (d, SD w tt role (.ref cf) (.str st ts) tr (.bytes blo tlo) (.ref ka) (.ref eva) pp pr ic icf (.ref dl)) :: (cf, ocfg) :: (p, W.listOf #[.bytes bh th] np) :: (ka, oky) :: (eva, W.listOf evs ne) :: (dl, W.listOf dls nd) :: rest)
      (fun r nw => ∃ bl' tl', KBw.bInts bl' = [] ∧ HRet w tt x d cf ocfg role (.bytes bl' tl') (.ref ka) (.ref eva) (.ref dl) rest Post r nw) := by
  run_tac Mine.Sh.mark
  have hlen : ks.length = body.length + 4 := by rw [hks, msg_length]
  have hxd := ap.xd
  have hcd := ap.cd
  have hpd := ap.pd
  have hkd := ap.kd
  have hed := ap.ed
  have hld := ap.ld
  have r1 : ∀ q ∈ rest, q.1 ≠ d := fun q hq => hoff q hq d (by simp)
  unfold ConG
  k_fill
  intro mean mg mb dp un gd cn cs a ccd cl outer A₀ base h₀ L m s Q X B F N T hk hd1 hu1 hret
  k_with "M213" => (first
    | (refine' useL (c_take_short w hck tt x d cf _ _ _ _ _ _ _ _ _ role tr (.ref ka) (.ref eva) pp pr ic icf (.ref dl) vr vp vq _ _ [] ([k] ++ be 2 ((body.length : Int) / 256)) most ocfg _ hcfg hB0 (cut3 hks hk0 hk1 (by assumption)) (by simp [be]) (by simp [be]) hxd hcd ?off) ?x1 ?x2 ?x3 ?x4 ?x5 ?x6 ?x7 ?x8 ?_; (case x4 => exact mv2 (by k_asm)); walk_at "M args3"; (case off => walk_at "M off"); (intro r9 nw9 h9 tk9 F9 N9 hR; obtain ⟨S9, b9, t9, n9, e9, e8, hB9⟩ := hR; subst e9; subst e8))
    | (refine' useL (c_take_head w hck tt x d cf _ _ _ _ _ _ _ _ _ role tr (.ref ka) (.ref eva) pp pr ic icf (.ref dl) vr vp vq _ _ ([] ++ ([k] ++ be 2 ((body.length : Int) / 256))) [(body.length : Int) % 256] most ocfg _ hcfg hB9 (cut4 hks hk0 hk1 (by assumption)) (by simp) k body.length (by simp [be3_cut]) (by omega) (by omega) (by omega) hxd hcd ?off) ?x1 ?x2 ?x3 ?x4 ?x5 ?x6 ?x7 ?x8 ?_; (case x4 => exact mv3 (by k_asm)); walk_at "M args3"; (case off => walk_at "M off"); (intro r9 nw9 h9 tk9 F9 N9 hR; obtain ⟨S7, b7, t7, n7, e9, e8, hB7, hS7⟩ := hR; subst e9; subst e8; have hS7d : S7 ≠ d := ne_cls N9 (.head _) (.tail _ (.tail _ (.head _))) rfl; have hS7p : S7 ≠ p := Ne.symm (hS7 (p, W.listOf #[.bytes bh th] np) (by simp)); have hS7k : S7 ≠ ka := Ne.symm (hS7 (ka, oky) (by simp)); have hS7e : S7 ≠ eva := Ne.symm (hS7 (eva, W.listOf evs ne) (by simp)); have hS7l : S7 ≠ dl := Ne.symm (hS7 (dl, W.listOf dls nd) (by simp)))))
  k_with "MG213" => (refine' useG (c_take_whole w hck tt x d cf _ _ _ _ _ _ _ _ _ role tr (.ref ka) (.ref eva) pp pr ic icf (.ref dl) vr vp vq _ _ ([] ++ ([k] ++ be 2 ((body.length : Int) / 256)) ++ [(body.length : Int) % 256]) body body k most ocfg (CoreL p bh th np ka oky eva evs ne dl dls nd) _ [d, p, ka, eva, dl] Post hcfg hB7 (cutR hks hk0 hk1 (by assumption)) hm0 (msg_head hk0 hk1) hk0 hk1 hm0 hm2 hmost core_mut (List.forall_mem_cons.mpr ⟨five hS7d hS7p hS7k hS7e hS7l, hoff⟩) hxd hcd (fml hpd (fml hkd (fml hed (fml hld (fml hS7d r1))))) (by rw [msg_head hk0 hk1, ← hks]; exact one)) ?x1 ?x2 ?x3 ?x4 ?x5 ?x6 ?x7 ?x8 ?_; (case x4 => exact mvW (by k_asm)); walk_at "M args3"; (intro r9 nw9 h9 tk9 F9 N9 hR; obtain ⟨bl8, tl8, g8, S8, vs8, n8, st8, tr8, pp8, pr8, ic8, icf8, mid8, e9, e8, hz8, hS8, hM8, hD8, hP8⟩ := hR; subst e9; subst e8))
  refine wpG_call ?_
  k_dflt (refine' codeG_defN (binds := [(Str.ofString "side", .ref x), (Str.ofString "space", .str sp tp), (Str.ofString "whole", .bytes bd td), (Str.ofString "most", .int most tm2)]) ?k1 ?k2 ?k3 ?k4 ?k5 ?kA ?kF ?kK ?k6 ?k7 ?k8 ?k9 ?kB ?_ ?c2 ?c3 ?c4 ?c5; walk_at "G entered")
  walk_at "G steps"
  all_goals (rename News h₀ L _ _ => hN; rename Above _ _ => aR; exact hret _ _ _ _ (by k_asm) (mvR hN) ⟨bl8, tl8, g8, _, vs8, _, st8, tr8, pp8, pr8, ic8, icf8, mid8, rfl, rfl, hz8, restR aR, fun q hq => hM8 q (.tail _ hq), hD8, hP8⟩)
  run_tac Mine.Sh.fin
end
-- E11
section
theorem permBG {h₀ h : Heap} {L : Addr} {z P x d cf p : Addr × Obj} {l : List (Addr × Obj)} (N : News h₀ L h (z :: P :: x :: d :: cf :: p :: l)) : News h₀ L h (z :: x :: d :: cf :: p :: P :: l) := fun q hq => N q (by revert hq; revert q; repeat' (first | exact List.Mem.head _ | exact fun _ h => h | exact fun _ h => List.mem_append_left _ h | exact List.forall_mem_nil _ | refine mem_step ?_ ?_ | refine app_step ?_ ?_ | refine List.Mem.tail _ ?_ | refine sub_tail ?_ | refine sub_right ?_ | refine List.mem_append_right _ ?_))
theorem line_E11 : True := by
  w_top off
  run_tac Mine.Sh.keep 25
  k_with "ite" => ((k_here; k_openite; k_dflt (first
      | refine ite_neg (by (simp only [bne_iff_ne, beq_iff_eq, ne_eq, decide_eq_true_eq]; omega)) ?_
      | refine ite_pos (by (simp only [bne_iff_ne, beq_iff_eq, ne_eq, decide_eq_true_eq]; omega)) ?_)))
  k_with "getItem ref str" => ((k_here; k_dflt (refine' kd_get ?N ?m ?d (val_stored _ _ _) ?_; (case N => k_asm); (case m => k_mem); (case d => k_asm))))
  k_with "setItem ref str" => ((k_here; (with_reducible show wpAny _ _ (setItem (Value.ref _) (Value.str _ _) (Value.bytes _ _)) _ _ _); k_dflt (refine' kda_set (knd := PySem.strKind _ _) ?F ?N ?U ?d (strKind_is _ _ _ _) ?z ?_; (case F => k_asm); (case N => k_asm); (case U => k_updF); (case d => k_asm); (case z => rw [sizeLine_eq]; omega); intro h' o' F' N' hd'; (try dsimp only at N'); (try k_sweep))))
  k_with "subscriptTail" => ((k_here; (with_reducible show wpAny _ _ (subscriptTail _ _ (Value.ref _) (Value.str _ _)) _ _ _); k_dflt (refine kda_item (knd := PySem.strKind _ _) (by k_asm) (by k_mem) (by k_asm) (strKind_is _ _ _ _) (val_stored _ _ _) ?_)))
  k_with "k_ne" => (first | assumption | exact Ne.symm (by assumption) | exact ne_cls (by k_asm) (by k_mem) (by k_mem) (by rfl))
  k_with "k_all" => (assumption)
  k_with "G call" => (((with_reducible show wpG _ _ (call (Value.ref 115) _) _ _ _); k_dflt (k_extra "M115")))
  k_with "wpG" => (((with_reducible show wpG _ _ (call (Value.ref 115) _) _ _ _); walk_at "G call"))
  k_with "wpG" => (((with_reducible show wpG _ _ (exec (Stmt.If _ _ _ _) _) _ _ _); (refine wpG_any ?_)))
  k_with "M fresh" => ((first | assumption | exact allLt_ne (allLt_of (by assumption)) | exact allLt_ne (by first | assumption | exact And.right (by assumption) | exact And.right (And.right (by assumption)) | exact And.right (And.right (And.right (by assumption))) | exact And.right (And.right (And.right (And.right (by assumption)))) | exact And.right (And.right (And.right (And.right (And.right (by assumption))))) | exact And.right (And.right (And.right (And.right (And.right (And.right (by assumption)))))) | exact And.right (And.right (And.right (And.right (And.right (And.right (And.right (by assumption))))))) | exact And.right (And.right (And.right (And.right (And.right (And.right (And.right (And.right (by assumption)))))))) | exact And.right (And.right (And.right (And.right (And.right (And.right (And.right (And.right (And.right (by assumption))))))))) | exact And.right (And.right (And.right (And.right (And.right (And.right (And.right (And.right (And.right (And.right (by assumption)))))))))) | exact And.right (And.right (And.right (And.right (And.right (And.right (And.right (And.right (And.right (And.right (And.right (by assumption))))))))))) | exact And.right (And.right (And.right (And.right (And.right (And.right (And.right (And.right (And.right (And.right (And.right (And.right (by assumption)))))))))))) | exact And.right (And.right (And.right (And.right (And.right (And.right (And.right (And.right (And.right (And.right (And.right (And.right (And.right (by assumption))))))))))))) | exact And.right (And.right (And.right (And.right (And.right (And.right (And.right (And.right (And.right (And.right (And.right (And.right (And.right (And.right (by assumption)))))))))))))) | exact And.right (And.right (And.right (And.right (And.right (And.right (And.right (And.right (And.right (And.right (And.right (And.right (And.right (And.right (And.right (by assumption))))))))))))))))))
  trivial
theorem c_begin (w : World) (tt : Nat → Tok) (x d cf p : Addr) (ts tro tc c1 c2 c3 c4 tr1 tq1 : Tok) (trv lo ky ev pp pr ic icf dr vm : Value) (br bq bc : Array UInt8) (ra xp xq : List Int) (ocfg : Obj) (np : Nat) (rest : List (Addr × Obj))
    (hcfg : ocfg.IsDictOf (strKind Challenge.rw_pf0268_01.row.prog w) (strPairs [(.str (Str.ofString "random") c1, .bytes br tr1), (.str (Str.ofString "protocols") c2, .ref p), (.str (Str.ofString "params") c3, .bytes bq tq1), (.str (Str.ofString "most") c4, vm)]))
    (hBr : KBw.bInts br = ra) (hBc : KBw.bInts bc = xp) (hBq : KBw.bInts bq = xq) (hra : ra.length = 8) (hxp : xp.length < 100) (hxq : xq.length < 100) (hxd : x ≠ d) (hcd : cf ≠ d) (hpd : p ≠ d) (hr1 : ∀ q ∈ rest, q.1 ≠ d) :
    ConG 14 w 206 [.ref x] ((x, instObj 328 d) :: (d, SD w tt (.str (Str.ofString "client") tro) (.ref cf) (.str (Str.ofString "start") ts) trv lo ky ev pp pr ic icf dr) :: (cf, ocfg) :: (p, W.listOf #[.bytes bc tc] np) :: rest)
      (fun r nw => ∃ S n P b1 t1 th1 k1 ts', r = .ref S ∧ KBw.bInts b1 = chello ra xp xq ∧ (∀ q ∈ rest, q.1 ≠ S) ∧ (∀ q ∈ rest, q.1 ≠ P) ∧ p ≠ S ∧ p ≠ P ∧
        nw = (S, W.listOf #[.ref P] n) :: (x, instObj 328 d) :: (d, SD w tt (.str (Str.ofString "client") tro) (.ref cf) (.str (Str.ofString "wait_server_hello") ts') (.bytes b1 t1) lo ky ev pp pr ic icf dr) :: (cf, ocfg) :: (p, W.listOf #[.bytes bc tc] np) :: (P, { cls := .type "tuple", data := .seq #[.str (Str.ofString "initial") th1, .bytes b1 t1] k1 }) :: rest) := by
  run_tac Mine.Sh.mark
  unfold ConG
  k_fill
  intro mean mg mb dp un gd cn cs a ccd cl outer A₀ base h₀ L m s Q X B F N T hk hd1 hu1 hret
  k_with "M115" => (refine' useG (c_client_hello w br bc bq tr1 tc tq1 ra xp xq p np _ ?p1 hBr hBc hBq (by omega)) ?x1 ?x2 ?x3 ?x4 ?x5 ?x6 ?x7 ?x8 ?_; walk_at "M args"; (case p1 => k_mem); (intro r9 nw9 h9 tk9 F9 N9 hR; obtain ⟨e8, b9, t9, e9, hB9⟩ := hR; subst e9; subst e8))
  refine wpG_call ?_
  k_dflt (refine' codeG_defN (binds := [(Str.ofString "self", .ref x)]) ?k1 ?k2 ?k3 ?k4 ?k5 ?kA ?kF ?kK ?k6 ?k7 ?k8 ?k9 ?kB ?_ ?c2 ?c3 ?c4 ?c5; walk_at "G entered")
  walk_at "G steps"
  all_goals (rename News h₀ L _ _ => hN; exact hret _ _ _ _ (by k_asm) (permBG hN) ⟨_, _, _, b9, t9, _, _, _, rfl, hB9, (by walk_at "M fresh"), (by walk_at "M fresh"), Nat.ne_of_lt (by omega), Nat.ne_of_lt (by omega), rfl⟩)
  run_tac Mine.Sh.fin
end
-- E12
section
theorem sl_c : Txt.slice (Str.ofString "client") none (some 1) = Str.ofString "c" := by decide
theorem sl_s : Txt.slice (Str.ofString "server") none (some 1) = Str.ofString "s" := by decide
noncomputable def tokF (a0 a1 a2 a3 a4 a5 a6 a7 a8 a9 b0 b1 : Tok) : Nat → Tok
  | 0 => a0 | 1 => a1 | 2 => a2 | 3 => a3 | 4 => a4 | 5 => a5 | 6 => a6 | 7 => a7 | 8 => a8 | 9 => a9 | 10 => b0 | _ => b1
theorem permSd {h₀ h : Heap} {L : Addr} {x d p cf ka eva dl : Addr × Obj} {l : List (Addr × Obj)} (N : News h₀ L h (dl :: eva :: ka :: x :: d :: p :: cf :: l)) : News h₀ L h (x :: d :: cf :: p :: ka :: eva :: dl :: l) := fun q hq => N q (by revert hq; revert q; repeat' (first | exact List.Mem.head _ | exact fun _ h => h | exact fun _ h => List.mem_append_left _ h | exact List.forall_mem_nil _ | refine mem_step ?_ ?_ | refine app_step ?_ ?_ | refine List.Mem.tail _ ?_ | refine sub_tail ?_ | refine sub_right ?_ | refine List.mem_append_right _ ?_))
abbrev CR : List Int := [99, 99, 99, 99, 99, 99, 99, 99]
structure Row7 (news : List (Addr × Obj)) (x d cf p ka eva dl : Addr) : Prop where
  n : ∀ q ∈ news, q.1 < cf
  a : cf < p
  b : p < d
  c : d < x
  e : x < ka
  f : ka < eva
  g : eva < dl
theorem Row7.ap {news : List (Addr × Obj)} {x d cf p ka eva dl : Addr} (r : Row7 news x d cf p ka eva dl) : Ap x d cf p ka eva dl := by
  run_tac Mine.Sh.mark
  have a : @LT.lt Nat instLTNat cf p := r.a
  have b : @LT.lt Nat instLTNat p d := r.b
  have c : @LT.lt Nat instLTNat d x := r.c
  have e : @LT.lt Nat instLTNat x ka := r.e
  have f : @LT.lt Nat instLTNat ka eva := r.f
  have g : @LT.lt Nat instLTNat eva dl := r.g
  clear r
  constructor <;> first | exact Nat.ne_of_lt (by omega) | exact Nat.ne_of_gt (by omega)
  run_tac Mine.Sh.fin
theorem Row7.off {news : List (Addr × Obj)} {x d cf p ka eva dl : Addr} (r : Row7 news x d cf p ka eva dl) : ∀ q ∈ news, ∀ y ∈ [d, p, ka, eva, dl], q.1 ≠ y := fun q hq y hy => by
  have a : @LT.lt Nat instLTNat cf p := r.a
  have b : @LT.lt Nat instLTNat p d := r.b
  have c : @LT.lt Nat instLTNat d x := r.c
  have e : @LT.lt Nat instLTNat x ka := r.e
  have f : @LT.lt Nat instLTNat ka eva := r.f
  have g : @LT.lt Nat instLTNat eva dl := r.g
  have n : @LT.lt Nat instLTNat q.1 cf := r.n q hq
  clear r
  simp only [List.mem_cons, List.not_mem_nil, or_false] at hy
  rcases hy with rfl | rfl | rfl | rfl | rfl <;> exact Nat.ne_of_lt (by omega)
theorem line_E12 : True := by
  w_top off
  run_tac Mine.Sh.keep 25
  k_with "k_mem" => (assumption)
  k_with "getMethod bytes" => ((k_here; (with_reducible refine bj_method ?_)))
  k_with "getMethod str" => ((k_here; (with_reducible refine en_method ?_)))
  k_with "call builtin:bytes.join" => ((k_here; k_dflt (refine' bj_one (News.get ?N ?m) ?_; (case N => k_asm); (case m => k_mem))))
  k_with "call builtin:str.encode" => ((k_here; (try rw [sl_c]); (try rw [sl_s]); k_dflt (first
      | (with_reducible refine' en_call (en_c _ _) ?hb ?_; (case hb => decide))
      | (with_reducible refine' en_call (en_s _ _) ?hb ?_; (case hb => decide))
      | (with_reducible refine' en_call (en_h _ _) ?hb ?_; (case hb => decide))
      | (with_reducible refine' en_call (en_a _ _) ?hb ?_; (case hb => decide)))))
  k_with "M enter" => ((
      refine' code_def ?k1 ?k2 ?k3 ?k4 ?k5 ?kA ?kF ?kK ?k6 ?k7 ?k8 ?k9 ?kB ?_ ?c2 ?c3 ?c4 ?c5
      (case kA => exact rfl)
      (case kF => exact rfl)
      (case kK => first | assumption | exact rfl)
      (case k1 => k_asm)
      (case k2 => k_asm)
      (case k3 => k_asm)
      (case k4 => k_asm)
      (case k5 => k_asm)
      (case k6 => k_is)
      (case k7 => k_is)
      (case k8 => walk_at "M room")
      (case k9 => exact BindsTo.of_eq rfl)
      (case c5 => decide)
      (case kB => exact locs rfl)
      (case c2 => exact rfl)
      (case c3 => exact rfl)
      (case c4 => exact rfl)
      k_whole
      intro g' L' h' FG' F' N' B' X' T'
      (try dsimp only)
      (try k_lift B')
      (try k_fold)))
  k_with "M room" => ((first | ktr_room | (show (_ : Nat) < _; simp only [Around.under, Around.deeper, ktrTop]; have hw : ∀ args, (Code.builtin "type.__call__" args).weight ≤ 1 := (by intro args; unfold Code.weight; (repeat' split) <;> simp_all [Code.isGuard, Code.isCaller, Code.frames, Code.isFrame]); omega)))
  k_with "call ref" => ((k_here; (with_reducible show wpAny _ _ (call (Value.ref 328) _) _ _ _); k_dflt ((refine' call_cls ?k1 ?k2 ?k3 ?k4 ?k5 ?k6 ?_; (case k1 => k_asm); (case k2 => k_asm); (case k3 => k_asm); (case k4 => k_is); (case k5 => k_is); (case k6 => k_is); k_whole; intro x' d' h' F' N' l1 l2; (try k_lt l1); (try k_lt2 l2); (try k_sweep); walk_at "M enter"))))
  trivial
theorem c_side_c (w : World) (most : Int) (t0 t1 : Tok) (b : Array UInt8) (tb : Tok) (news : List (Addr × Obj)) : ConL 8 w 346 [.str (Str.ofString "client") t0, .int most t1, .bytes b tb] news (fun r nw => ∃ tt x d cf p ka eva dl br tr1 c1 c2 c3 c4 tm tro ts tra tlo tc ocfg oky, r = .ref x ∧ Row7 news x d cf p ka eva dl ∧ ocfg.IsDictOf (strKind Challenge.rw_pf0268_01.row.prog w) (strPairs [(.str (Str.ofString "random") c1, .bytes br tr1), (.str (Str.ofString "protocols") c2, .ref p), (.str (Str.ofString "params") c3, .bytes b tb), (.str (Str.ofString "most") c4, .int most tm)]) ∧ oky.IsDictOf (strKind Challenge.rw_pf0268_01.row.prog w) [] ∧ KBw.bInts br = CR ∧
        nw = (x, instObj 328 d) :: (d, SD w tt (.str (Str.ofString "client") tro) (.ref cf) (.str (Str.ofString "start") ts) (.bytes #[] tra) (.bytes #[] tlo) (.ref ka) (.ref eva) .none .none (.bool false) (.bool false) (.ref dl)) :: (cf, ocfg) :: (p, W.listOf #[.bytes #[104, 51] tc] 0) :: (ka, oky) :: (eva, W.listOf #[] 0) :: (dl, W.listOf #[] 0) :: news) := by
  run_tac Mine.Sh.mark
  unfold ConL
  k_fill
  intro mean mg mb dp un gd cn cs a ccd cl outer A₀ base h₀ L m s Q E X B F N T hk hd1 hu1 hret
  refine wpAny_call ?_
  k_dflt cell_enter
  k_steps
  all_goals (rename News h₀ L _ _ => hN; exact hret _ _ _ _ (by k_asm) (permSd hN) ⟨tokF _ _ _ _ _ _ _ _ _ _ _ _, _, _, _, _, _, _, _, _, _, _, _, _, _, _, _, _, _, _, _, _, _, rfl, ⟨(by assumption), (by (show @LT.lt Nat instLTNat _ _; omega)), (by (show @LT.lt Nat instLTNat _ _; omega)), (by (show @LT.lt Nat instLTNat _ _; omega)), (by (show @LT.lt Nat instLTNat _ _; omega)), (by (show @LT.lt Nat instLTNat _ _; omega)), (by (show @LT.lt Nat instLTNat _ _; omega))⟩, (by assumption), (by assumption), (by first | rfl | decide | simp), rfl⟩)
  run_tac Mine.Sh.fin
theorem c_side_s (w : World) (most : Int) (t0 t1 : Tok) (b : Array UInt8) (tb : Tok) (news : List (Addr × Obj)) : ConL 8 w 346 [.str (Str.ofString "server") t0, .int most t1, .bytes b tb] news (fun r nw => ∃ tt x d cf p ka eva dl br tr1 c1 c2 c3 c4 tm tro ts tra tlo tc ocfg oky, r = .ref x ∧ Row7 news x d cf p ka eva dl ∧ ocfg.IsDictOf (strKind Challenge.rw_pf0268_01.row.prog w) (strPairs [(.str (Str.ofString "random") c1, .bytes br tr1), (.str (Str.ofString "protocols") c2, .ref p), (.str (Str.ofString "params") c3, .bytes b tb), (.str (Str.ofString "most") c4, .int most tm)]) ∧ oky.IsDictOf (strKind Challenge.rw_pf0268_01.row.prog w) [] ∧ (KBw.bInts br).length = 8 ∧
        nw = (x, instObj 328 d) :: (d, SD w tt (.str (Str.ofString "server") tro) (.ref cf) (.str (Str.ofString "wait_client_hello") ts) (.bytes #[] tra) (.bytes #[] tlo) (.ref ka) (.ref eva) .none .none (.bool false) (.bool false) (.ref dl)) :: (cf, ocfg) :: (p, W.listOf #[.bytes #[104, 51] tc] 0) :: (ka, oky) :: (eva, W.listOf #[] 0) :: (dl, W.listOf #[] 0) :: news) := by
  run_tac Mine.Sh.mark
  unfold ConL
  k_fill
  intro mean mg mb dp un gd cn cs a ccd cl outer A₀ base h₀ L m s Q E X B F N T hk hd1 hu1 hret
  refine wpAny_call ?_
  k_dflt cell_enter
  k_steps
  all_goals (rename News h₀ L _ _ => hN; exact hret _ _ _ _ (by k_asm) (permSd hN) ⟨tokF _ _ _ _ _ _ _ _ _ _ _ _, _, _, _, _, _, _, _, _, _, _, _, _, _, _, _, _, _, _, _, _, _, rfl, ⟨(by assumption), (by (show @LT.lt Nat instLTNat _ _; omega)), (by (show @LT.lt Nat instLTNat _ _; omega)), (by (show @LT.lt Nat instLTNat _ _; omega)), (by (show @LT.lt Nat instLTNat _ _; omega)), (by (show @LT.lt Nat instLTNat _ _; omega)), (by (show @LT.lt Nat instLTNat _ _; omega))⟩, (by assumption), (by assumption), (by first | rfl | decide | simp), rfl⟩)
  run_tac Mine.Sh.fin
end
-- E13
section
open PySem.SeqAt
section
variable {prog : Program} {w : World} {A : Around} {E : Value → Shared → Prop} {s : Shared}
theorem ne_nil0 {l b : Addr} {Q : Value → Shared → Prop} (hl : s.heap.IsList l #[]) (hb : s.heap.IsList b #[]) (hr : A.units + 64 < cLine) (h : Q (.bool false) s) : wpAny (model prog w) A (compareOp .NotEq (.ref l) (.ref b)) Q E s := by
  run_tac Mine.Sh.mark
  have := RcNeAt.lists (A := A) (e := fun _ => true) hl hb rfl (by omega) fun j h1 h2 => by simp at h1
  rw [all_true] at this
  exact this prog w E Q h
  run_tac Mine.Sh.fin
theorem ne_nil1 {l b : Addr} {v : Value} {vs : List Value} {Q : Value → Shared → Prop} (hl : s.heap.IsList l (v :: vs).toArray) (hb : s.heap.IsList b #[]) (hr : A.units + 64 < cLine) (h : Q (.bool true) s) : wpAny (model prog w) A (compareOp .NotEq (.ref l) (.ref b)) Q E s :=
  RcNeAt.lists_lengths (A := A) hl hb (by simp) (by omega) prog w E Q h
theorem pop0 {h₀ : Heap} {L D : Addr} {m : Str → Option Value} {news news' : List (Addr × Obj)} {n : Nat} {u : Tok} {v : Value} {vs : List Value} {Q : Value → Shared → Prop} (F : Fr h₀ L s.heap m) (N : News h₀ L s.heap news) (U : Upd D (W.listOf (v :: vs).toArray n) (W.listOf vs.toArray (n + 1)) news news') (hz : vs.length < 1000)
    (h : ∀ h', Fr h₀ L h' m → News h₀ L h' news' → Q v { s with heap := h' }) : wpAny (model prog w) A (call (.builtin "list.pop") [.ref D, .int 0 u]) Q E s :=
  kl_popAt (k := 0) (p := []) (q := vs) (y := v) (its := (v :: vs).toArray) F N rfl (by simp [seqIndex?]) (by rfl) U (by rw [sizeLine_eq]; simp; omega) h
end
theorem line_E13 : True := by
  w_top off
  run_tac Mine.Sh.keep 25
  k_with "k_ne" => (first | assumption | exact Ne.symm (by assumption) | exact ne_cls (by k_asm) (by k_mem) (by k_mem) (by rfl))
  k_with "k_all" => (assumption)
  k_with "call builtin:list.pop" => ((k_here; k_dflt (refine' pop0 ?F ?N ?U ?z ?_; (case F => k_asm); (case N => k_asm); (case U => k_upd); (case z => omega)); kl_rest))
  k_with "compareOp NotEq ref ref" => ((k_here; k_dflt (first
      | (refine' ne_nil0 ?l ?b ?r ?_; (case l => exact news_list (by k_asm) (by k_mem)); (case b => exact news_list (by k_asm) (by k_mem)); (case r => ke_room))
      | (refine' ne_nil1 ?l ?b ?r ?_; (case l => exact news_list (by k_asm) (by k_mem)); (case b => exact news_list (by k_asm) (by k_mem)); (case r => ke_room)))))
  trivial
theorem c_ltake0 (w : World) (bx dr : Addr) (c many : Int) (tc tm : Tok)  (n nd : Nat) (rest : List (Addr × Obj)) (hm : 0 < many) (hc0 : 0 ≤ c) (hc1 : c < 1000) (hne : dr ≠ bx) (r1 : ∀ q ∈ rest, q.1 ≠ bx) (r2 : ∀ q ∈ rest, q.1 ≠ dr) : ConL 12 w 339 [.ref bx, .int many tm] ((bx, W.listOf #[.ref dr, .int c tc] n) :: (dr, W.listOf #[] nd) :: rest) (fun r nw => ∃ i ti tc' n' vs' ns' nd', r = .int i ti ∧ 0 ≤ i ∧ i < many ∧ IntsAre vs' ns' ∧ vs'.length ≤ 0 ∧ nw = (bx, W.listOf #[.ref dr, .int (c + 1) tc'] n') :: (dr, W.listOf vs'.toArray nd') :: rest) := by
  run_tac Mine.Sh.mark
  unfold ConL
  k_fill
  intro mean mg mb dp un gd cn cs a ccd cl outer A₀ base h₀ L m s Q E X B F N T hk hd1 hu1 hret
  refine wpAny_call ?_
  k_dflt cell_enter
  k_steps
  all_goals (rename News h₀ L _ _ => hN; exact hret _ _ _ _ (by k_asm) (show News h₀ L _ ((bx, _) :: (dr, _) :: rest) from by first | exact hN | exact fun q hq => hN q (.tail _ hq)) ⟨_, _, _, _, [], [], _, rfl, Int.fmod_nonneg_of_pos _ hm, Int.fmod_lt_of_pos _ hm, .nil, Nat.le_refl _, rfl⟩)
  run_tac Mine.Sh.fin
theorem c_ltake1 (w : World) (bx dr : Addr) (c many : Int) (tc tm : Tok) (v0 : Int) (tv : Tok) (vs : List Value) (ns : List Int) (hI : IntsAre vs ns) (hz : vs.length < 100) (n nd : Nat) (rest : List (Addr × Obj)) (hm : 0 < many) (hc0 : 0 ≤ c) (hc1 : c < 1000) (hne : dr ≠ bx) (r1 : ∀ q ∈ rest, q.1 ≠ bx) (r2 : ∀ q ∈ rest, q.1 ≠ dr) : ConL 12 w 339 [.ref bx, .int many tm] ((bx, W.listOf #[.ref dr, .int c tc] n) :: (dr, W.listOf (Value.int v0 tv :: vs).toArray nd) :: rest) (fun r nw => ∃ i ti tc' n' vs' ns' nd', r = .int i ti ∧ 0 ≤ i ∧ i < many ∧ IntsAre vs' ns' ∧ vs'.length ≤ (vs.length + 1) ∧ nw = (bx, W.listOf #[.ref dr, .int (c + 1) tc'] n') :: (dr, W.listOf vs'.toArray nd') :: rest) := by
  run_tac Mine.Sh.mark
  unfold ConL
  k_fill
  intro mean mg mb dp un gd cn cs a ccd cl outer A₀ base h₀ L m s Q E X B F N T hk hd1 hu1 hret
  refine wpAny_call ?_
  k_dflt cell_enter
  k_steps
  all_goals (rename News h₀ L _ _ => hN; exact hret _ _ _ _ (by k_asm) (show News h₀ L _ ((bx, _) :: (dr, _) :: rest) from by first | exact hN | exact fun q hq => hN q (.tail _ hq)) ⟨_, _, _, _, vs, ns, _, rfl, Int.fmod_nonneg_of_pos _ hm, Int.fmod_lt_of_pos _ hm, hI, Nat.le_succ _, rfl⟩)
  run_tac Mine.Sh.fin
theorem c_ltake (w : World) (bx dr : Addr) (c many : Int) (tc tm : Tok) (vs : List Value) (ns : List Int) (hI : IntsAre vs ns) (hz : vs.length < 100) (n nd : Nat) (rest : List (Addr × Obj)) (hm : 0 < many) (hc0 : 0 ≤ c) (hc1 : c < 1000) (hne : dr ≠ bx) (r1 : ∀ q ∈ rest, q.1 ≠ bx) (r2 : ∀ q ∈ rest, q.1 ≠ dr) : ConL 12 w 339 [.ref bx, .int many tm] ((bx, W.listOf #[.ref dr, .int c tc] n) :: (dr, W.listOf vs.toArray nd) :: rest) (fun r nw => ∃ i ti tc' n' vs' ns' nd', r = .int i ti ∧ 0 ≤ i ∧ i < many ∧ IntsAre vs' ns' ∧ vs'.length ≤ vs.length ∧ nw = (bx, W.listOf #[.ref dr, .int (c + 1) tc'] n') :: (dr, W.listOf vs'.toArray nd') :: rest) := by
  run_tac Mine.Sh.mark
  cases hI with
  | nil => exact c_ltake0 w bx dr c many tc tm n nd rest hm hc0 hc1 hne r1 r2
  | cons k t h => exact c_ltake1 w bx dr c many tc tm k t _ _ h (by simp only [List.length_cons] at hz; omega) n nd rest hm hc0 hc1 hne r1 r2
  run_tac Mine.Sh.fin
end
-- BR
section
theorem good_caller : Good (⟨.builtin "claim.caller" {}, none, none, [], none⟩ : Ctx) := ⟨by decide +kernel, fun _ h => nomatch h⟩
theorem ends_G {prog : Program} {w : World} {t : Sem Fin} {s : Shared} {R : Result → Shared → Prop} (hreg : s.asleep)
    (h : wpG (model prog w) callerA t (fun fin s' => ∃ f, fin = .done f ∧ (R (.ok f) s' ∧ leftWithCleanup s'.gens = false)) (fun e s' => R (.error e) s' ∧ leftWithCleanup s'.gens = false) s) :
    ∃ n r s' s'', runN (denote table) prog w n s ⟨t, .builtin "claim.caller" {}, default, []⟩ = .halted (outcomeOf r) s' ∧
      schedN (denote table) prog w n (.single s ⟨t, .builtin "claim.caller" {}, default, []⟩) = .halted (outcomeOf r) s' ∧ s'.forget = s''.forget ∧ R r s'' := by
  run_tac Mine.Sh.mark
  have hw : Sem.wp (model prog w) ⟨.builtin "claim.caller" {}, none, none, [], none⟩ t (Sem.finPost (model prog w) ⟨.builtin "claim.caller" {}, none, none, [], none⟩ fun r s' => R r s' ∧ leftWithCleanup s'.gens = false) (fun e _ s' => R (.error e) s' ∧ leftWithCleanup s'.gens = false) default s :=
    Sem.wp_mono _ _ t (fun fin p' s' h' => by obtain ⟨f, rfl, hf⟩ := h'; exact hf) (fun _ _ _ h' => h') default s (h _ default caller_in good_caller)
  obtain ⟨n, r, s₁, s₂, hs, hn, hfo, hR⟩ := wp_halts_full (M := model prog w) (R := R) hreg hw
  exact ⟨n, r, s₂, s₁, hn, hs, hfo, hR⟩
  run_tac Mine.Sh.fin
abbrev theRow : OpenRow := Challenge.rw_pf0268_01.row
abbrev theLoose : List Str := [Str.ofString "SUM_PRIME", Str.ofString "AWAITED"]
abbrev theXP := XL hd.view_39 [(Str.ofString "SUM_PRIME", WData.int 2305843009213693951)]
noncomputable def theTree (vs : List Value) : Sem Fin := do
  match ← nsGet mainNs theRow.name with
  | some f => do ret (← PySem.call f vs)
  | none => unsupported "claim.caller:no-such-global"
abbrev TheWalk : Prop := ∀ (w : World) (s₀ s₁ : Shared) (mg mb : Str → Option Value), Ground hd.view_39 theLoose [] theXP w s₀ mg mb s₁.heap → (hd.heap_39 w.params).In s₁.heap → s₁.gens = #[] →
    ∀ (args : List WData) (vals : List Value) (as : List Addr), theRow.toRowW.claim.pre args = true → WData.layableAll args = true → ReadsAllW [] (classAt s₀.heap) s₁.heap vals args as → WellAll w.params s₁.heap vals args → (∀ a ∈ as, (a == sysModules) = false) →
      ∃ f, mg theRow.name = some f ∧ wpG (model theRow.prog w) callerA (PySem.call f vals) (fun v s' => GoodWG theRow.toRowW.claim (classAt s₀.heap) (ExcName.means s₀.heap) args s₁ (.ok (.ret v)) s') (fun _ _ => False) s₁
theorem row_of_walk (k1 : theRow.wellSaid = true) (hw : theRow.toRowW.promised) (d : DefRec) (kwd : List (Str × Expr)) (hdef : defOf hd.view_39 theRow.name = some (d, kwd)) (hp : theRow.prog.theDef theRow.name = some (d.params, d.body, d.scope)) (hk : kwWritten? d.params.kwonlyargs d.params.kw_defaults = some kwd)
    (ok : (chainsOk hd.view_39 && opensWell theRow.prog && (frees theRow.toRowW && theRow.toRowW.within.isEmpty)) = true) (hb : theRow.prog.bare) (call : TheWalk) : theRow.Holds := by
  run_tac Mine.Sh.mark
  refine ⟨k1, hw, ?_⟩
  obtain ⟨hch, o1⟩ := Bool.and_eq_true_iff.mp (Bool.and_eq_true_iff.mp ok).1
  obtain ⟨k5, k6⟩ := Bool.and_eq_true_iff.mp (Bool.and_eq_true_iff.mp ok).2
  obtain ⟨hsame, hu, ha, hap, hm⟩ := frees_parts k5
  have hL := fun w => LeftO.behind (XP := fun mg h => theXP mg h ∧ RecFacts theRow.toRowW.records h) left (fun s e => ⟨xl_of s (Bool.and_eq_true_iff.mp e).1, recFacts_of (Bool.and_eq_true_iff.mp e).2⟩) hch w
  refine ⟨⟨hb, o1, rfl⟩, hw.witness, fun w => ⟨(hL w).1, fun s' hs' => ?_⟩⟩
  obtain ⟨s₀, hf, hg0, s, hT, hz, hgens, hg, G00, y⟩ := (hL w).2 s' hs'
  have G0 : Ground hd.view_39 theLoose [] theXP w s (s.heap.nsMap mainGlobals) (s.heap.nsMap builtinsNs) s.heap := ⟨G00.T, G00.B, G00.D, G00.TE, G00.TD, G00.W, G00.X.1, G00.cls, G00.has, G00.apart, G00.once, G00.K⟩
  have RF := G00.X.2
  refine ⟨s₀, hf, hg0, s, hT, fun n hn => ?_, RF.1, RF.2.1, ?_⟩
  · obtain rfl : n = theRow.name := by
      revert hn; split <;> simp_all
    exact pinned_of_view hg G0 hdef hp hk
  have hgens : s.gens = #[] := Array.eq_empty_of_size_eq_zero (beq_iff_eq.mp hgens)
  have G : Ground hd.view_39 theLoose theRow.toRowW.records theXP w s _ _ s.heap := RF.ground G0
  intro args hpre hlay ord hord
  obtain ⟨⟨vs, s₁⟩, hlaid⟩ := Option.isSome_iff_exists.mp (layAllW_isSome (P := w.params) (ord := ord) G.has args theRow.args s (pre_splitW hpre).1)
  have keeps := layAllW_keeps _ _ _ hlaid
  have hal := layAllW_rest _ _ _ hlaid
  obtain ⟨as, hrd, hin, hold⟩ := reads_layAllW hord _ _ _ hlaid hlay s₁.heap (fun _ _ e => e)
  have L : Laid theRow.toRowW.records w s s₁ args vs as := ⟨⟨ord, hord, hlaid⟩, hrd, hin, hold, keeps, hal.1.trans hgens, hal.2.2.1⟩
  have G₁ := G.keeps XL.keeps keeps
  obtain ⟨f, hf, h⟩ := call w s s₁ _ _ G₁ (hd.hook.keeps _ _ _ (hd.hook.of w s y) keeps) L.gens args vs as hpre hlay L.reads L.well (L.low G.low)
  have hi := ident_freeW hu ha hap
  have hwi : theRow.toRowW.claim.within = [] := List.isEmpty_iff.mp k6
  have hcode : wpG (model theRow.prog w) callerA (theTree vs) (fun fin s' => ∃ f, fin = .done f ∧ ((theRow.toRowW.claim.Ends s args vs s₁ (.ok f) s' ∧ s'.os = s.os) ∧ leftWithCleanup s'.gens = false)) (fun e s' => (theRow.toRowW.claim.Ends s args vs s₁ (.error e) s' ∧ s'.os = s.os) ∧ leftWithCleanup s'.gens = false) s₁ := by
    unfold theTree
    refine wpG_bind (wpG_any (wpAny_nsGet G₁.T.g ?_))
    rw [hf]
    refine wpG_bind (wpG_mono h (fun v s' g => ?_) fun _ _ x => x.elim)
    have z := g.laid (c := theRow.toRowW.claim) hsame hwi hi L
    exact wpG_pure ⟨_, rfl, ⟨z.1, z.2.1⟩, leftWithCleanup_false_of_bare z.2.2⟩
  obtain ⟨k, r, s', s'', hrun, hsched, hfo, hcase, hos⟩ := ends_G (R := fun r s' => theRow.toRowW.claim.Ends s args vs s₁ r s' ∧ s'.os = s.os) (Shared.asleep_of_life hal.2.2.2 hz) hcode
  obtain ⟨eh, _, _, eo, _⟩ := Shared.forget_eq hfo
  have hcase := ClaimW.Ends.congr eh hcase
  rw [← eo] at hos
  have hlife : s'.heap.life = s.heap.life := (runN_life _ _ _ hrun).trans hal.2.2.2
  refine ⟨vs, s₁, hlaid, k, _, s', hsched, ?_, (fun _ i x hx => by rw [hgens] at hx; simp at hx), fun q => (nomatch (show False from by cases q)), by rw [hlife], Shared.rest_eq hos⟩
  rcases hcase with ⟨v, rfl, d1, d2, d3, d4, d5⟩ | ⟨e, ob, cls, rfl, d1, d2, d3, d4, d5⟩
  · exact .inl ⟨v, rfl, d1, d2, d3, fun b o y _ => d4 b o y, d5⟩
  · exact .inr ⟨e, ob, cls, rfl, d1, d2, d3, d4, fun b o y _ => d5 b o y⟩
  run_tac Mine.Sh.fin
theorem law_of_walk (call : TheWalk) : Challenge.rw_pf0268_01.Holds := by
  run_tac Mine.Sh.mark
  w_on
  o_law
  refine row_of_walk (by assumption) ?hw _ _ (by rfl) (by rfl) (by rfl) (by decide +kernel) ⟨rfl, rfl, rfl, rfl, rfl, by decide +kernel⟩ call
  case hw => w_witness2
  run_tac Mine.Sh.fin
end
-- E14
section
theorem call_cellsG {prog : Program} {w : World} {A : Around} {R : Result → Shared → Prop} {s : Shared} {name : Str} {params : Arguments} {body : List Stmt} {scope : Scope}
    {pm cd doc : Value} {a : Addr} {o : Obj} {args : List Value} {binds : List (Str × Value)}
    (hroom : A.depth < recursionLimit) (ho : s.heap.get? a = some o) (hdata : o.data = .func (Calls.docDef name params body scope pm cd doc)) (hlim : s.heap.NoLimit) (hcd : s.heap.CodeRec cd name)
    (hbind : bindArgs (Calls.docDef name params body scope pm cd doc) ⟨args, []⟩ = pure binds)
    (hkind : ∀ x ∈ binds, scope.names.lookup x.1 = some .local ∨ (scope.names.lookup x.1 = some .cell ∧ ((cellsFrom (s.heap.objs.size + 1) scope.names []).lookup x.1).isSome = true))
    (hnd : ((cellsFrom 0 scope.names []).map (·.1)).Nodup)
    (h : ∀ h₁ tk cells, Fr s.heap s.heap.objs.size h₁ (bindL (envOfC name scope s.heap.objs.size a cd).kindOf binds fun _ => none) → News s.heap s.heap.objs.size h₁ cells →
      CellsAre (bindC (envOfC name scope s.heap.objs.size a cd).kindOf binds fun _ => none) (cellsFrom (s.heap.objs.size + 1) scope.names []) cells →
      wpG (model prog w) (A.deeper (envOfC name scope s.heap.objs.size a cd)) (execs body (envOfC name scope s.heap.objs.size a cd))
        (fun f s' => R (.ok (.ret (match f with | .ret v => v | _ => .none))) s') (fun _ _ => False) { s with heap := h₁, toks := tk })
    (hco : scope.isCoroutine = false := by rfl) (hgen : scope.isGenerator = false := by rfl) (hk : scope.kind = .function := by rfl) :
    codeG (model prog w) A (.call (.ref a) ⟨args, []⟩) R s := by
  run_tac Mine.Sh.mark
  refine codeG_call_function (fd := Calls.docDef name params body scope pm cd doc) (body := body) hroom ho hdata hco hgen rfl hcd ?_
  rw [hbind]
  refine wpAny_pure (wpAny_newFunctionEnv_cells hk hkind fun env he s' x => ?_)
  subst he
  refine ⟨hlim.keeps x.toInCall.keep, codeG_func ?_⟩
  obtain ⟨h₁, tk, rfl, _⟩ := x.done
  obtain ⟨cells, NC, Y⟩ := Cl.news (h₀ := s.heap) (Nat.le_refl _) fun n c hm => ⟨x.cell n c (lookup_of_mem_nodup (cellsFrom_names scope.names 0 (s.heap.objs.size + 1) [] [] rfl ▸ hnd) hm), x.above n c hm⟩
  exact wpG_mono (h h₁ tk cells ⟨x.toInCall.ns, fun b o e => x.toInCall.keep b o e, Nat.le_refl _⟩ NC Y) (fun _ _ y => y) fun _ _ y => y.elim
  run_tac Mine.Sh.fin
end
-- LB
section
open Lean Meta Elab Tactic in
noncomputable def lawBody : List Stmt := by
  run_tac do
    let g ← getMainGoal
    let e ← whnfD (← Term.elabTerm (← `(PySem.Program.theDef theRow.prog theRow.name)) none)
    let p ← whnfD e.appArg!
    let q ← whnfD p.appArg!
    g.assign (q.getArg! 2)
open Lean Meta Elab Tactic in
noncomputable def lawScope : Scope := by
  run_tac do
    let g ← getMainGoal
    let e ← whnfD (← Term.elabTerm (← `(PySem.Program.theDef theRow.prog theRow.name)) none)
    let p ← whnfD e.appArg!
    let q ← whnfD p.appArg!
    g.assign (q.getArg! 3)
noncomputable abbrev lawLoose := looseW hd.view_39 [Str.ofString "SUM_PRIME", Str.ofString "AWAITED"]
structure LawCtx (w : World) (dp un : Nat) (cb L : Addr) (mean : ExcName → Option Value) (mg mb : Str → Option Value) (h₀ : Heap) (s : Shared) (Q : Flow → Shared → Prop) : Prop where
  X : (hd.heap_39 w.params).In h₀
  B : Below callerA h₀ [] h₀
  T : Top hd.view_39 lawLoose mean mg mb h₀
  hd1 : dp + 100 < recursionLimit
  hu1 : un + 8 * 100 < cLine
  done : ∀ h' tk' m', Fr h₀ L h' m' → Q (.ret (.bool true)) { s with heap := h', toks := tk' }
noncomputable def LawAt (k : Nat) (w : World) (dp un : Nat) (gd : Option (List Code)) (cb L a : Addr) (ccd : Value) (mean : ExcName → Option Value) (mg mb : Str → Option Value) (h₀ : Heap) (s : Shared) (Q : Flow → Shared → Prop) (m : Str → Option Value) (news : List (Addr × Obj)) : Prop :=
  ∀ h tk, Fr h₀ L h m → News h₀ L h news → wpG (model theRow.prog w) (ktrTop dp un gd (Str.ofString "law") lawScope L a ccd [(Str.ofString "box", cb)] []) (execs (lawBody.drop k) (envX (Str.ofString "law") lawScope L a ccd [(Str.ofString "box", cb)])) Q (fun _ _ => False) { s with heap := h, toks := tk }
end
-- LF
section
open Lean Meta Elab Tactic in
noncomputable def lawForT : PySem.Expr := by
  run_tac do
    let g ← getMainGoal
    let e ← whnfD (← Term.elabTerm (← `(Mine.lawBody.drop 14)) none)
    let f ← whnfD (e.getArg! 1)
    g.assign (f.getArg! 0)
open Lean Meta Elab Tactic in
noncomputable def lawForB : List Stmt := by
  run_tac do
    let g ← getMainGoal
    let e ← whnfD (← Term.elabTerm (← `(Mine.lawBody.drop 14)) none)
    let f ← whnfD (e.getArg! 1)
    g.assign (f.getArg! 2)
noncomputable def LoopI (I : Addr) (w : World) (dp un : Nat) (gd : Option (List Code)) (cb L a : Addr) (ccd : Value) (mean : ExcName → Option Value) (mg mb : Str → Option Value) (h₀ : Heap) (s : Shared) (Q : Flow → Shared → Prop) (m : Str → Option Value) (news : List (Addr × Obj)) : Prop :=
  ∀ h tk, Fr h₀ L h m → News h₀ L h news → codeG (model theRow.prog w) (ktrTop dp un gd (Str.ofString "law") lawScope L a ccd [(Str.ofString "box", cb)] []) (.forLoop lawForT (.ref I) lawForB [] (envX (Str.ofString "law") lawScope L a ccd [(Str.ofString "box", cb)]))
    (fun r s' => match r with | .ok f => (match f with | .next => wpG (model theRow.prog w) (ktrTop dp un gd (Str.ofString "law") lawScope L a ccd [(Str.ofString "box", cb)] []) (execs (lawBody.drop 15) (envX (Str.ofString "law") lawScope L a ccd [(Str.ofString "box", cb)])) Q (fun _ _ => False) s' | f => Q f s') | .error _ => False) { s with heap := h, toks := tk }
theorem law_sub {k w dp un gd cb L a ccd mean mg mb h₀ s Q m} {l1 l2 : List (Addr × Obj)} (h : ∀ q ∈ l2, q ∈ l1) (H : LawAt k w dp un gd cb L a ccd mean mg mb h₀ s Q m l2) : LawAt k w dp un gd cb L a ccd mean mg mb h₀ s Q m l1 :=
  fun hp tk F N => H hp tk F fun q hq => N q (h q hq)
theorem loop_sub {I w dp un gd cb L a ccd mean mg mb h₀ s Q m} {l1 l2 : List (Addr × Obj)} (h : ∀ q ∈ l2, q ∈ l1) (H : LoopI I w dp un gd cb L a ccd mean mg mb h₀ s Q m l2) : LoopI I w dp un gd cb L a ccd mean mg mb h₀ s Q m l1 :=
  fun hp tk F N => H hp tk F fun q hq => N q (h q hq)
end
-- E16
section
open PySem.SeqAt
theorem rep_len (n : Nat) (x : UInt8) : (KBw.bInts ((List.replicate n [x]).flatten).toArray).length = n := by simp [KBw.bInts]
theorem line_E16 : True := by
  w_top off
  run_tac Mine.Sh.keep 25
  k_with "k_ne" => (first | assumption | exact Ne.symm (by assumption) | exact ne_cls (by k_asm) (by k_mem) (by k_mem) (by rfl) | (show @Ne Nat _ _; omega))
  k_with "k_all" => (assumption)
  k_with "wpG" => (((with_reducible show wpG _ _ (exec (Stmt.If _ _ _ _) _) _ _ _); (refine wpG_any ?_)))
  k_with "CompSrc" => ((k_here; k_dflt (refine LCg.CompSrc.range (by rfl) (by k_asm) (by k_asm) (by assumption) (by first | decide | rfl) (by first | rfl | decide) (by first | size_fits | exact Nat.le_of_ble_eq_true rfl) ?_; intro g'; lcg_lit)))
  k_with "CompRest" => (k_dflt (first
      | (refine LCg.CompRest.succ ?_; intro v' I' oI' C' oC' D' m' h' tk' E' hv' hC' hx' F' N' off' ne'; (first | lcg_open hv' | (obtain ⟨t9', hv9'⟩ := hv'; subst hv9')))
      | refine LCg.CompRest.zero ?_))
  k_with "call ref" => ((k_here; (with_reducible show wpAny _ _ (call (Value.ref 339) _) _ _ _); k_extra "M339"))
  k_with "FinA" => ((k_here; k_dflt ((unfold LCg.FinA); intro D' h' tk' F' N' o1'; (try simp only [List.nil_append, List.cons_append] at N'); (try dsimp only))))
  k_with "wpG" => (((with_reducible show wpG _ _ (execs (Stmt.Assign [Expr.Name (Str.ofString "before") _] _ _ :: _) _) _ _ _); k_dflt (k_extra "MNEXT")))
  trivial
theorem law_1 (w : World) (dp un : Nat) (gd : Option (List Code)) (cb L a : Addr) (ccd : Value) (mean : ExcName → Option Value) (mg mb : Str → Option Value) (h₀ : Heap) (s : Shared) (Q : Flow → Shared → Prop) (C : LawCtx w dp un cb L mean mg mb h₀ s Q) (bx dr : Addr) (tc : Tok) (vs : List Value) (ns : List Int) (hI : IntsAre vs ns) (hz : vs.length < 100) (n nd : Nat) (oc : Obj) (hoc : oc.data = .cell (some (.ref bx))) (m0 : Str → Option Value) (h1 : dr ≠ bx) (h2 : cb ≠ bx) (h3 : cb ≠ dr)
    (k2 : ∀ pp b0 t0 b1 t1 tc vs ns n nd np, IntsAre vs ns → vs.length < 100 → (KBw.bInts b0).length < 30 → (KBw.bInts b1).length < 30 → bx ≠ pp → dr ≠ pp → cb ≠ pp → LawAt 2 w dp un gd cb L a ccd mean mg mb h₀ s Q (fun z => if z = Str.ofString "params" then some (.ref pp) else m0 z) ((pp, W.listOf #[.bytes b0 t0, .bytes b1 t1] np) :: (bx, W.listOf #[.ref dr, .int 2 tc] n) :: (dr, W.listOf vs.toArray nd) :: (cb, oc) :: [])) :
    LawAt 1 w dp un gd cb L a ccd mean mg mb h₀ s Q (m0) ((bx, W.listOf #[.ref dr, .int 0 tc] n) :: (dr, W.listOf vs.toArray nd) :: (cb, oc) :: []) := by
  run_tac Mine.Sh.mark
  obtain ⟨X, B, T, hd1, hu1, hdone⟩ := C
  unfold LawAt
  revert X
  k_fill
  intro X h tk F N
  dsimp only [lawBody, List.drop]
  k_with "M339" => (first
    | ((rename LCg.Off3 _ _ _ _ => O1); refine' useL (c_ltake w bx dr 0 30 tc _ vs ns hI hz n nd [(_, _), (_, _), (_, _), (cb, oc)] (by decide) (by decide) (by decide) h1 (fml O1.1.1.symm (fml O1.1.2.1.symm (fml O1.1.2.2.symm (fml h2 (fun _ h => nomatch h))))) (fml O1.2.1.1.symm (fml O1.2.1.2.1.symm (fml O1.2.1.2.2.symm (fml h3 (fun _ h => nomatch h)))))) ?x1 ?x2 ?x3 ?x4 ?x5 ?x6 ?x7 ?x8 ?_; (case x1 => k_asm); (case x2 => k_asm); (case x3 => k_asm); (case x4 => (rename News h₀ L _ _ => N7; ((repeat' (refine List.forall_mem_cons.mpr ⟨N7 _ (by k_mem), ?_⟩)); exact List.forall_mem_nil _))); (case x5 => k_asm); (case x6 => first | exact rfl | assumption); (case x7 => ktr_room); (case x8 => ktr_units); (intro r9 nw9 h9 tk9 F9 N9 hR; obtain ⟨i9, t9, tc9, n9, vs9, ns9, nd9, e9, hi0, hi1, hI9, hz9, e8⟩ := hR; subst e9; subst e8))
    | ((rename LCg.Off3 _ _ _ _ => O1); refine' useL (c_ltake w bx dr 1 30 tc9 _ vs9 ns9 hI9 (Nat.lt_of_le_of_lt hz9 hz) n9 nd9 [(_, _), (_, _), (_, _), (cb, oc)] (by decide) (by decide) (by decide) h1 (fml O1.1.1.symm (fml O1.1.2.1.symm (fml O1.1.2.2.symm (fml h2 (fun _ h => nomatch h))))) (fml O1.2.1.1.symm (fml O1.2.1.2.1.symm (fml O1.2.1.2.2.symm (fml h3 (fun _ h => nomatch h)))))) ?x1 ?x2 ?x3 ?x4 ?x5 ?x6 ?x7 ?x8 ?_; (case x1 => k_asm); (case x2 => k_asm); (case x3 => k_asm); (case x4 => (rename News h₀ L _ _ => N7; ((repeat' (refine List.forall_mem_cons.mpr ⟨N7 _ (by k_mem), ?_⟩)); exact List.forall_mem_nil _))); (case x5 => k_asm); (case x6 => first | exact rfl | assumption); (case x7 => ktr_room); (case x8 => ktr_units); (intro r7 nw7 h7 tk7 F7 N7 hR; obtain ⟨i7, t7, tc7, n7, vs7, ns7, nd7, e9, hj0, hj1, hI7, hz7, e8⟩ := hR; subst e9; subst e8)))
  k_with "CompEnd" => (k_dflt (refine' LCg.CompEnd.intro (by assumption) (by assumption) [(bx, _), (dr, _), (cb, oc)] ?sub ?off ?src ?_; (case sub => ((repeat' (refine List.forall_mem_cons.mpr ⟨by k_mem, ?_⟩)); exact List.forall_mem_nil _)); (case off => ((rename LCg.Off3 _ _ _ _ => O1); exact O1)); (case src => exact True.intro)))
  k_with "MNEXT" => ((rename News h₀ L _ _ => N7); (rename Fr h₀ L _ _ => F7); (rename LCg.Off1 _ _ => O1); refine' k2 _ _ _ _ _ _ _ _ _ _ _ hI7 ?a ?b ?c O1.1 O1.2.1 O1.2.2.1 _ _ F7 ?g; (case g => ((repeat' (refine List.forall_mem_cons.mpr ⟨N7 _ (by k_mem), ?_⟩)); exact List.forall_mem_nil _)); (case a => exact Nat.lt_of_le_of_lt hz7 (Nat.lt_of_le_of_lt hz9 hz)); (case b => (rw [rep_len]; omega)); (case c => (rw [rep_len]; omega)))
  walk_at "G steps"
  run_tac Mine.Sh.fin
end
-- E17
section
open PySem.SeqAt
theorem wpG_Subscript {M : Model} {A : Around} {E : Value → Shared → Prop} {s : Shared} {env : Env} {value slice : Expr} {pos : Pos} {Q : Value → Shared → Prop}
    (h : wpG M A (eval value env) (fun o s₁ => wpAny M A (eval slice env) (fun i s₂ => wpAny M A (subscriptTail value slice o i) Q E s₂) E s₁) E s) :
    wpG M A (eval (.Subscript value slice pos) env) Q E s := by
  rw [eval_Subscript]
  exact wpG_seq h fun o s₁ h₁ => wpG_seq (wpG_holding (wpG_any h₁)) fun i s₂ h₂ => wpG_bind (wpG_standAt (wpG_any h₂))
theorem chello_len {ra xp xq : List Int} (h : ra.length = 8) : (chello ra xp xq).length = 20 + xp.length + xq.length := by
  simp only [chello, msg_length, List.length_append, fld_length, h]; omega
theorem mvT0 {h₀ h : Heap} {L : Addr} {b e  : Addr × Obj} {l : List (Addr × Obj)} (N : News h₀ L h (b :: e :: l)) : News h₀ L h (b :: e :: l) := fun q hq => N q (by revert hq; revert q; repeat' (first | exact List.Mem.head _ | exact fun _ h => h | exact fun _ h => List.mem_append_left _ h | exact List.forall_mem_nil _ | refine mem_step ?_ ?_ | refine app_step ?_ ?_ | refine List.Mem.tail _ ?_ | refine sub_tail ?_ | refine sub_right ?_ | refine List.mem_append_right _ ?_))
theorem mvT1 {h₀ h : Heap} {L : Addr} {b e a0 : Addr × Obj} {l : List (Addr × Obj)} (N : News h₀ L h (a0 :: b :: e :: l)) : News h₀ L h (b :: e :: a0 :: l) := fun q hq => N q (by revert hq; revert q; repeat' (first | exact List.Mem.head _ | exact fun _ h => h | exact fun _ h => List.mem_append_left _ h | exact List.forall_mem_nil _ | refine mem_step ?_ ?_ | refine app_step ?_ ?_ | refine List.Mem.tail _ ?_ | refine sub_tail ?_ | refine sub_right ?_ | refine List.mem_append_right _ ?_))
theorem mvT2 {h₀ h : Heap} {L : Addr} {b e a0 a1 : Addr × Obj} {l : List (Addr × Obj)} (N : News h₀ L h (a0 :: a1 :: b :: e :: l)) : News h₀ L h (b :: e :: a0 :: a1 :: l) := fun q hq => N q (by revert hq; revert q; repeat' (first | exact List.Mem.head _ | exact fun _ h => h | exact fun _ h => List.mem_append_left _ h | exact List.forall_mem_nil _ | refine mem_step ?_ ?_ | refine app_step ?_ ?_ | refine List.Mem.tail _ ?_ | refine sub_tail ?_ | refine sub_right ?_ | refine List.mem_append_right _ ?_))
theorem mvT3 {h₀ h : Heap} {L : Addr} {b e a0 a1 a2 : Addr × Obj} {l : List (Addr × Obj)} (N : News h₀ L h (a0 :: a1 :: a2 :: b :: e :: l)) : News h₀ L h (b :: e :: a0 :: a1 :: a2 :: l) := fun q hq => N q (by revert hq; revert q; repeat' (first | exact List.Mem.head _ | exact fun _ h => h | exact fun _ h => List.mem_append_left _ h | exact List.forall_mem_nil _ | refine mem_step ?_ ?_ | refine app_step ?_ ?_ | refine List.Mem.tail _ ?_ | refine sub_tail ?_ | refine sub_right ?_ | refine List.mem_append_right _ ?_))
theorem mvT4 {h₀ h : Heap} {L : Addr} {b e a0 a1 a2 a3 : Addr × Obj} {l : List (Addr × Obj)} (N : News h₀ L h (a0 :: a1 :: a2 :: a3 :: b :: e :: l)) : News h₀ L h (b :: e :: a0 :: a1 :: a2 :: a3 :: l) := fun q hq => N q (by revert hq; revert q; repeat' (first | exact List.Mem.head _ | exact fun _ h => h | exact fun _ h => List.mem_append_left _ h | exact List.forall_mem_nil _ | refine mem_step ?_ ?_ | refine app_step ?_ ?_ | refine List.Mem.tail _ ?_ | refine sub_tail ?_ | refine sub_right ?_ | refine List.mem_append_right _ ?_))
theorem mvT5 {h₀ h : Heap} {L : Addr} {b e a0 a1 a2 a3 a4 : Addr × Obj} {l : List (Addr × Obj)} (N : News h₀ L h (a0 :: a1 :: a2 :: a3 :: a4 :: b :: e :: l)) : News h₀ L h (b :: e :: a0 :: a1 :: a2 :: a3 :: a4 :: l) := fun q hq => N q (by revert hq; revert q; repeat' (first | exact List.Mem.head _ | exact fun _ h => h | exact fun _ h => List.mem_append_left _ h | exact List.forall_mem_nil _ | refine mem_step ?_ ?_ | refine app_step ?_ ?_ | refine List.Mem.tail _ ?_ | refine sub_tail ?_ | refine sub_right ?_ | refine List.mem_append_right _ ?_))
theorem mvT6 {h₀ h : Heap} {L : Addr} {b e a0 a1 a2 a3 a4 a5 : Addr × Obj} {l : List (Addr × Obj)} (N : News h₀ L h (a0 :: a1 :: a2 :: a3 :: a4 :: a5 :: b :: e :: l)) : News h₀ L h (b :: e :: a0 :: a1 :: a2 :: a3 :: a4 :: a5 :: l) := fun q hq => N q (by revert hq; revert q; repeat' (first | exact List.Mem.head _ | exact fun _ h => h | exact fun _ h => List.mem_append_left _ h | exact List.forall_mem_nil _ | refine mem_step ?_ ?_ | refine app_step ?_ ?_ | refine List.Mem.tail _ ?_ | refine sub_tail ?_ | refine sub_right ?_ | refine List.mem_append_right _ ?_))
theorem mvT7 {h₀ h : Heap} {L : Addr} {b e a0 a1 a2 a3 a4 a5 a6 : Addr × Obj} {l : List (Addr × Obj)} (N : News h₀ L h (a0 :: a1 :: a2 :: a3 :: a4 :: a5 :: a6 :: b :: e :: l)) : News h₀ L h (b :: e :: a0 :: a1 :: a2 :: a3 :: a4 :: a5 :: a6 :: l) := fun q hq => N q (by revert hq; revert q; repeat' (first | exact List.Mem.head _ | exact fun _ h => h | exact fun _ h => List.mem_append_left _ h | exact List.forall_mem_nil _ | refine mem_step ?_ ?_ | refine app_step ?_ ?_ | refine List.Mem.tail _ ?_ | refine sub_tail ?_ | refine sub_right ?_ | refine List.mem_append_right _ ?_))
theorem mvT8 {h₀ h : Heap} {L : Addr} {b e a0 a1 a2 a3 a4 a5 a6 a7 : Addr × Obj} {l : List (Addr × Obj)} (N : News h₀ L h (a0 :: a1 :: a2 :: a3 :: a4 :: a5 :: a6 :: a7 :: b :: e :: l)) : News h₀ L h (b :: e :: a0 :: a1 :: a2 :: a3 :: a4 :: a5 :: a6 :: a7 :: l) := fun q hq => N q (by revert hq; revert q; repeat' (first | exact List.Mem.head _ | exact fun _ h => h | exact fun _ h => List.mem_append_left _ h | exact List.forall_mem_nil _ | refine mem_step ?_ ?_ | refine app_step ?_ ?_ | refine List.Mem.tail _ ?_ | refine sub_tail ?_ | refine sub_right ?_ | refine List.mem_append_right _ ?_))
theorem mvT9 {h₀ h : Heap} {L : Addr} {b e a0 a1 a2 a3 a4 a5 a6 a7 a8 : Addr × Obj} {l : List (Addr × Obj)} (N : News h₀ L h (a0 :: a1 :: a2 :: a3 :: a4 :: a5 :: a6 :: a7 :: a8 :: b :: e :: l)) : News h₀ L h (b :: e :: a0 :: a1 :: a2 :: a3 :: a4 :: a5 :: a6 :: a7 :: a8 :: l) := fun q hq => N q (by revert hq; revert q; repeat' (first | exact List.Mem.head _ | exact fun _ h => h | exact fun _ h => List.mem_append_left _ h | exact List.forall_mem_nil _ | refine mem_step ?_ ?_ | refine app_step ?_ ?_ | refine List.Mem.tail _ ?_ | refine sub_tail ?_ | refine sub_right ?_ | refine List.mem_append_right _ ?_))
theorem mvT10 {h₀ h : Heap} {L : Addr} {b e a0 a1 a2 a3 a4 a5 a6 a7 a8 a9 : Addr × Obj} {l : List (Addr × Obj)} (N : News h₀ L h (a0 :: a1 :: a2 :: a3 :: a4 :: a5 :: a6 :: a7 :: a8 :: a9 :: b :: e :: l)) : News h₀ L h (b :: e :: a0 :: a1 :: a2 :: a3 :: a4 :: a5 :: a6 :: a7 :: a8 :: a9 :: l) := fun q hq => N q (by revert hq; revert q; repeat' (first | exact List.Mem.head _ | exact fun _ h => h | exact fun _ h => List.mem_append_left _ h | exact List.forall_mem_nil _ | refine mem_step ?_ ?_ | refine app_step ?_ ?_ | refine List.Mem.tail _ ?_ | refine sub_tail ?_ | refine sub_right ?_ | refine List.mem_append_right _ ?_))
theorem mvT11 {h₀ h : Heap} {L : Addr} {b e a0 a1 a2 a3 a4 a5 a6 a7 a8 a9 a10 : Addr × Obj} {l : List (Addr × Obj)} (N : News h₀ L h (a0 :: a1 :: a2 :: a3 :: a4 :: a5 :: a6 :: a7 :: a8 :: a9 :: a10 :: b :: e :: l)) : News h₀ L h (b :: e :: a0 :: a1 :: a2 :: a3 :: a4 :: a5 :: a6 :: a7 :: a8 :: a9 :: a10 :: l) := fun q hq => N q (by revert hq; revert q; repeat' (first | exact List.Mem.head _ | exact fun _ h => h | exact fun _ h => List.mem_append_left _ h | exact List.forall_mem_nil _ | refine mem_step ?_ ?_ | refine app_step ?_ ?_ | refine List.Mem.tail _ ?_ | refine sub_tail ?_ | refine sub_right ?_ | refine List.mem_append_right _ ?_))
theorem mvT12 {h₀ h : Heap} {L : Addr} {b e a0 a1 a2 a3 a4 a5 a6 a7 a8 a9 a10 a11 : Addr × Obj} {l : List (Addr × Obj)} (N : News h₀ L h (a0 :: a1 :: a2 :: a3 :: a4 :: a5 :: a6 :: a7 :: a8 :: a9 :: a10 :: a11 :: b :: e :: l)) : News h₀ L h (b :: e :: a0 :: a1 :: a2 :: a3 :: a4 :: a5 :: a6 :: a7 :: a8 :: a9 :: a10 :: a11 :: l) := fun q hq => N q (by revert hq; revert q; repeat' (first | exact List.Mem.head _ | exact fun _ h => h | exact fun _ h => List.mem_append_left _ h | exact List.forall_mem_nil _ | refine mem_step ?_ ?_ | refine app_step ?_ ?_ | refine List.Mem.tail _ ?_ | refine sub_tail ?_ | refine sub_right ?_ | refine List.mem_append_right _ ?_))
theorem line_E17 : True := by
  w_top off
  run_tac Mine.Sh.keep 25
  k_with "k_ne" => (first | assumption | exact Ne.symm (by assumption) | exact ne_cls (by k_asm) (by k_mem) (by k_mem) (by rfl) | (show @Ne Nat _ _; omega))
  k_with "k_all" => (assumption)
  k_with "M off" => ((repeat (first | assumption | exact List.forall_mem_nil _ | (refine List.forall_mem_cons.mpr ⟨?_, ?_⟩; · (dsimp only; k_ne)))))
  k_with "wpG" => (((with_reducible show wpG _ _ (exec (Stmt.If _ _ _ _) _) _ _ _); (refine wpG_any ?_)))
  k_with "CompSrc" => ((k_here; k_dflt (refine LCg.CompSrc.range (by rfl) (by k_asm) (by k_asm) (by assumption) (by first | decide | rfl) (by first | rfl | decide) (by first | size_fits | exact Nat.le_of_ble_eq_true rfl) ?_; intro g'; lcg_lit)))
  k_with "CompRest" => (k_dflt (first
      | (refine LCg.CompRest.succ ?_; intro v' I' oI' C' oC' D' m' h' tk' E' hv' hC' hx' F' N' off' ne'; (first | lcg_open hv' | (obtain ⟨t9', hv9'⟩ := hv'; subst hv9')); (try simp only [LCg.Off3, and_true] at off'))
      | refine LCg.CompRest.zero ?_))
  k_with "M mv" => ((first | exact mvT0 (by k_asm) | exact mvT1 (by k_asm) | exact mvT2 (by k_asm) | exact mvT3 (by k_asm) | exact mvT4 (by k_asm) | exact mvT5 (by k_asm) | exact mvT6 (by k_asm) | exact mvT7 (by k_asm) | exact mvT8 (by k_asm) | exact mvT9 (by k_asm) | exact mvT10 (by k_asm) | exact mvT11 (by k_asm) | exact mvT12 (by k_asm)))
  k_with "M lt100" => ((first | omega | (simp only [List.length_take, List.length_map] at *; omega)))
  k_with "call ref" => ((k_here; (with_reducible show wpAny _ _ (call (Value.ref 339) _) _ _ _); k_extra "M339"))
  k_with "call builtin:len" => ((k_here; (with_reducible show wpAny _ _ (call (Value.builtin "len") [Value.bytes _ _]) _ _ _); k_dflt (refine KBw.len_K (by assumption) (by (rw [sizeLine_eq]; omega)) ?_)))
  k_with "wpG" => (first
      | ((with_reducible show wpG _ _ (eval (Expr.Subscript (Expr.Subscript (Expr.Call _ _ _ _) _ _) _ _) _) _ _ _); (with_reducible refine wpG_Subscript ?_))
      | ((with_reducible show wpG _ _ (eval (Expr.Subscript (Expr.Call _ _ _ _) _ _) _) _ _ _); (with_reducible refine wpG_Subscript ?_)))
  k_with "G call" => (((with_reducible show wpG _ _ (call (Value.ref 346) _) _ _ _); k_dflt (refine wpG_any ?_; k_extra "M346")))
  k_with "wpG" => (((with_reducible show wpG _ _ (call (Value.ref 346) _) _ _ _); walk_at "G call"))
  k_with "G call" => (((with_reducible show wpG _ _ (call (Value.ref 206) _) _ _ _); k_dflt (k_extra "M206")))
  k_with "wpG" => (((with_reducible show wpG _ _ (call (Value.ref 206) _) _ _ _); walk_at "G call"))
  k_with "wpG" => (((with_reducible show wpG _ _ (execs (Stmt.Assign [Expr.Name (Str.ofString "server") _] _ _ :: _) _) _ _ _); k_dflt (k_extra "MNEXT")))
  trivial
theorem law_2 (w : World) (dp un : Nat) (gd : Option (List Code)) (cb L a : Addr) (ccd : Value) (mean : ExcName → Option Value) (mg mb : Str → Option Value) (h₀ : Heap) (s : Shared) (Q : Flow → Shared → Prop) (C : LawCtx w dp un cb L mean mg mb h₀ s Q) (bx dr pp : Addr) (b0 b1 : Array UInt8) (tc t0 t1 : Tok) (vs : List Value) (ns : List Int) (hI : IntsAre vs ns) (hz : vs.length < 100) (n nd np : Nat) (oc : Obj) (hoc : oc.data = .cell (some (.ref bx))) (m0 : Str → Option Value) (h1 : dr ≠ bx) (h2 : cb ≠ bx) (h3 : cb ≠ dr) (h4 : bx ≠ pp) (h5 : dr ≠ pp) (h6 : cb ≠ pp) (hb0 : (KBw.bInts b0).length < 30)
    (k2 : ∀ lv tl bh th bv tc vs ns n nd, IntsAre vs ns → vs.length < 100 → KBw.bInts bh = chello CR [104, 51] (KBw.bInts b0) → 17 + ((KBw.bInts b0).length : Int) ≤ lv → lv < 20 + ((KBw.bInts b0).length : Int) → LawAt 5 w dp un gd cb L a ccd mean mg mb h₀ s Q (fun z => if z = Str.ofString "least" then some (.int lv tl) else if z = Str.ofString "hello" then some (.bytes bh th) else if z = Str.ofString "before" then some bv else if z = Str.ofString "params" then some (.ref pp) else m0 z) ((pp, W.listOf #[.bytes b0 t0, .bytes b1 t1] np) :: (bx, W.listOf #[.ref dr, .int 3 tc] n) :: (dr, W.listOf vs.toArray nd) :: (cb, oc) :: [])) :
    LawAt 2 w dp un gd cb L a ccd mean mg mb h₀ s Q (fun z => if z = Str.ofString "params" then some (.ref pp) else m0 z) ((pp, W.listOf #[.bytes b0 t0, .bytes b1 t1] np) :: (bx, W.listOf #[.ref dr, .int 2 tc] n) :: (dr, W.listOf vs.toArray nd) :: (cb, oc) :: []) := by
  run_tac Mine.Sh.mark
  obtain ⟨X, B, T, hd1, hu1, hdone⟩ := C
  unfold LawAt
  revert X
  k_fill
  intro X h tk F N
  dsimp only [lawBody, List.drop]
  k_with "M346" => (refine' useL (c_side_c w _ _ _ _ _ _) ?x1 ?x2 ?x3 ?x4 ?x5 ?x6 ?x7 ?x8 ?_; (case x1 => k_asm); (case x2 => k_asm); (case x3 => k_asm); (case x4 => k_asm); (case x5 => k_asm); (case x6 => first | exact rfl | assumption); (case x7 => ktr_room); (case x8 => ktr_units); (intro r9 nw9 h9 tk9 F9 N9 hR; obtain ⟨tt8, x8, d8, cf8, p8, ka8, eva8, dl8, br8, tr8, c18, c28, c38, c48, tm8, tro8, ts8, tra8, tlo8, tc8, ocfg8, oky8, e9, row8, hcfg8, hky8, hbr8, e8⟩ := hR; subst e9; subst e8; have ap8 := row8.ap; have off8 := row8.off; have hcl8 : (KBw.bInts br8).length = 8 := (by rw [hbr8]; rfl)))
  k_with "M206" => (refine' useG (c_begin w tt8 x8 d8 cf8 p8 _ _ _ _ _ _ _ _ _ _ _ _ _ _ _ _ _ _ _ _ _ #[104, 51] _ [104, 51] _ _ _ _ hcfg8 rfl (by rfl) rfl hcl8 (by decide) (by omega) ap8.xd ap8.cd ap8.pd (fml ap8.kd (fml ap8.ed (fml ap8.ld (fun q hq => off8 q hq d8 (by simp)))))) ?x1 ?x2 ?x3 ?x4 ?x5 ?x6 ?x7 ?x8 ?_; (case x1 => k_asm); (case x2 => k_asm); (case x3 => k_asm); (case x4 => k_asm); (case x5 => k_asm); (case x6 => first | exact rfl | assumption); (case x7 => ktr_room); (case x8 => ktr_units); (intro r9 nw9 h9 tk9 F9 N9 hR; obtain ⟨S7, n7, P7, bh7, th7, tq7, k7, ts7, e9, hB7, hS7, hP7, hpS7, hpP7, e8⟩ := hR; subst e9; subst e8; have hL7 := congrArg List.length hB7; rw [chello_len hcl8] at hL7; rw [hbr8] at hB7; simp only [List.length_cons, List.length_nil] at hL7; obtain ⟨hk7, hG7⟩ : ∃ z, z = KBw.bInts bh7 := ⟨_, rfl⟩; rw [← hG7] at hL7; replace hG7 := hG7.symm))
  k_with "M339" => (refine' useL (c_ltake w bx dr 2 3 tc _ vs ns hI hz n nd [(pp, W.listOf #[.bytes b0 t0, .bytes b1 t1] np), (cb, oc)] (by decide) (by decide) (by decide) h1 (fml h4.symm (fml h2 (fun _ h => nomatch h))) (fml h5.symm (fml h3 (fun _ h => nomatch h)))) ?x1 ?x2 ?x3 ?x4 ?x5 ?x6 ?x7 ?x8 ?_; (case x1 => k_asm); (case x2 => k_asm); (case x3 => k_asm); (case x4 => (rename News h₀ L _ _ => N7; ((repeat' (refine List.forall_mem_cons.mpr ⟨N7 _ (by k_mem), ?_⟩)); first | exact List.forall_mem_nil _ | (intro q hq; exact N7 q (by simp [hq]))))); (case x5 => k_asm); (case x6 => first | exact rfl | assumption); (case x7 => ktr_room); (case x8 => ktr_units); (intro r9 nw9 h9 tk9 F9 N9 hR; obtain ⟨i9, t9, tc9, n9, vs9, ns9, nd9, e9, hi0, hi1, hI9, hz9, e8⟩ := hR; subst e9; subst e8))
  k_with "MNEXT" => (rename News h₀ L _ _ => N7; rename Fr h₀ L _ _ => F7; refine' k2 _ _ _ _ _ _ _ _ _ _ hI9 ?a hB7 ?b ?c _ _ F7 ?g; (case g => ((repeat' (refine List.forall_mem_cons.mpr ⟨N7 _ (by k_mem), ?_⟩)); first | exact List.forall_mem_nil _ | (intro q hq; exact N7 q (by simp [hq])))); (case a => omega); (case b => omega); (case c => omega))
  walk_at "G steps"
  run_tac Mine.Sh.fin
end
-- E18
section
open PySem.SeqAt
theorem chello_msg (ra xp xq : List Int) : chello ra xp xq = msg 1 (fld ra ++ fld (fld xp) ++ fld xq) := by simp [chello]
theorem chello_body {ra xp xq : List Int} (h : ra.length = 8) : (fld ra ++ fld (fld xp) ++ fld xq).length = 16 + xp.length + xq.length := by
  simp only [List.length_append, fld_length, h]; omega
theorem useT {d : Nat} {w : World} {f : Addr} {vs : List Value} {news : List (Addr × Obj)} {R : Value → List (Addr × Obj) → Prop} (C : ConT d w f vs news R) {mean : ExcName → Option Value} {mg mb : Str → Option Value} {dp un : Nat} {gd : Option (List Code)} {cn : Str} {cs : Scope} {a : Addr} {ccd : Value} {cl : List (Str × Addr)} {A₀ : Around} {base h₀ : Heap} {L : Addr} {m : Str → Option Value} {s : Shared} {Q E : Value → Shared → Prop}
   (x1 : (hd.heap_39 w.params).In h₀) (x2 : Below A₀ base [] h₀) (x3 : Fr h₀ L s.heap m) (x4 : News h₀ L s.heap news) (x5 : Top hd.view_39 (looseW hd.view_39 [Str.ofString "SUM_PRIME", Str.ofString "AWAITED"]) mean mg mb h₀) (x6 : cs.kind = .function) (x7 : dp + d < recursionLimit) (x8 : un + 8 * d < cLine)
   (y1 : (hd.heap_39 w.params).In base) (y2 : Top hd.view_39 (looseW hd.view_39 [Str.ofString "SUM_PRIME", Str.ofString "AWAITED"]) mean mg mb base)
   (k : ∀ (r : Value) (nw : List (Addr × Obj)) (h' : Heap) (tk' : Nat), Fr h₀ L h' m → News h₀ L h' nw → R r nw → Q r { s with heap := h', toks := tk' }) :
   wpAny (model Challenge.rw_pf0268_01.row.prog w) (ktrTop dp un gd cn cs L a ccd cl []) (call (.ref f) vs) Q E s := C _ _ _ _ _ _ _ _ _ _ _ _ _ _ _ _ _ _ _ x1 x2 x3 x4 x5 x6 x7 x8 y1 y2 k
theorem line_E18 : True := by
  w_top off
  run_tac Mine.Sh.keep 25
  k_with "ite" => ((k_here; k_openite; k_dflt (first
      | refine ite_neg (by (simp only [bne_iff_ne, beq_iff_eq, ne_eq, decide_eq_true_eq]; omega)) ?_
      | refine ite_pos (by (simp only [bne_iff_ne, beq_iff_eq, ne_eq, decide_eq_true_eq]; omega)) ?_)))
  k_with "k_ne" => (first | assumption | exact Ne.symm (by assumption) | exact ne_cls (by k_asm) (by k_mem) (by k_mem) (by rfl) | (show @Ne Nat _ _; omega))
  k_with "k_all" => (assumption)
  k_with "M off" => ((repeat (first | assumption | exact List.forall_mem_nil _ | (refine List.forall_mem_cons.mpr ⟨?_, ?_⟩; · (dsimp only; k_ne)))))
  k_with "wpG" => (((with_reducible show wpG _ _ (exec (Stmt.If _ _ _ _) _) _ _ _); (refine wpG_any ?_)))
  k_with "CompSrc" => ((k_here; k_dflt (refine LCg.CompSrc.range (by rfl) (by k_asm) (by k_asm) (by assumption) (by first | decide | rfl) (by first | rfl | decide) (by first | size_fits | exact Nat.le_of_ble_eq_true rfl) ?_; intro g'; lcg_lit)))
  k_with "CompRest" => (k_dflt (first
      | (refine LCg.CompRest.succ ?_; intro v' I' oI' C' oC' D' m' h' tk' E' hv' hC' hx' F' N' off' ne'; (first | lcg_open hv' | (obtain ⟨t9', hv9'⟩ := hv'; subst hv9')); (try simp only [LCg.Off3, and_true] at off'))
      | refine LCg.CompRest.zero ?_))
  k_with "M mv" => ((first | exact mvT0 (by k_asm) | exact mvT1 (by k_asm) | exact mvT2 (by k_asm) | exact mvT3 (by k_asm) | exact mvT4 (by k_asm) | exact mvT5 (by k_asm) | exact mvT6 (by k_asm) | exact mvT7 (by k_asm) | exact mvT8 (by k_asm) | exact mvT9 (by k_asm) | exact mvT10 (by k_asm) | exact mvT11 (by k_asm) | exact mvT12 (by k_asm)))
  k_with "M lt100" => ((first | omega | (simp only [List.length_take, List.length_map] at *; omega)))
  k_with "call ref" => ((k_here; (with_reducible show wpAny _ _ (call (Value.ref 339) _) _ _ _); k_extra "M339"))
  k_with "call builtin:len" => ((k_here; (with_reducible show wpAny _ _ (call (Value.builtin "len") [Value.bytes _ _]) _ _ _); k_dflt (refine KBw.len_K (by assumption) (by (rw [sizeLine_eq]; omega)) ?_)))
  k_with "wpG" => (first
      | ((with_reducible show wpG _ _ (eval (Expr.Subscript (Expr.Subscript (Expr.Call _ _ _ _) _ _) _ _) _) _ _ _); (with_reducible refine wpG_Subscript ?_))
      | ((with_reducible show wpG _ _ (eval (Expr.Subscript (Expr.Call _ _ _ _) _ _) _) _ _ _); (with_reducible refine wpG_Subscript ?_)))
  k_with "G call" => (((with_reducible show wpG _ _ (call (Value.ref 346) _) _ _ _); k_dflt (refine wpG_any ?_; k_extra "M346")))
  k_with "wpG" => (((with_reducible show wpG _ _ (call (Value.ref 346) _) _ _ _); walk_at "G call"))
  k_with "G call" => (((with_reducible show wpG _ _ (call (Value.ref 206) _) _ _ _); k_dflt (k_extra "M206")))
  k_with "wpG" => (((with_reducible show wpG _ _ (call (Value.ref 206) _) _ _ _); walk_at "G call"))
  k_with "G call" => (((with_reducible show wpG _ _ (call (Value.ref 353) _) _ _ _); k_dflt (refine wpG_any ?_; k_extra "M353")))
  k_with "wpG" => (((with_reducible show wpG _ _ (call (Value.ref 353) _) _ _ _); walk_at "G call"))
  trivial
theorem law_3r (w : World) (dp un : Nat) (gd : Option (List Code)) (cb L a : Addr) (ccd : Value) (mean : ExcName → Option Value) (mg mb : Str → Option Value) (h₀ : Heap) (s : Shared) (Q : Flow → Shared → Prop) (C : LawCtx w dp un cb L mean mg mb h₀ s Q) (bx dr pp : Addr) (b0 b1 bh : Array UInt8) (tc t0 t1 tl th : Tok) (lv : Int) (bv : Value) (ra : List Int) (vs : List Value) (ns : List Int) (hI : IntsAre vs ns) (hz : vs.length < 100) (n nd np : Nat) (oc : Obj) (hoc : oc.data = .cell (some (.ref bx))) (m0 : Str → Option Value) (h1 : dr ≠ bx) (h2 : cb ≠ bx) (h3 : cb ≠ dr) (h4 : bx ≠ pp) (h5 : dr ≠ pp) (h6 : cb ≠ pp) (hb0 : (KBw.bInts b0).length < 30) (hb1 : (KBw.bInts b1).length < 30) (hra : ra.length = 8) (hB : KBw.bInts bh = chello ra [104, 51] (KBw.bInts b0)) (hl : lv < 18 + ((KBw.bInts b0).length : Int)) (hl0 : 0 ≤ lv) :
    LawAt 5 w dp un gd cb L a ccd mean mg mb h₀ s Q (fun z => if z = Str.ofString "least" then some (.int lv tl) else if z = Str.ofString "hello" then some (.bytes bh th) else if z = Str.ofString "before" then some bv else if z = Str.ofString "params" then some (.ref pp) else m0 z) ((pp, W.listOf #[.bytes b0 t0, .bytes b1 t1] np) :: (bx, W.listOf #[.ref dr, .int 3 tc] n) :: (dr, W.listOf vs.toArray nd) :: (cb, oc) :: []) := by
  run_tac Mine.Sh.mark
  obtain ⟨ks, hks⟩ : ∃ ks, ks = chello ra [104, 51] (KBw.bInts b0) := ⟨_, rfl⟩
  rw [← hks] at hB
  have hkl : ks.length = 22 + (KBw.bInts b0).length := by rw [hks, chello_len hra]; simp only [List.length_cons, List.length_nil]
  have hbl : (fld ra ++ fld (fld [104, 51]) ++ fld (KBw.bInts b0)).length = 18 + (KBw.bInts b0).length := by rw [chello_body hra]; simp only [List.length_cons, List.length_nil]
  obtain ⟨X, B, T, hd1, hu1, hdone⟩ := C
  unfold LawAt
  revert X
  k_fill
  intro X h tk F N
  dsimp only [lawBody, List.drop]
  k_with "M346" => (refine' useL (c_side_s w _ _ _ _ _ _) ?x1 ?x2 ?x3 ?x4 ?x5 ?x6 ?x7 ?x8 ?_; (case x1 => k_asm); (case x2 => k_asm); (case x3 => k_asm); (case x4 => k_asm); (case x5 => k_asm); (case x6 => first | exact rfl | assumption); (case x7 => ktr_room); (case x8 => ktr_units); (intro r9 nw9 h9 tk9 F9 N9 hR; obtain ⟨tt8, x8, d8, cf8, p8, ka8, eva8, dl8, br8, tr8, c18, c28, c38, c48, tm8, tro8, ts8, tra8, tlo8, tc8, ocfg8, oky8, e9, row8, hcfg8, hky8, hbr8, e8⟩ := hR; subst e9; subst e8; have ap8 := row8.ap; have off8 := row8.off))
  k_with "M353" => (refine' useT (c_taken_refused w (check_0 w) tt8 x8 d8 cf8 eva8 _ _ _ _ _ _ _ _ _ _ _ _ _ _ _ _ _ _ _ _ _ #[] bh ks _ 1 lv ocfg8 #[] 0 ((p8, _) :: (ka8, _) :: (dl8, _) :: (pp, W.listOf #[.bytes b0 t0, .bytes b1 t1] np) :: (bx, W.listOf #[.ref dr, .int 3 tc] n) :: (dr, W.listOf vs.toArray nd) :: (cb, oc) :: []) hcfg8 (by rfl) hB (hks.trans (chello_msg _ _ _)) (by decide) (by decide) (by omega) (by omega) (by decide) ap8.xd ap8.cd ap8.ed (fml ap8.pd (fml ap8.kd (fml ap8.ld (fun q hq => off8 q hq d8 (by simp)))))) ?x1 ?x2 ?x3 ?x4 ?x5 ?x6 ?x7 ?x8 ?y1 ?y2 ?_; (case x1 => k_asm); (case x2 => k_asm); (case x3 => k_asm); (case x4 => (rename News h₀ L _ _ => N7; ((repeat' (refine List.forall_mem_cons.mpr ⟨N7 _ (by k_mem), ?_⟩)); first | exact List.forall_mem_nil _ | (intro q hq; exact N7 q (by simp [hq]))))); (case x5 => k_asm); (case x6 => first | exact rfl | assumption); (case x7 => ktr_room); (case x8 => ktr_units); (case y1 => k_asm); (case y2 => k_asm); (intro r9 nw9 h9 tk9 F9 N9 hR; obtain ⟨t7, bl7, tl7, e9, e8⟩ := hR; subst e9; subst e8))
  walk_at "G steps"
  all_goals (rename Fr h₀ L _ _ => F7; (show Q (.ret (.bool (Str.ofString "refused" == Str.ofString "refused"))) _); rw [beq_self_eq_true]; exact hdone _ _ _ F7)
  run_tac Mine.Sh.fin
end
-- E19
section
open PySem.SeqAt
theorem line_E19 : True := by
  w_top off
  run_tac Mine.Sh.keep 25
  k_with "ite" => ((k_here; k_openite; k_dflt (first
      | refine ite_neg (by (simp only [bne_iff_ne, beq_iff_eq, ne_eq, decide_eq_true_eq]; omega)) ?_
      | refine ite_pos (by (simp only [bne_iff_ne, beq_iff_eq, ne_eq, decide_eq_true_eq]; omega)) ?_)))
  k_with "k_ne" => (first | assumption | exact Ne.symm (by assumption) | exact ne_cls (by k_asm) (by k_mem) (by k_mem) (by rfl) | (show @Ne Nat _ _; omega))
  k_with "k_all" => (assumption)
  k_with "M off" => ((repeat (first | assumption | exact List.forall_mem_nil _ | (refine List.forall_mem_cons.mpr ⟨?_, ?_⟩; · (dsimp only; k_ne)))))
  k_with "wpG" => (((with_reducible show wpG _ _ (exec (Stmt.If _ _ _ _) _) _ _ _); (refine wpG_any ?_)))
  k_with "CompSrc" => ((k_here; k_dflt (refine LCg.CompSrc.range (by rfl) (by k_asm) (by k_asm) (by assumption) (by first | decide | rfl) (by first | rfl | decide) (by first | size_fits | exact Nat.le_of_ble_eq_true rfl) ?_; intro g'; lcg_lit)))
  k_with "CompRest" => (k_dflt (first
      | (refine LCg.CompRest.succ ?_; intro v' I' oI' C' oC' D' m' h' tk' E' hv' hC' hx' F' N' off' ne'; (first | lcg_open hv' | (obtain ⟨t9', hv9'⟩ := hv'; subst hv9')); (try simp only [LCg.Off3, and_true] at off'))
      | refine LCg.CompRest.zero ?_))
  k_with "M mv" => ((first | exact mvT0 (by k_asm) | exact mvT1 (by k_asm) | exact mvT2 (by k_asm) | exact mvT3 (by k_asm) | exact mvT4 (by k_asm) | exact mvT5 (by k_asm) | exact mvT6 (by k_asm) | exact mvT7 (by k_asm) | exact mvT8 (by k_asm) | exact mvT9 (by k_asm) | exact mvT10 (by k_asm) | exact mvT11 (by k_asm) | exact mvT12 (by k_asm)))
  k_with "M lt100" => ((first | omega | (simp only [List.length_take, List.length_map] at *; omega)))
  k_with "call ref" => ((k_here; (with_reducible show wpAny _ _ (call (Value.ref 339) _) _ _ _); k_extra "M339"))
  k_with "call builtin:len" => ((k_here; (with_reducible show wpAny _ _ (call (Value.builtin "len") [Value.bytes _ _]) _ _ _); k_dflt (refine KBw.len_K (by assumption) (by (rw [sizeLine_eq]; omega)) ?_)))
  k_with "wpG" => (first
      | ((with_reducible show wpG _ _ (eval (Expr.Subscript (Expr.Subscript (Expr.Call _ _ _ _) _ _) _ _) _) _ _ _); (with_reducible refine wpG_Subscript ?_))
      | ((with_reducible show wpG _ _ (eval (Expr.Subscript (Expr.Call _ _ _ _) _ _) _) _ _ _); (with_reducible refine wpG_Subscript ?_)))
  k_with "G call" => (((with_reducible show wpG _ _ (call (Value.ref 346) _) _ _ _); k_dflt (refine wpG_any ?_; k_extra "M346")))
  k_with "wpG" => (((with_reducible show wpG _ _ (call (Value.ref 346) _) _ _ _); walk_at "G call"))
  k_with "G call" => (((with_reducible show wpG _ _ (call (Value.ref 206) _) _ _ _); k_dflt (k_extra "M206")))
  k_with "wpG" => (((with_reducible show wpG _ _ (call (Value.ref 206) _) _ _ _); walk_at "G call"))
  k_with "G call" => (((with_reducible show wpG _ _ (call (Value.ref 353) _) _ _ _); k_dflt (k_extra "M353")))
  k_with "wpG" => (((with_reducible show wpG _ _ (call (Value.ref 353) _) _ _ _); walk_at "G call"))
  k_with "wpG" => (((with_reducible show wpG _ _ (execs (Stmt.If (Expr.BoolOp _ _ _) _ _ _ :: _) _) _ _ _); k_dflt (k_extra "MNEXT")))
  trivial
theorem law_3t (w : World) (dp un : Nat) (gd : Option (List Code)) (cb L a : Addr) (ccd : Value) (mean : ExcName → Option Value) (mg mb : Str → Option Value) (h₀ : Heap) (s : Shared) (Q : Flow → Shared → Prop) (C : LawCtx w dp un cb L mean mg mb h₀ s Q) (bx dr pp : Addr) (b0 b1 bh : Array UInt8) (tc t0 t1 tl th : Tok) (lv : Int) (bv : Value) (ra : List Int) (vs : List Value) (ns : List Int) (hI : IntsAre vs ns) (hz : vs.length < 100) (n nd np : Nat) (oc : Obj) (hoc : oc.data = .cell (some (.ref bx))) (m0 : Str → Option Value) (h1 : dr ≠ bx) (h2 : cb ≠ bx) (h3 : cb ≠ dr) (h4 : bx ≠ pp) (h5 : dr ≠ pp) (h6 : cb ≠ pp) (hb0 : (KBw.bInts b0).length < 30) (hb1 : (KBw.bInts b1).length < 30) (hra : ra.length = 8) (hB : KBw.bInts bh = chello ra [104, 51] (KBw.bInts b0)) (hl : 18 + ((KBw.bInts b0).length : Int) ≤ lv)
    (k2 : ∀ S8 x8 d8 cf8 p8 ka8 eva8 dl8 tt8 br8 tr8 c18 c28 c38 c48 tm8 tro8 tc8 bl8 tl8 ocfg8 nw, Row7 ((pp, W.listOf #[.bytes b0 t0, .bytes b1 t1] np) :: (bx, W.listOf #[.ref dr, .int 3 tc] n) :: (dr, W.listOf vs.toArray nd) :: (cb, oc) :: []) x8 d8 cf8 p8 ka8 eva8 dl8 →
      ocfg8.IsDictOf (strKind Challenge.rw_pf0268_01.row.prog w) (strPairs [(.str (Str.ofString "random") c18, .bytes br8 tr8), (.str (Str.ofString "protocols") c28, .ref p8), (.str (Str.ofString "params") c38, .bytes b1 t1), (.str (Str.ofString "most") c48, .int lv tm8)]) → (KBw.bInts br8).length = 8 → KBw.bInts bl8 = [] →
      HRet w tt8 x8 d8 cf8 ocfg8 (.str (Str.ofString "server") tro8) (.bytes bl8 tl8) (.ref ka8) (.ref eva8) (.ref dl8) ((pp, W.listOf #[.bytes b0 t0, .bytes b1 t1] np) :: (bx, W.listOf #[.ref dr, .int 3 tc] n) :: (dr, W.listOf vs.toArray nd) :: (cb, oc) :: []) (PostOf w p8 #[104, 51] tc8 0 ka8 eva8 dl8 "wait_client_finished" ((chello ra [104, 51] (KBw.bInts b0) ++ shello (KBw.bInts br8) ++ exts [104, 51] (KBw.bInts b1)) ++ fin [115, 101, 114, 118, 101, 114, 32, 102, 105, 110, 105, 115, 104, 101, 100] (chello ra [104, 51] (KBw.bInts b0) ++ shello (KBw.bInts br8) ++ exts [104, 51] (KBw.bInts b1))) 2 4 (fun v => ∃ b t, v = .bytes b t ∧ KBw.bInts b = KBw.bInts b0) (fun v => ∃ b t, v = .bytes b t ∧ KBw.bInts b = [104, 51]) (.bool false) (.bool false) (· = #[]) (VTwo (shello (KBw.bInts br8)) (exts [104, 51] (KBw.bInts b1) ++ fin [115, 101, 114, 118, 101, 114, 32, 102, 105, 110, 105, 115, 104, 101, 100] (chello ra [104, 51] (KBw.bInts b0) ++ shello (KBw.bInts br8) ++ exts [104, 51] (KBw.bInts b1))))) (.ref S8) nw → LawAt 8 w dp un gd cb L a ccd mean mg mb h₀ s Q (fun z => if z = Str.ofString "found" then some (.ref S8) else if z = Str.ofString "server" then some (.ref x8) else if z = Str.ofString "least" then some (.int lv tl) else if z = Str.ofString "hello" then some (.bytes bh th) else if z = Str.ofString "before" then some bv else if z = Str.ofString "params" then some (.ref pp) else m0 z) (nw)) :
    LawAt 5 w dp un gd cb L a ccd mean mg mb h₀ s Q (fun z => if z = Str.ofString "least" then some (.int lv tl) else if z = Str.ofString "hello" then some (.bytes bh th) else if z = Str.ofString "before" then some bv else if z = Str.ofString "params" then some (.ref pp) else m0 z) ((pp, W.listOf #[.bytes b0 t0, .bytes b1 t1] np) :: (bx, W.listOf #[.ref dr, .int 3 tc] n) :: (dr, W.listOf vs.toArray nd) :: (cb, oc) :: []) := by
  run_tac Mine.Sh.mark
  obtain ⟨ks, hks⟩ : ∃ ks, ks = chello ra [104, 51] (KBw.bInts b0) := ⟨_, rfl⟩
  rw [← hks] at hB k2
  have hkl : ks.length = 22 + (KBw.bInts b0).length := by rw [hks, chello_len hra]; simp only [List.length_cons, List.length_nil]
  have hbl : (fld ra ++ fld (fld [104, 51]) ++ fld (KBw.bInts b0)).length = 18 + (KBw.bInts b0).length := by rw [chello_body hra]; simp only [List.length_cons, List.length_nil]
  obtain ⟨X, B, T, hd1, hu1, hdone⟩ := C
  unfold LawAt
  revert X
  k_fill
  intro X h tk F N
  dsimp only [lawBody, List.drop]
  k_with "M346" => (refine' useL (c_side_s w _ _ _ _ _ _) ?x1 ?x2 ?x3 ?x4 ?x5 ?x6 ?x7 ?x8 ?_; (case x1 => k_asm); (case x2 => k_asm); (case x3 => k_asm); (case x4 => k_asm); (case x5 => k_asm); (case x6 => first | exact rfl | assumption); (case x7 => ktr_room); (case x8 => ktr_units); (intro r9 nw9 h9 tk9 F9 N9 hR; obtain ⟨tt8, x8, d8, cf8, p8, ka8, eva8, dl8, br8, tr8, c18, c28, c38, c48, tm8, tro8, ts8, tra8, tlo8, tc8, ocfg8, oky8, e9, row8, hcfg8, hky8, hbr8, e8⟩ := hR; subst e9; subst e8; have ap8 := row8.ap; have off8 := row8.off))
  k_with "M353" => (refine' useG (c_taken w (check_0 w) tt8 x8 d8 cf8 p8 ka8 eva8 dl8 _ _ _ _ _ _ _ _ _ _ _ _ _ _ _ _ _ _ _ _  #[] bh #[104, 51] ks _ 1 lv ocfg8 oky8 #[] #[] 0 0 0 _ _ hcfg8 (by rfl) hB (hks.trans (chello_msg _ _ _)) (by decide) (by decide) (by omega) (by omega) (by omega) (by decide) ap8 off8 (one_ch w tt8 x8 d8 cf8 p8 ka8 eva8 dl8 _ _ _ _ _ _ _ _ _ _ _ _ _ _  br8 b1 ra [104, 51] (KBw.bInts b0) (KBw.bInts br8) (KBw.bInts b1) _ _ [] ks ocfg8 oky8 [] #[] #[] 0 0 0 ap8 hky8 hcfg8 (by rfl) rfl rfl hra (by decide) (by omega) hbr8 (by omega) (by omega) (by decide) (by decide))) ?x1 ?x2 ?x3 ?x4 ?x5 ?x6 ?x7 ?x8 ?_; (case x1 => k_asm); (case x2 => k_asm); (case x3 => k_asm); (case x4 => k_asm); (case x5 => k_asm); (case x6 => first | exact rfl | assumption); (case x7 => ktr_room); (case x8 => ktr_units); (intro r9 nw9 h9 tk9 F9 N9 hR; obtain ⟨bl8, tl8, hbl8, hH8⟩ := hR; obtain ⟨S8, _, _, _, _, _, _, _, _, _, e9, _⟩ := id hH8; subst e9))
  k_with "MNEXT" => (rename Fr h₀ L _ _ => F7; rename News h₀ L _ _ => N7; exact k2 _ _ _ _ _ _ _ _ _ _ _ _ _ _ _ _ _ _ _ _ _ _ row8 hcfg8 hbr8 hbl8 hH8 _ _ F7 N7)
  walk_at "G steps"
  run_tac Mine.Sh.fin
end
-- E20
section
open PySem.SeqAt
theorem eq_list_str {prog : Program} {w : World} {A : Around} {E : Value → Shared → Prop} {s : Shared} {l : Addr} {items : Array Value} {b : Str} {u : Tok} {Q : Value → Shared → Prop} (hl : s.heap.IsList l items) (hr : A.units + 64 < cLine) (h : Q (.bool false) s) : wpAny (model prog w) A (compareOp .Eq (.ref l) (.str b u)) Q E s :=
  RcAt.list_str b u hl (by omega) prog w E Q h
theorem line_E20 : True := by
  w_top off
  run_tac Mine.Sh.keep 25
  k_with "call builtin:len" => ((k_here; (with_reducible show wpAny _ _ (call (Value.builtin "len") [Value.bytes _ _]) _ _ _); k_dflt (refine KBw.len_K (by assumption) (by (rw [sizeLine_eq]; omega)) ?_)))
  k_with "wpG" => (first
      | ((with_reducible show wpG _ _ (eval (Expr.Subscript (Expr.Subscript (Expr.Call _ _ _ _) _ _) _ _) _) _ _ _); (with_reducible refine wpG_Subscript ?_))
      | ((with_reducible show wpG _ _ (eval (Expr.Subscript (Expr.Call _ _ _ _) _ _) _) _ _ _); (with_reducible refine wpG_Subscript ?_)))
  k_with "G call" => (((with_reducible show wpG _ _ (call (Value.ref 346) _) _ _ _); k_dflt (refine wpG_any ?_; k_extra "M346")))
  k_with "wpG" => (((with_reducible show wpG _ _ (call (Value.ref 346) _) _ _ _); walk_at "G call"))
  k_with "G call" => (((with_reducible show wpG _ _ (call (Value.ref 206) _) _ _ _); k_dflt (k_extra "M206")))
  k_with "wpG" => (((with_reducible show wpG _ _ (call (Value.ref 206) _) _ _ _); walk_at "G call"))
  k_with "ite" => ((k_here; k_openite; k_dflt (first
      | refine ite_neg (by (simp only [bne_iff_ne, beq_iff_eq, ne_eq, decide_eq_true_eq]; omega)) ?_
      | refine ite_pos (by (simp only [bne_iff_ne, beq_iff_eq, ne_eq, decide_eq_true_eq]; omega)) ?_)))
  k_with "k_ne" => (first | assumption | exact Ne.symm (by assumption) | exact ne_cls (by k_asm) (by k_mem) (by k_mem) (by rfl) | (show @Ne Nat _ _; omega))
  k_with "k_all" => (assumption)
  k_with "M off" => ((repeat (first | assumption | exact List.forall_mem_nil _ | (refine List.forall_mem_cons.mpr ⟨?_, ?_⟩; · (dsimp only; k_ne)))))
  k_with "wpG" => (((with_reducible show wpG _ _ (exec (Stmt.If _ _ _ _) _) _ _ _); (refine wpG_any ?_)))
  k_with "CompSrc" => ((k_here; k_dflt (refine LCg.CompSrc.range (by rfl) (by k_asm) (by k_asm) (by assumption) (by first | decide | rfl) (by first | rfl | decide) (by first | size_fits | exact Nat.le_of_ble_eq_true rfl) ?_; intro g'; lcg_lit)))
  k_with "CompRest" => (k_dflt (first
      | (refine LCg.CompRest.succ ?_; intro v' I' oI' C' oC' D' m' h' tk' E' hv' hC' hx' F' N' off' ne'; (first | lcg_open hv' | (obtain ⟨t9', hv9'⟩ := hv'; subst hv9')); (try simp only [LCg.Off3, and_true] at off'))
      | refine LCg.CompRest.zero ?_))
  k_with "M mv" => ((first | exact mvT0 (by k_asm) | exact mvT1 (by k_asm) | exact mvT2 (by k_asm) | exact mvT3 (by k_asm) | exact mvT4 (by k_asm) | exact mvT5 (by k_asm) | exact mvT6 (by k_asm) | exact mvT7 (by k_asm) | exact mvT8 (by k_asm) | exact mvT9 (by k_asm) | exact mvT10 (by k_asm) | exact mvT11 (by k_asm) | exact mvT12 (by k_asm)))
  k_with "M lt100" => ((first | omega | (simp only [List.length_take, List.length_map] at *; omega)))
  k_with "call ref" => ((k_here; (with_reducible show wpAny _ _ (call (Value.ref 339) _) _ _ _); k_extra "M339"))
  k_with "compareOp Eq ref str" => ((k_here; k_dflt (refine' eq_list_str ?l ?r ?_; (case l => exact news_list (by k_asm) (by k_mem)); (case r => ke_room))))
  k_with "compareOp NotEq ref ref" => ((k_here; k_dflt (refine' ne_two ?l ?b ?e1 ?e2 ?r ?_; (case l => exact news_list (by k_asm) (by k_mem)); (case b => exact news_list (by k_asm) (by k_mem)); (case e1 => exact str_at); (case e2 => exact str_at); (case r => ke_room))))
  k_with "subscriptTail" => ((k_here; k_dflt (first
      | ((with_reducible show wpAny _ _ (subscriptTail _ _ (Value.bytes _ _) (Value.int _ _)) _ _ _); (refine' it_bytes (by assumption) (by (simp only [List.length_cons]; omega)) (by decide) ?p2 ?hx ?_ ?hs ?ht; (case p2 => (simp only [List.length_cons]; omega)); (case hx => exact rfl); (case hs => with_unfolding_all rfl); (case ht => (intro _; with_unfolding_all rfl))); intro t' k'; (try dsimp only))
      | ((with_reducible show wpAny _ _ (subscriptTail _ _ (Value.ref _) (Value.int _ _)) _ _ _); refine' it_tup (news_tup (by k_asm) (by k_mem)) (by decide) (by decide) ?hj ?hx ?_ ?hs; (case hj => exact rfl); (case hx => exact rfl); (case hs => with_unfolding_all rfl); (try dsimp only))
      | ((with_reducible show wpAny _ _ (subscriptTail _ _ (Value.ref _) (Value.int _ _)) _ _ _); refine' it_list (news_list (by k_asm) (by k_mem)) (by decide) (by decide) ?hx ?_ ?hs; (case hx => exact rfl); (case hs => with_unfolding_all rfl); (try dsimp only)))))
  k_with "call builtin:len" => ((k_here; (with_reducible show wpAny _ _ (call (Value.builtin "len") [Value.bytes _ _]) _ _ _); k_dflt (refine' KBw.len_K (by assumption) ?z ?_; (case z => (rw [sizeLine_eq]; (try simp only [List.length_cons]); omega)); (try dsimp only))))
  k_with "eval ListComp" => ((k_here; lcp_look; lcg_calm; k_dflt (refine LCp.ListComp_P (F₀ := by k_asm) (by with_unfolding_all rfl) (by decide) (by rfl) (by decide) (by rfl) (by rfl) (by decide) ?_); k_dflt lcp_toSrc))
  k_with "SrcLP" => ((k_here; k_dflt (refine LCp.SrcLP.ledger (by rfl) (by k_asm) (by k_asm) (by k_mem) (by first | size_fits | exact Nat.le_of_ble_eq_true rfl) ?_; intro g'; lcp_lit)))
  k_with "CompRestP" => (k_dflt (first
      | (refine LCp.CompRestP.succ ?_; intro v' hv'; lcg_open hv'; refine ⟨_, _, _, _, _, rfl, by k_mem, rfl, rfl, ?_⟩; intro I' oI' C' oC' D' m' h' tk' E' hC' hx' hy' F' N' off' ne')
      | refine LCp.CompRestP.zero ?_))
  k_with "CompEnd" => ((k_here; k_dflt (refine LCg.CompEnd.intro (by assumption) (by assumption) _ (fun _ hp => hp) (by assumption) (by lcg_src) ?_)))
  k_with "wpG" => (((with_reducible show wpG _ _ (execs (Stmt.Assign [Expr.Tuple [Expr.Name (Str.ofString "client") _, _] _ _] _ _ :: _) _) _ _ _); k_dflt (k_extra "MNEXT")))
  trivial
theorem law_4 (w : World) (dp un : Nat) (gd : Option (List Code)) (cb L a : Addr) (ccd : Value) (mean : ExcName → Option Value) (mg mb : Str → Option Value) (h₀ : Heap) (s : Shared) (Q : Flow → Shared → Prop) (C : LawCtx w dp un cb L mean mg mb h₀ s Q) (bx dr pp : Addr) (b0 b1 bh : Array UInt8) (tc t0 t1 tl th : Tok) (lv : Int) (bv : Value) (vs : List Value) (ns : List Int) (hI : IntsAre vs ns) (hz : vs.length < 100) (n nd np : Nat) (oc : Obj) (hoc : oc.data = .cell (some (.ref bx))) (m0 : Str → Option Value) (h1 : dr ≠ bx) (h2 : cb ≠ bx) (h3 : cb ≠ dr) (h4 : bx ≠ pp) (h5 : dr ≠ pp) (h6 : cb ≠ pp) (srv : List (Addr × Obj)) (hsrv : ∀ q ∈ srv, q.1 ≠ bx ∧ q.1 ≠ dr) (S8 P1 P2 x8 : Addr) (n8 k1 k2' : Nat) (tq1 tq2 tq3 tq4 : Tok) (bf bg : Array UInt8) (fl gl : List Int) (hf : KBw.bInts bf = fl) (g1 g2 g3 : Int) (gt : List Int) (hg : KBw.bInts bg = 8 :: g1 :: g2 :: g3 :: gt) (hfl : 5 ≤ fl.length) (hfl2 : fl.length < 1000) (hgt : gt.length < 1000) (hcut : 5 ≤ 4 + g1 * 65536 + g2 * 256 + g3) (hcut2 : 4 + g1 * 65536 + g2 * 256 + g3 + 1 ≤ gt.length)
    (k2 : ∀ tc vs ns n nd mv tmv cv tcv, IntsAre vs ns → vs.length < 100 → 0 ≤ mv → cv = 4 + g1 * 65536 + g2 * 256 + g3 → LawAt 12 w dp un gd cb L a ccd mean mg mb h₀ s Q (fun z => if z = Str.ofString "most" then some (.int mv tmv) else if z = Str.ofString "cut" then some (.int cv tcv) else if z = Str.ofString "first" then some (.bytes bf tq2) else if z = Str.ofString "both" then some (.bytes bg tq4) else if z = Str.ofString "found" then some (.ref S8) else if z = Str.ofString "server" then some (.ref x8) else if z = Str.ofString "least" then some (.int lv tl) else if z = Str.ofString "hello" then some (.bytes bh th) else if z = Str.ofString "before" then some bv else if z = Str.ofString "params" then some (.ref pp) else m0 z) ((pp, W.listOf #[.bytes b0 t0, .bytes b1 t1] np) :: (bx, W.listOf #[.ref dr, .int 5 tc] n) :: (dr, W.listOf vs.toArray nd) :: (cb, oc) :: srv)) :
    LawAt 8 w dp un gd cb L a ccd mean mg mb h₀ s Q (fun z => if z = Str.ofString "found" then some (.ref S8) else if z = Str.ofString "server" then some (.ref x8) else if z = Str.ofString "least" then some (.int lv tl) else if z = Str.ofString "hello" then some (.bytes bh th) else if z = Str.ofString "before" then some bv else if z = Str.ofString "params" then some (.ref pp) else m0 z) ((S8, W.listOf #[.ref P1, .ref P2] n8) :: (P1, { cls := .type "tuple", data := .seq #[.str (Str.ofString "initial") tq1, .bytes bf tq2] k1 }) :: (P2, { cls := .type "tuple", data := .seq #[.str (Str.ofString "handshake") tq3, .bytes bg tq4] k2' }) :: (pp, W.listOf #[.bytes b0 t0, .bytes b1 t1] np) :: (bx, W.listOf #[.ref dr, .int 3 tc] n) :: (dr, W.listOf vs.toArray nd) :: (cb, oc) :: srv) := by
  run_tac Mine.Sh.mark
  obtain ⟨X, B, T, hd1, hu1, hdone⟩ := C
  unfold LawAt
  revert X
  k_fill
  intro X h tk F N
  dsimp only [lawBody, List.drop]
  k_with "M339" => (first
    | ((rename (@LT.lt _ _ _ _ ∧ _) => L1); refine' useL (c_ltake w bx dr 3 3 tc _ vs ns hI hz n nd ((_, W.listOf #[.int _ _, .int _ _, .int _ _] 0) :: (cb, oc) :: (pp, W.listOf #[.bytes b0 t0, .bytes b1 t1] np) :: srv) (by decide) (by decide) (by decide) h1 (fml (Nat.ne_of_gt L1.2.2.2.2.2.2.2.1) (fml h2 (fml h4.symm (fun q hq => (hsrv q hq).1)))) (fml (Nat.ne_of_gt L1.2.2.2.2.2.2.2.2.1) (fml h3 (fml h5.symm (fun q hq => (hsrv q hq).2))))) ?x1 ?x2 ?x3 ?x4 ?x5 ?x6 ?x7 ?x8 ?_; (case x1 => k_asm); (case x2 => k_asm); (case x3 => k_asm); (case x4 => (rename News h₀ L _ _ => N7; ((repeat' (refine List.forall_mem_cons.mpr ⟨N7 _ (by k_mem), ?_⟩)); first | exact List.forall_mem_nil _ | (intro q hq; exact N7 q (by simp [hq]))))); (case x5 => k_asm); (case x6 => first | exact rfl | assumption); (case x7 => ktr_room); (case x8 => ktr_units); (intro r9 nw9 h9 tk9 F9 N9 hR; obtain ⟨i9, t9, tc9, n9, vs9, ns9, nd9, e9, hi0, hi1, hI9, hz9, e8⟩ := hR; subst e9; subst e8; (have hi3 : i9 = 0 ∨ i9 = 1 ∨ i9 = 2 := (by omega)); rcases hi3 with hi3 | hi3 | hi3 <;> subst hi3))
    | (refine' useL (c_ltake w bx dr 4 3 tc9 _ vs9 ns9 hI9 (Nat.lt_of_le_of_lt hz9 hz) n9 nd9 ((cb, oc) :: (pp, W.listOf #[.bytes b0 t0, .bytes b1 t1] np) :: srv) (by decide) (by decide) (by decide) h1 (fml h2 (fml h4.symm (fun q hq => (hsrv q hq).1))) (fml h3 (fml h5.symm (fun q hq => (hsrv q hq).2)))) ?x1 ?x2 ?x3 ?x4 ?x5 ?x6 ?x7 ?x8 ?_; (case x1 => k_asm); (case x2 => k_asm); (case x3 => k_asm); (case x4 => (rename News h₀ L _ _ => N7; ((repeat' (refine List.forall_mem_cons.mpr ⟨N7 _ (by k_mem), ?_⟩)); first | exact List.forall_mem_nil _ | (intro q hq; exact N7 q (by simp [hq]))))); (case x5 => k_asm); (case x6 => first | exact rfl | assumption); (case x7 => ktr_room); (case x8 => ktr_units); (intro r7 nw7 h7 tk7 F7 N7 hR; obtain ⟨i7, t7, tc7, n7, vs7, ns7, nd7, e9, hj0, hj1, hI7, hz7, e8⟩ := hR; subst e9; subst e8)))
  k_with "MNEXT" => (rename News h₀ L _ _ => N7; rename Fr h₀ L _ _ => F7; refine' k2 _ _ _ _ _ _ _ _ _ hI7 ?a ?b ?c _ _ F7 ?g; (case g => ((repeat' (refine List.forall_mem_cons.mpr ⟨N7 _ (by k_mem), ?_⟩)); first | exact List.forall_mem_nil _ | (intro q hq; exact N7 q (by simp [hq])))); (case a => omega); (case b => (first | omega | (simp only [List.length_cons]; omega))); (case c => rfl))
  walk_at "G steps"
  run_tac Mine.Sh.fin
end
-- E21
section
open PySem.SeqAt
theorem line_E21 : True := by
  w_top off
  run_tac Mine.Sh.keep 25
  k_with "k_ne" => (first | assumption | exact Ne.symm (by assumption) | exact ne_cls (by k_asm) (by k_mem) (by k_mem) (by rfl) | (show @Ne Nat _ _; omega))
  k_with "k_all" => (assumption)
  k_with "M off" => ((repeat (first | assumption | exact List.forall_mem_nil _ | (refine List.forall_mem_cons.mpr ⟨?_, ?_⟩; · (dsimp only; k_ne)))))
  k_with "CompSrc" => ((k_here; k_dflt (refine LCg.CompSrc.range (by rfl) (by k_asm) (by k_asm) (by assumption) (by first | decide | rfl) (by first | rfl | decide) (by first | size_fits | exact Nat.le_of_ble_eq_true rfl) ?_; intro g'; lcg_lit)))
  k_with "CompRest" => (k_dflt (first
      | (refine LCg.CompRest.succ ?_; intro v' I' oI' C' oC' D' m' h' tk' E' hv' hC' hx' F' N' off' ne'; (first | lcg_open hv' | (obtain ⟨t9', hv9'⟩ := hv'; subst hv9')); (try simp only [LCg.Off3, and_true] at off'))
      | refine LCg.CompRest.zero ?_))
  k_with "M mv" => ((first | exact mvT0 (by k_asm) | exact mvT1 (by k_asm) | exact mvT2 (by k_asm) | exact mvT3 (by k_asm) | exact mvT4 (by k_asm) | exact mvT5 (by k_asm) | exact mvT6 (by k_asm) | exact mvT7 (by k_asm) | exact mvT8 (by k_asm) | exact mvT9 (by k_asm) | exact mvT10 (by k_asm) | exact mvT11 (by k_asm) | exact mvT12 (by k_asm)))
  k_with "M lt100" => ((first | omega | (simp only [List.length_take, List.length_map] at *; omega)))
  k_with "call ref" => ((k_here; (with_reducible show wpAny _ _ (call (Value.ref 339) _) _ _ _); k_extra "M339"))
  k_with "call builtin:len" => ((k_here; (with_reducible show wpAny _ _ (call (Value.builtin "len") [Value.bytes _ _]) _ _ _); k_dflt (refine KBw.len_K (by assumption) (by (rw [sizeLine_eq]; omega)) ?_)))
  k_with "wpG" => (first
      | ((with_reducible show wpG _ _ (eval (Expr.Subscript (Expr.Subscript (Expr.Call _ _ _ _) _ _) _ _) _) _ _ _); (with_reducible refine wpG_Subscript ?_))
      | ((with_reducible show wpG _ _ (eval (Expr.Subscript (Expr.Call _ _ _ _) _ _) _) _ _ _); (with_reducible refine wpG_Subscript ?_)))
  k_with "G call" => (((with_reducible show wpG _ _ (call (Value.ref 346) _) _ _ _); k_dflt (refine wpG_any ?_; k_extra "M346")))
  k_with "wpG" => (((with_reducible show wpG _ _ (call (Value.ref 346) _) _ _ _); walk_at "G call"))
  k_with "G call" => (((with_reducible show wpG _ _ (call (Value.ref 206) _) _ _ _); k_dflt (k_extra "M206")))
  k_with "wpG" => (((with_reducible show wpG _ _ (call (Value.ref 206) _) _ _ _); walk_at "G call"))
  k_with "ite" => ((k_here; k_openite; k_dflt (first
      | refine ite_neg (by (simp only [bne_iff_ne, beq_iff_eq, ne_eq, decide_eq_true_eq]; omega)) ?_
      | refine ite_pos (by (simp only [bne_iff_ne, beq_iff_eq, ne_eq, decide_eq_true_eq]; omega)) ?_)))
  k_with "subscriptTail" => ((k_here; k_dflt (first
      | ((with_reducible show wpAny _ _ (subscriptTail _ _ (Value.bytes _ _) (Value.int _ _)) _ _ _); (refine' it_bytes (by assumption) (by (simp only [List.length_cons]; omega)) (by decide) ?p2 ?hx ?_ ?hs ?ht; (case p2 => (simp only [List.length_cons]; omega)); (case hx => exact rfl); (case hs => with_unfolding_all rfl); (case ht => (intro _; with_unfolding_all rfl))); intro t' k'; (try dsimp only))
      | ((with_reducible show wpAny _ _ (subscriptTail _ _ (Value.ref _) (Value.int _ _)) _ _ _); refine' it_tup (news_tup (by k_asm) (by k_mem)) (by decide) (by decide) ?hj ?hx ?_ ?hs; (case hj => exact rfl); (case hx => exact rfl); (case hs => with_unfolding_all rfl); (try dsimp only))
      | ((with_reducible show wpAny _ _ (subscriptTail _ _ (Value.ref _) (Value.int _ _)) _ _ _); refine' it_list (news_list (by k_asm) (by k_mem)) (by decide) (by decide) ?hx ?_ ?hs; (case hx => exact rfl); (case hs => with_unfolding_all rfl); (try dsimp only)))))
  k_with "compareOp NotEq ref ref" => ((k_here; k_dflt (refine' ne_one (news_list (by k_asm) (by k_mem)) (news_list (by k_asm) (by k_mem)) (tup_at (news_tup (by k_asm) (by k_mem)) (news_tup (by k_asm) (by k_mem)) ?n str_at (bytes_at (by assumption)) ?r2) ?r ?_; (case n => (show @Ne Nat _ _; omega)); (case r2 => (show (_ : Nat) < _; simp only [Around.in1, Around.under, Around.deeper, ktrTop]; omega)); (case r => ke_room))))
  k_with "call ref" => ((k_here; (with_reducible show wpAny _ _ (call (Value.ref 346) _) _ _ _); k_dflt (k_extra "M346")))
  k_with "wpG" => (((with_reducible show wpG _ _ (execs (Stmt.For _ _ _ _ _ :: _) _) _ _ _); k_dflt (k_extra "MNEXT")))
  trivial
theorem law_5 (w : World) (dp un : Nat) (gd : Option (List Code)) (cb L a : Addr) (ccd : Value) (mean : ExcName → Option Value) (mg mb : Str → Option Value) (h₀ : Heap) (s : Shared) (Q : Flow → Shared → Prop) (C : LawCtx w dp un cb L mean mg mb h₀ s Q) (pp xs : Addr) (b0 b1 bh bf bg : Array UInt8) (t0 t1 tl th tq2 tq4 tmv tcv : Tok) (lv mv cv : Int) (bv fv : Value) (np : Nat) (m0 : Str → Option Value) (srv : List (Addr × Obj)) (hb0 : (KBw.bInts b0).length < 30) (hB : KBw.bInts bh = chello CR [104, 51] (KBw.bInts b0))
    (k2 : ∀ tt8 x8 d8 cf8 p8 ka8 eva8 dl8 br8 tr8 c18 c28 c38 c48 tm8 tro8 ts8 tlo8 tc8 bc8 tbc8 ocfg8 oky8, Row7 ((pp, W.listOf #[.bytes b0 t0, .bytes b1 t1] np) :: srv) x8 d8 cf8 p8 ka8 eva8 dl8 → ocfg8.IsDictOf (strKind Challenge.rw_pf0268_01.row.prog w) (strPairs [(.str (Str.ofString "random") c18, .bytes br8 tr8), (.str (Str.ofString "protocols") c28, .ref p8), (.str (Str.ofString "params") c38, .bytes b0 t0), (.str (Str.ofString "most") c48, .int mv tm8)]) → oky8.IsDictOf (strKind Challenge.rw_pf0268_01.row.prog w) [] → KBw.bInts bc8 = KBw.bInts bh → LawAt 14 w dp un gd cb L a ccd mean mg mb h₀ s Q (fun z => if z = Str.ofString "client" then some (.ref x8) else if z = Str.ofString "told" then some .none else if z = Str.ofString "most" then some (.int mv tmv) else if z = Str.ofString "cut" then some (.int cv tcv) else if z = Str.ofString "first" then some (.bytes bf tq2) else if z = Str.ofString "both" then some (.bytes bg tq4) else if z = Str.ofString "found" then some fv else if z = Str.ofString "server" then some (.ref xs) else if z = Str.ofString "least" then some (.int lv tl) else if z = Str.ofString "hello" then some (.bytes bh th) else if z = Str.ofString "before" then some bv else if z = Str.ofString "params" then some (.ref pp) else m0 z) ((x8, instObj 328 d8) :: (d8, SD w tt8 (.str (Str.ofString "client") tro8) (.ref cf8) (.str (Str.ofString "wait_server_hello") ts8) (.bytes bc8 tbc8) (.bytes #[] tlo8) (.ref ka8) (.ref eva8) .none .none (.bool false) (.bool false) (.ref dl8)) :: (cf8, ocfg8) :: (p8, W.listOf #[.bytes #[104, 51] tc8] 0) :: (ka8, oky8) :: (eva8, W.listOf #[] 0) :: (dl8, W.listOf #[] 0) :: (pp, W.listOf #[.bytes b0 t0, .bytes b1 t1] np) :: srv)) :
    LawAt 12 w dp un gd cb L a ccd mean mg mb h₀ s Q (fun z => if z = Str.ofString "most" then some (.int mv tmv) else if z = Str.ofString "cut" then some (.int cv tcv) else if z = Str.ofString "first" then some (.bytes bf tq2) else if z = Str.ofString "both" then some (.bytes bg tq4) else if z = Str.ofString "found" then some fv else if z = Str.ofString "server" then some (.ref xs) else if z = Str.ofString "least" then some (.int lv tl) else if z = Str.ofString "hello" then some (.bytes bh th) else if z = Str.ofString "before" then some bv else if z = Str.ofString "params" then some (.ref pp) else m0 z) ((pp, W.listOf #[.bytes b0 t0, .bytes b1 t1] np) :: srv) := by
  run_tac Mine.Sh.mark
  obtain ⟨X, B, T, hd1, hu1, hdone⟩ := C
  unfold LawAt
  revert X
  k_fill
  intro X h tk F N
  dsimp only [lawBody, List.drop]
  k_with "M346" => (refine' useL (c_side_c w _ _ _ _ _ _) ?x1 ?x2 ?x3 ?x4 ?x5 ?x6 ?x7 ?x8 ?_; (case x1 => k_asm); (case x2 => k_asm); (case x3 => k_asm); (case x4 => k_asm); (case x5 => k_asm); (case x6 => first | exact rfl | assumption); (case x7 => ktr_room); (case x8 => ktr_units); (intro r9 nw9 h9 tk9 F9 N9 hR; obtain ⟨tt8, x8, d8, cf8, p8, ka8, eva8, dl8, br8, tr8, c18, c28, c38, c48, tm8, tro8, ts8, tra8, tlo8, tc8, ocfg8, oky8, e9, row8, hcfg8, hky8, hbr8, e8⟩ := hR; subst e9; subst e8; have ap8 := row8.ap; have off8 := row8.off; have hcl8 : (KBw.bInts br8).length = 8 := (by rw [hbr8]; rfl)))
  k_with "M206" => ((rename News h₀ L _ _ => N7); refine' useG (c_begin w tt8 x8 d8 cf8 p8 _ _ _ _ _ _ _ _ _ _ _ _ _ _ _ _ _ _ _ _ _ #[104, 51] _ [104, 51] _ _ _ ((ka8, oky8) :: (eva8, W.listOf #[] 0) :: (dl8, W.listOf #[] 0) :: (pp, W.listOf #[.bytes b0 t0, .bytes b1 t1] np) :: srv) hcfg8 rfl (by rfl) rfl hcl8 (by decide) (by omega) ap8.xd ap8.cd ap8.pd (fml ap8.kd (fml ap8.ed (fml ap8.ld (fun q hq => off8 q hq d8 (by simp)))))) ?x1 ?x2 ?x3 ?x4 ?x5 ?x6 ?x7 ?x8 ?_; (case x1 => k_asm); (case x2 => k_asm); (case x3 => k_asm); (case x4 => ((repeat' (refine List.forall_mem_cons.mpr ⟨N7 _ (by k_mem), ?_⟩)); first | exact List.forall_mem_nil _ | (intro q hq; exact N7 q (by simp [hq])))); (case x5 => k_asm); (case x6 => first | exact rfl | assumption); (case x7 => ktr_room); (case x8 => ktr_units); (intro r9 nw9 h9 tk9 F9 N9 hR; obtain ⟨S7, n7, P7, bh7, th7, tq7, k7, ts7, e9, hB7, hS7, hP7, hpS7, hpP7, e8⟩ := hR; subst e9; subst e8; rw [hbr8] at hB7; replace hB7 := hB7.trans hB.symm))
  k_with "MNEXT" => (rename News h₀ L _ _ => N7; rename Fr h₀ L _ _ => F7; refine' k2 _ _ _ _ _ _ _ _ _ _ _ _ _ _ _ _ _ _ _ _ _ _ _ row8 hcfg8 hky8 hB7 _ _ F7 ?g; (case g => ((repeat' (refine List.forall_mem_cons.mpr ⟨N7 _ (by k_mem), ?_⟩)); first | exact List.forall_mem_nil _ | (intro q hq; exact N7 q (by simp [hq])))))
  walk_at "G steps"
  run_tac Mine.Sh.fin
end
-- E22
section
open PySem.SeqAt
theorem line_E22 : True := by
  w_top off
  run_tac Mine.Sh.keep 25
  k_with "k_ne" => (first | assumption | exact Ne.symm (by assumption) | exact ne_cls (by k_asm) (by k_mem) (by k_mem) (by rfl) | (show @Ne Nat _ _; omega))
  k_with "k_all" => (assumption)
  k_with "M off" => ((repeat (first | assumption | exact List.forall_mem_nil _ | (refine List.forall_mem_cons.mpr ⟨?_, ?_⟩; · (dsimp only; k_ne)))))
  k_with "CompSrc" => ((k_here; k_dflt (refine LCg.CompSrc.range (by rfl) (by k_asm) (by k_asm) (by assumption) (by first | decide | rfl) (by first | rfl | decide) (by first | size_fits | exact Nat.le_of_ble_eq_true rfl) ?_; intro g'; lcg_lit)))
  k_with "CompRest" => (k_dflt (first
      | (refine LCg.CompRest.succ ?_; intro v' I' oI' C' oC' D' m' h' tk' E' hv' hC' hx' F' N' off' ne'; (first | lcg_open hv' | (obtain ⟨t9', hv9'⟩ := hv'; subst hv9')); (try simp only [LCg.Off3, and_true] at off'))
      | refine LCg.CompRest.zero ?_))
  k_with "M mv" => ((first | exact mvT0 (by k_asm) | exact mvT1 (by k_asm) | exact mvT2 (by k_asm) | exact mvT3 (by k_asm) | exact mvT4 (by k_asm) | exact mvT5 (by k_asm) | exact mvT6 (by k_asm) | exact mvT7 (by k_asm) | exact mvT8 (by k_asm) | exact mvT9 (by k_asm) | exact mvT10 (by k_asm) | exact mvT11 (by k_asm) | exact mvT12 (by k_asm)))
  k_with "M lt100" => ((first | omega | (simp only [List.length_take, List.length_map] at *; omega)))
  k_with "call ref" => ((k_here; (with_reducible show wpAny _ _ (call (Value.ref 339) _) _ _ _); k_extra "M339"))
  k_with "ite" => ((k_here; k_openite; k_dflt (first
      | refine ite_neg (by (simp only [bne_iff_ne, beq_iff_eq, ne_eq, decide_eq_true_eq]; omega)) ?_
      | refine ite_pos (by (simp only [bne_iff_ne, beq_iff_eq, ne_eq, decide_eq_true_eq]; omega)) ?_)))
  k_with "subscriptTail" => ((k_here; k_dflt (first
      | ((with_reducible show wpAny _ _ (subscriptTail _ _ (Value.bytes _ _) (Value.int _ _)) _ _ _); (refine' it_bytes (by assumption) (by (simp only [List.length_cons]; omega)) (by decide) ?p2 ?hx ?_ ?hs ?ht; (case p2 => (simp only [List.length_cons]; omega)); (case hx => exact rfl); (case hs => with_unfolding_all rfl); (case ht => (intro _; with_unfolding_all rfl))); intro t' k'; (try dsimp only))
      | ((with_reducible show wpAny _ _ (subscriptTail _ _ (Value.ref _) (Value.int _ _)) _ _ _); refine' it_tup (news_tup (by k_asm) (by k_mem)) (by decide) (by decide) ?hj ?hx ?_ ?hs; (case hj => exact rfl); (case hx => exact rfl); (case hs => with_unfolding_all rfl); (try dsimp only))
      | ((with_reducible show wpAny _ _ (subscriptTail _ _ (Value.ref _) (Value.int _ _)) _ _ _); refine' it_list (news_list (by k_asm) (by k_mem)) (by decide) (by decide) ?hx ?_ ?hs; (case hx => exact rfl); (case hs => with_unfolding_all rfl); (try dsimp only)))))
  k_with "wpG" => (((with_reducible show wpG _ _ (exec (Stmt.For _ _ _ _ _) _) _ _ _); k_dflt (refine' wpG_For ?_ ?hs; (case hs => (intro _; with_unfolding_all rfl)))))
  k_with "subscriptTail" => ((k_here; (with_reducible show wpAny _ _ (subscriptTail _ (Expr.Slice _ _ none _) (Value.bytes _ _) (Value.ref _)) _ _ _); k_dflt ((with_reducible rename Fr _ _ _ _ => F'); (with_reducible rename News _ _ _ _ => N'); (refine' KBc.slice_K (s := ⟨_, _, _, _, _⟩) F' N' (by assumption) (by constructor) (by constructor) ?z ?_ ?hs ?ht; (case z => omega); (case hs => with_unfolding_all rfl); (case ht => (intro _; with_unfolding_all rfl))); intro h' t' k' F' N' hP'; (try dsimp only))))
  trivial
theorem law_6 (w : World) (dp un : Nat) (gd : Option (List Code)) (cb L a : Addr) (ccd : Value) (mean : ExcName → Option Value) (mg mb : Str → Option Value) (h₀ : Heap) (s : Shared) (Q : Flow → Shared → Prop) (C : LawCtx w dp un cb L mean mg mb h₀ s Q) (pp xs x8 d8 cf8 p8 ka8 eva8 dl8 : Addr) (o1 o2 o3 o4 o5 o6 o7 : Obj) (b0 b1 bh bf bg : Array UInt8) (t0 t1 tl th tq2 tq4 tmv tcv : Tok) (lv mv : Int) (cv : Nat) (bv fv : Value) (np : Nat) (m0 : Str → Option Value) (srv : List (Addr × Obj)) (gl : List Int) (hg : KBw.bInts bg = gl) (hz : gl.length < 1000) (hcv : cv ≤ gl.length)
    (k2 : ∀ I oI Tu9 T1 T2 T3 q1 q2 q3 ba ta bb tb, oI.cls = .type "tuple_iterator" → oI.data = .fields #[.ref Tu9, .int (0 : Nat) 0] → KBw.bInts ba = gl.take cv → KBw.bInts bb = gl.drop cv → (∀ q ∈ (x8, o1) :: (d8, o2) :: (cf8, o3) :: (p8, o4) :: (ka8, o5) :: (eva8, o6) :: (dl8, o7) :: (Tu9, tupO #[.ref T1, .ref T2, .ref T3] 0) :: (T1, tupO #[.str (Str.ofString "initial") q1, .bytes bf tq2] 0) :: (T2, tupO #[.str (Str.ofString "handshake") q2, .bytes ba ta] 0) :: (T3, tupO #[.str (Str.ofString "handshake") q3, .bytes bb tb] 0) :: (pp, W.listOf #[.bytes b0 t0, .bytes b1 t1] np) :: srv, q.1 ≠ I) → AllLt T1 ((x8, o1) :: (d8, o2) :: (cf8, o3) :: (p8, o4) :: (ka8, o5) :: (eva8, o6) :: (dl8, o7) :: (pp, W.listOf #[.bytes b0 t0, .bytes b1 t1] np) :: srv) → T1 < T2 → T2 < T3 → T3 < Tu9 → LoopI I w dp un gd cb L a ccd mean mg mb h₀ s Q (fun z => if z = Str.ofString "client" then some (.ref x8) else if z = Str.ofString "told" then some .none else if z = Str.ofString "most" then some (.int mv tmv) else if z = Str.ofString "cut" then some (.int cv tcv) else if z = Str.ofString "first" then some (.bytes bf tq2) else if z = Str.ofString "both" then some (.bytes bg tq4) else if z = Str.ofString "found" then some fv else if z = Str.ofString "server" then some (.ref xs) else if z = Str.ofString "least" then some (.int lv tl) else if z = Str.ofString "hello" then some (.bytes bh th) else if z = Str.ofString "before" then some bv else if z = Str.ofString "params" then some (.ref pp) else m0 z) ((I, oI) :: (x8, o1) :: (d8, o2) :: (cf8, o3) :: (p8, o4) :: (ka8, o5) :: (eva8, o6) :: (dl8, o7) :: (Tu9, tupO #[.ref T1, .ref T2, .ref T3] 0) :: (T1, tupO #[.str (Str.ofString "initial") q1, .bytes bf tq2] 0) :: (T2, tupO #[.str (Str.ofString "handshake") q2, .bytes ba ta] 0) :: (T3, tupO #[.str (Str.ofString "handshake") q3, .bytes bb tb] 0) :: (pp, W.listOf #[.bytes b0 t0, .bytes b1 t1] np) :: srv)) :
    LawAt 14 w dp un gd cb L a ccd mean mg mb h₀ s Q (fun z => if z = Str.ofString "client" then some (.ref x8) else if z = Str.ofString "told" then some .none else if z = Str.ofString "most" then some (.int mv tmv) else if z = Str.ofString "cut" then some (.int cv tcv) else if z = Str.ofString "first" then some (.bytes bf tq2) else if z = Str.ofString "both" then some (.bytes bg tq4) else if z = Str.ofString "found" then some fv else if z = Str.ofString "server" then some (.ref xs) else if z = Str.ofString "least" then some (.int lv tl) else if z = Str.ofString "hello" then some (.bytes bh th) else if z = Str.ofString "before" then some bv else if z = Str.ofString "params" then some (.ref pp) else m0 z) ((x8, o1) :: (d8, o2) :: (cf8, o3) :: (p8, o4) :: (ka8, o5) :: (eva8, o6) :: (dl8, o7) :: (pp, W.listOf #[.bytes b0 t0, .bytes b1 t1] np) :: srv) := by
  run_tac Mine.Sh.mark
  obtain ⟨X, B, T, hd1, hu1, hdone⟩ := C
  unfold LawAt
  revert X
  k_fill
  intro X h tk F N
  dsimp only [lawBody, List.drop]
  walk_at "G steps"
  rename News h₀ L _ _ => N7
  rename Fr h₀ L _ _ => F7
  rename x8 < _ ∧ _ => l3
  rename _ ∧ x8 < _ ∧ _ => l2
  rename _ ∧ _ ∧ x8 < _ ∧ _ => l4
  rename _ ∧ _ ∧ _ ∧ x8 < _ ∧ _ => l5
  rename KBw.bInts (KBy.picked _ none _) = _ => P1
  rename KBw.bInts (KBy.picked _ _ none) = _ => P2
  simp only [Option.elim, clipAt_nat, List.drop_zero, Nat.sub_zero, Nat.min_eq_left hcv] at P1 P2
  rw [List.take_of_length_le (by simp)] at P2
  refine for_tup_start F7 N7 (.head _) (fun I oI h' hc hd F N lI => ?_)
  refine' k2 I oI _ _ _ _ _ _ _ _ _ _ _ hc hd P1 P2 ?off l3 l2.1 l4.1 l5.1 _ _ F ?N
  case N => ((repeat' (refine List.forall_mem_cons.mpr ⟨N _ (by k_mem), ?_⟩)); first | exact List.forall_mem_nil _ | (intro q hq; exact N q (by simp [hq])))
  case off => ((repeat' (refine List.forall_mem_cons.mpr ⟨Nat.ne_of_lt (lI _ (by k_mem)), ?_⟩)); exact fun q hq => Nat.ne_of_lt (lI q (by simp [hq])))
  run_tac Mine.Sh.fin
end
-- E23
section
open PySem.SeqAt
theorem mvI {h₀ h : Heap} {L : Addr} {i x d c p k e v : Addr × Obj} {l : List (Addr × Obj)} (N : News h₀ L h (i :: x :: d :: c :: p :: k :: e :: v :: l)) : News h₀ L h (x :: d :: c :: p :: k :: e :: v :: i :: l) := fun q hq => N q (by revert hq; revert q; repeat' (first | exact List.Mem.head _ | exact fun _ h => h | exact fun _ h => List.mem_append_left _ h | exact List.forall_mem_nil _ | refine mem_step ?_ ?_ | refine app_step ?_ ?_ | refine List.Mem.tail _ ?_ | refine sub_tail ?_ | refine sub_right ?_ | refine List.mem_append_right _ ?_))
theorem mvE {h₀ h : Heap} {L : Addr} {i x d c p k e v : Addr × Obj} {l : List (Addr × Obj)} (N : News h₀ L h (i :: x :: d :: c :: p :: k :: e :: v :: l)) : News h₀ L h (x :: d :: c :: e :: p :: k :: v :: i :: l) := fun q hq => N q (by revert hq; revert q; repeat' (first | exact List.Mem.head _ | exact fun _ h => h | exact fun _ h => List.mem_append_left _ h | exact List.forall_mem_nil _ | refine mem_step ?_ ?_ | refine app_step ?_ ?_ | refine List.Mem.tail _ ?_ | refine sub_tail ?_ | refine sub_right ?_ | refine List.mem_append_right _ ?_))
theorem mc_step {wv sv : Option Value} {v1 v2 tv rv c mo : Value} {m1 : Str → Option Value} : (fun z => if z = Str.ofString "told" then some rv else if z = Str.ofString "whole" then some v2 else if z = Str.ofString "space" then some v1 else if z = Str.ofString "told" then some tv else if z = Str.ofString "whole" then wv else if z = Str.ofString "space" then sv else if z = Str.ofString "client" then some c else if z = Str.ofString "most" then some mo else m1 z)
    = (fun z => if z = Str.ofString "told" then some rv else if z = Str.ofString "whole" then some v2 else if z = Str.ofString "space" then some v1 else if z = Str.ofString "client" then some c else if z = Str.ofString "most" then some mo else m1 z) := by
  run_tac Mine.Sh.mark
  funext z
  by_cases h1 : z = Str.ofString "told"
  · simp only [if_pos h1]
  by_cases h2 : z = Str.ofString "whole"
  · simp only [if_neg h1, if_pos h2]
  by_cases h3 : z = Str.ofString "space"
  · simp only [if_neg h1, if_neg h2, if_pos h3]
  simp only [if_neg h1, if_neg h2, if_neg h3]
  run_tac Mine.Sh.fin
theorem line_E23 : True := by
  w_top off
  run_tac Mine.Sh.keep 25
  k_with "ite" => ((k_here; k_openite; k_dflt (first
      | refine ite_neg (by (simp only [bne_iff_ne, beq_iff_eq, ne_eq, decide_eq_true_eq]; omega)) ?_
      | refine ite_pos (by (simp only [bne_iff_ne, beq_iff_eq, ne_eq, decide_eq_true_eq]; omega)) ?_)))
  k_with "k_ne" => (first | assumption | exact Ne.symm (by assumption) | exact ne_cls (by k_asm) (by k_mem) (by k_mem) (by rfl) | (show @Ne Nat _ _; omega))
  k_with "k_all" => (assumption)
  k_with "M off" => ((repeat (first | assumption | exact List.forall_mem_nil _ | (refine List.forall_mem_cons.mpr ⟨?_, ?_⟩; · (dsimp only; k_ne)))))
  k_with "wpG" => (((with_reducible show wpG _ _ (exec (Stmt.If _ _ _ _) _) _ _ _); (refine wpG_any ?_)))
  k_with "CompSrc" => ((k_here; k_dflt (refine LCg.CompSrc.range (by rfl) (by k_asm) (by k_asm) (by assumption) (by first | decide | rfl) (by first | rfl | decide) (by first | size_fits | exact Nat.le_of_ble_eq_true rfl) ?_; intro g'; lcg_lit)))
  k_with "CompRest" => (k_dflt (first
      | (refine LCg.CompRest.succ ?_; intro v' I' oI' C' oC' D' m' h' tk' E' hv' hC' hx' F' N' off' ne'; (first | lcg_open hv' | (obtain ⟨t9', hv9'⟩ := hv'; subst hv9')); (try simp only [LCg.Off3, and_true] at off'))
      | refine LCg.CompRest.zero ?_))
  k_with "M mv" => ((first | exact mvT0 (by k_asm) | exact mvT1 (by k_asm) | exact mvT2 (by k_asm) | exact mvT3 (by k_asm) | exact mvT4 (by k_asm) | exact mvT5 (by k_asm) | exact mvT6 (by k_asm) | exact mvT7 (by k_asm) | exact mvT8 (by k_asm) | exact mvT9 (by k_asm) | exact mvT10 (by k_asm) | exact mvT11 (by k_asm) | exact mvT12 (by k_asm)))
  k_with "M lt100" => ((first | omega | (simp only [List.length_take, List.length_map] at *; omega)))
  k_with "call ref" => ((k_here; (with_reducible show wpAny _ _ (call (Value.ref 339) _) _ _ _); k_extra "M339"))
  k_with "call builtin:len" => ((k_here; (with_reducible show wpAny _ _ (call (Value.builtin "len") [Value.bytes _ _]) _ _ _); k_dflt (refine KBw.len_K (by assumption) (by (rw [sizeLine_eq]; omega)) ?_)))
  k_with "wpG" => (first
      | ((with_reducible show wpG _ _ (eval (Expr.Subscript (Expr.Subscript (Expr.Call _ _ _ _) _ _) _ _) _) _ _ _); (with_reducible refine wpG_Subscript ?_))
      | ((with_reducible show wpG _ _ (eval (Expr.Subscript (Expr.Call _ _ _ _) _ _) _) _ _ _); (with_reducible refine wpG_Subscript ?_)))
  k_with "G call" => (((with_reducible show wpG _ _ (call (Value.ref 346) _) _ _ _); k_dflt (refine wpG_any ?_; k_extra "M346")))
  k_with "wpG" => (((with_reducible show wpG _ _ (call (Value.ref 346) _) _ _ _); walk_at "G call"))
  k_with "G call" => (((with_reducible show wpG _ _ (call (Value.ref 206) _) _ _ _); k_dflt (k_extra "M206")))
  k_with "wpG" => (((with_reducible show wpG _ _ (call (Value.ref 206) _) _ _ _); walk_at "G call"))
  k_with "G call" => (((with_reducible show wpG _ _ (call (Value.ref 353) _) _ _ _); k_dflt (k_extra "M353")))
  k_with "wpG" => (((with_reducible show wpG _ _ (call (Value.ref 353) _) _ _ _); walk_at "G call"))
  k_with "compareOp Eq ref str" => ((k_here; k_dflt (refine' eq_list_str ?l ?r ?_; (case l => exact news_list (by k_asm) (by assumption)); (case r => ke_room))))
  trivial
theorem law_turn_r (w : World) (dp un : Nat) (gd : Option (List Code)) (cb L a : Addr) (ccd : Value) (mean : ExcName → Option Value) (mg mb : Str → Option Value) (h₀ : Heap) (s : Shared) (Q : Flow → Shared → Prop) (C : LawCtx w dp un cb L mean mg mb h₀ s Q) (I Tu9 T1 T2 T3 Ti x8 d8 cf8 p8 ka8 eva8 dl8 : Addr) (oI o1 o2 o3 ocfg8 oky8 : Obj) (i ni np8 ne8 nd8 : Nat) {st sp : Str} (hck : CheckOk w st sp) (tt8 : Nat → Tok) (tmv tm8 ts8 tlo8 tc8 c18 c28 c38 c48 q9 tw9 : Tok) (mv : Int) (role tr pp8 pr8 icf8 vr8 vp8 vq8 tv : Value) (wv sv : Option Value) (m1 : Str → Option Value) (blo hb bw9 : Array UInt8) (evs8 dls8 : Array Value) (ks body : List Int) (k9 : Int) (more : List (Addr × Obj))
    (hc9 : oI.cls = .type "tuple_iterator") (hd9 : oI.data = .fields #[.ref Tu9, .int i 0]) (hx9 : (#[.ref T1, .ref T2, .ref T3] : Array Value)[i]? = some (.ref Ti)) (hT9 : (Ti, tupO #[.str sp q9, .bytes bw9 tw9] ni) ∈ (Tu9, tupO #[.ref T1, .ref T2, .ref T3] 0) :: (T1, o1) :: (T2, o2) :: (T3, o3) :: more)
    (hcfg8 : ocfg8.IsDictOf (strKind Challenge.rw_pf0268_01.row.prog w) (strPairs [(.str (Str.ofString "random") c18, vr8), (.str (Str.ofString "protocols") c28, vp8), (.str (Str.ofString "params") c38, vq8), (.str (Str.ofString "most") c48, .int mv tm8)]))
    (hB0 : KBw.bInts blo = []) (hB9 : KBw.bInts bw9 = ks) (hks : ks = msg k9 body) (hk0 : 0 ≤ k9) (hk1 : k9 < 256) (hb0 : 0 < body.length) (hb1 : body.length < 4000) (hes : evs8.size < 100) (ap8 : Ap x8 d8 cf8 p8 ka8 eva8 dl8)
    (off9 : ∀ q ∈ (Tu9, tupO #[.ref T1, .ref T2, .ref T3] 0) :: (T1, o1) :: (T2, o2) :: (T3, o3) :: more, ∀ y ∈ [d8, p8, ka8, eva8, dl8], q.1 ≠ y) (offI : ∀ q ∈ (x8, instObj 328 d8) :: (d8, SD w tt8 role (.ref cf8) (.str st ts8) tr (.bytes blo tlo8) (.ref ka8) (.ref eva8) pp8 pr8 (.bool false) icf8 (.ref dl8)) :: (cf8, ocfg8) :: (p8, W.listOf #[.bytes hb tc8] np8) :: (ka8, oky8) :: (eva8, W.listOf evs8 ne8) :: (dl8, W.listOf dls8 nd8) :: (Tu9, tupO #[.ref T1, .ref T2, .ref T3] 0) :: (T1, o1) :: (T2, o2) :: (T3, o3) :: more, q.1 ≠ I) (hl : mv < body.length) (hmv : 0 ≤ mv) :
    LoopI I w dp un gd cb L a ccd mean mg mb h₀ s Q (fun z => if z = Str.ofString "told" then some (tv) else if z = Str.ofString "whole" then wv else if z = Str.ofString "space" then sv else if z = Str.ofString "client" then some (.ref x8) else if z = Str.ofString "most" then some (.int mv tmv) else m1 z) ((I, oI) :: (x8, instObj 328 d8) :: (d8, SD w tt8 role (.ref cf8) (.str st ts8) tr (.bytes blo tlo8) (.ref ka8) (.ref eva8) pp8 pr8 (.bool false) icf8 (.ref dl8)) :: (cf8, ocfg8) :: (p8, W.listOf #[.bytes hb tc8] np8) :: (ka8, oky8) :: (eva8, W.listOf evs8 ne8) :: (dl8, W.listOf dls8 nd8) :: (Tu9, tupO #[.ref T1, .ref T2, .ref T3] 0) :: (T1, o1) :: (T2, o2) :: (T3, o3) :: more) := by
  run_tac Mine.Sh.mark
  have hkl : ks.length = body.length + 4 := by rw [hks, msg_length]
  have offI' := offI
  obtain ⟨X, B, T, hd1, hu1, hdone⟩ := C
  unfold LoopI
  revert X
  k_fill
  intro X h tk F N
  refine for_tup_next F N rfl rfl hc9 hd9 (List.Mem.tail _ (List.Mem.tail _ (List.Mem.tail _ (List.Mem.tail _ (List.Mem.tail _ (List.Mem.tail _ (List.Mem.tail _ (.head _)))))))) hx9 (List.Mem.tail _ (List.Mem.tail _ (List.Mem.tail _ (List.Mem.tail _ (List.Mem.tail _ (List.Mem.tail _ (List.Mem.tail _ (hT9)))))))) offI (by rfl) (by rfl) (by rfl) (fun oI' h' tk' hc' hd' F' N' => ?_)
  clear F N
  dsimp only [lawForB]
  k_with "M353" => (refine wpG_any ?_; refine' useT (c_taken_refused w hck tt8 x8 d8 cf8 eva8 _ _ _ _ _ _ _ _ _ _ _ _ _ _ _ _ _ _ _ _ _ blo bw9 ks body k9 mv ocfg8 evs8 ne8 ((p8, _) :: (ka8, _) :: (dl8, _) :: (I, _) :: (Tu9, tupO #[.ref T1, .ref T2, .ref T3] 0) :: (T1, o1) :: (T2, o2) :: (T3, o3) :: more) hcfg8 hB0 hB9 hks hk0 hk1 (by omega) (by omega) hes ap8.xd ap8.cd ap8.ed (fml ap8.pd (fml ap8.kd (fml ap8.ld (fml (Ne.symm (offI (d8, _) (.tail _ (.head _)))) (fun q hq => off9 q hq d8 (by simp))))))) ?x1 ?x2 ?x3 ?x4 ?x5 ?x6 ?x7 ?x8 ?y1 ?y2 ?_; (case x1 => k_asm); (case x2 => k_asm); (case x3 => k_asm); (case x4 => exact mvE (by k_asm)); (case x5 => k_asm); (case x6 => first | exact rfl | assumption); (case x7 => ktr_room); (case x8 => ktr_units); (case y1 => k_asm); (case y2 => k_asm); (intro r9 nw9 h9 tk9 F9 N9 hR; obtain ⟨t7, bl7, tl7, e9, e8⟩ := hR; subst e9; subst e8))
  walk_at "G steps"
  all_goals (rename Fr h₀ L _ _ => F7; exact hdone _ _ _ F7)
  run_tac Mine.Sh.fin
theorem law_turn_t (w : World) (dp un : Nat) (gd : Option (List Code)) (cb L a : Addr) (ccd : Value) (mean : ExcName → Option Value) (mg mb : Str → Option Value) (h₀ : Heap) (s : Shared) (Q : Flow → Shared → Prop) (C : LawCtx w dp un cb L mean mg mb h₀ s Q) (I Tu9 T1 T2 T3 Ti x8 d8 cf8 p8 ka8 eva8 dl8 : Addr) (oI o1 o2 o3 ocfg8 oky8 : Obj) (i ni np8 ne8 nd8 : Nat) {st sp : Str} (hck : CheckOk w st sp) (tt8 : Nat → Tok) (tmv tm8 ts8 tlo8 tc8 c18 c28 c38 c48 q9 tw9 : Tok) (mv : Int) (role tr pp8 pr8 icf8 vr8 vp8 vq8 tv : Value) (wv sv : Option Value) (m1 : Str → Option Value) (blo hb bw9 : Array UInt8) (evs8 dls8 : Array Value) (ks body : List Int) (k9 : Int) (more : List (Addr × Obj))
    (hc9 : oI.cls = .type "tuple_iterator") (hd9 : oI.data = .fields #[.ref Tu9, .int i 0]) (hx9 : (#[.ref T1, .ref T2, .ref T3] : Array Value)[i]? = some (.ref Ti)) (hT9 : (Ti, tupO #[.str sp q9, .bytes bw9 tw9] ni) ∈ (Tu9, tupO #[.ref T1, .ref T2, .ref T3] 0) :: (T1, o1) :: (T2, o2) :: (T3, o3) :: more)
    (hcfg8 : ocfg8.IsDictOf (strKind Challenge.rw_pf0268_01.row.prog w) (strPairs [(.str (Str.ofString "random") c18, vr8), (.str (Str.ofString "protocols") c28, vp8), (.str (Str.ofString "params") c38, vq8), (.str (Str.ofString "most") c48, .int mv tm8)]))
    (hB0 : KBw.bInts blo = []) (hB9 : KBw.bInts bw9 = ks) (hks : ks = msg k9 body) (hk0 : 0 ≤ k9) (hk1 : k9 < 256) (hb0 : 0 < body.length) (hb1 : body.length < 4000) (hes : evs8.size < 100) (ap8 : Ap x8 d8 cf8 p8 ka8 eva8 dl8)
    (off9 : ∀ q ∈ (Tu9, tupO #[.ref T1, .ref T2, .ref T3] 0) :: (T1, o1) :: (T2, o2) :: (T3, o3) :: more, ∀ y ∈ [d8, p8, ka8, eva8, dl8], q.1 ≠ y) (offI : ∀ q ∈ (x8, instObj 328 d8) :: (d8, SD w tt8 role (.ref cf8) (.str st ts8) tr (.bytes blo tlo8) (.ref ka8) (.ref eva8) pp8 pr8 (.bool false) icf8 (.ref dl8)) :: (cf8, ocfg8) :: (p8, W.listOf #[.bytes hb tc8] np8) :: (ka8, oky8) :: (eva8, W.listOf evs8 ne8) :: (dl8, W.listOf dls8 nd8) :: (Tu9, tupO #[.ref T1, .ref T2, .ref T3] 0) :: (T1, o1) :: (T2, o2) :: (T3, o3) :: more, q.1 ≠ I) (hl : (body.length : Int) ≤ mv) (Post : HPost) (one : OneOk w tt8 x8 d8 cf8 ocfg8 k9 body ks role st tr (.ref ka8) (.ref eva8) pp8 pr8 (.bool false) icf8 (.ref dl8) (CoreL p8 hb tc8 np8 ka8 oky8 eva8 evs8 ne8 dl8 dls8 nd8) [d8, p8, ka8, eva8, dl8] Post)
    (k2 : ∀ S8 bl8 tl8 oI' nw, oI'.cls = .type "tuple_iterator" → oI'.data = .fields #[.ref Tu9, .int (i + 1 : Nat) 0] → KBw.bInts bl8 = [] → HRet w tt8 x8 d8 cf8 ocfg8 role (.bytes bl8 tl8) (.ref ka8) (.ref eva8) (.ref dl8) ((I, oI') :: (Tu9, tupO #[.ref T1, .ref T2, .ref T3] 0) :: (T1, o1) :: (T2, o2) :: (T3, o3) :: more) Post (.ref S8) nw → LoopI I w dp un gd cb L a ccd mean mg mb h₀ s Q (fun z => if z = Str.ofString "told" then some (.ref S8) else if z = Str.ofString "whole" then some (.bytes bw9 tw9) else if z = Str.ofString "space" then some (.str sp q9) else if z = Str.ofString "client" then some (.ref x8) else if z = Str.ofString "most" then some (.int mv tmv) else m1 z) (nw)) :
    LoopI I w dp un gd cb L a ccd mean mg mb h₀ s Q (fun z => if z = Str.ofString "told" then some (tv) else if z = Str.ofString "whole" then wv else if z = Str.ofString "space" then sv else if z = Str.ofString "client" then some (.ref x8) else if z = Str.ofString "most" then some (.int mv tmv) else m1 z) ((I, oI) :: (x8, instObj 328 d8) :: (d8, SD w tt8 role (.ref cf8) (.str st ts8) tr (.bytes blo tlo8) (.ref ka8) (.ref eva8) pp8 pr8 (.bool false) icf8 (.ref dl8)) :: (cf8, ocfg8) :: (p8, W.listOf #[.bytes hb tc8] np8) :: (ka8, oky8) :: (eva8, W.listOf evs8 ne8) :: (dl8, W.listOf dls8 nd8) :: (Tu9, tupO #[.ref T1, .ref T2, .ref T3] 0) :: (T1, o1) :: (T2, o2) :: (T3, o3) :: more) := by
  run_tac Mine.Sh.mark
  have hkl : ks.length = body.length + 4 := by rw [hks, msg_length]
  obtain ⟨X, B, T, hd1, hu1, hdone⟩ := C
  unfold LoopI
  revert X
  k_fill
  intro X h tk F N
  refine for_tup_next F N rfl rfl hc9 hd9 (List.Mem.tail _ (List.Mem.tail _ (List.Mem.tail _ (List.Mem.tail _ (List.Mem.tail _ (List.Mem.tail _ (List.Mem.tail _ (.head _)))))))) hx9 (List.Mem.tail _ (List.Mem.tail _ (List.Mem.tail _ (List.Mem.tail _ (List.Mem.tail _ (List.Mem.tail _ (List.Mem.tail _ (hT9)))))))) offI (by rfl) (by rfl) (by rfl) (fun oI' h' tk' hc' hd' F' N' => ?_)
  clear F N
  dsimp only [lawForB]
  k_with "M353" => (refine' useG (c_taken w hck tt8 x8 d8 cf8 p8 ka8 eva8 dl8 _ _ _ _ _ _ _ _ _ _ _ _ _ _ _ _ _ _ _ _  blo bw9 hb ks body k9 mv ocfg8 oky8 evs8 dls8 np8 ne8 nd8 ((I, _) :: (Tu9, tupO #[.ref T1, .ref T2, .ref T3] 0) :: (T1, o1) :: (T2, o2) :: (T3, o3) :: more) Post hcfg8 hB0 hB9 hks hk0 hk1 hb0 (by omega) hl hes ap8 (List.forall_mem_cons.mpr ⟨five (Ne.symm (offI (d8, _) (.tail _ (.head _)))) (Ne.symm (offI (p8, _) (.tail _ (.tail _ (.tail _ (.head _)))))) (Ne.symm (offI (ka8, _) (.tail _ (.tail _ (.tail _ (.tail _ (.head _))))))) (Ne.symm (offI (eva8, _) (.tail _ (.tail _ (.tail _ (.tail _ (.tail _ (.head _)))))))) (Ne.symm (offI (dl8, _) (.tail _ (.tail _ (.tail _ (.tail _ (.tail _ (.tail _ (.head _))))))))), off9⟩) one) ?x1 ?x2 ?x3 ?x4 ?x5 ?x6 ?x7 ?x8 ?_; (case x1 => k_asm); (case x2 => k_asm); (case x3 => k_asm); (case x4 => exact mvI (by k_asm)); (case x5 => k_asm); (case x6 => first | exact rfl | assumption); (case x7 => ktr_room); (case x8 => ktr_units); (intro r9 nw9 h9 tk9 F9 N9 hR; obtain ⟨bl8, tl8, hbl8, hH8⟩ := hR; obtain ⟨S8, vs8, n8, _, _, _, _, _, _, _, e9, e8, _⟩ := id hH8; subst e9; have hm8 : (S8, W.listOf vs8 n8) ∈ nw9 := (by rw [e8]; exact .head _)))
  walk_at "G steps"
  all_goals (rename Fr h₀ L _ _ => F7; rename News h₀ L _ _ => N7; rw [mc_step] at F7; exact k2 _ _ _ _ _ hc' hd' hbl8 hH8 _ _ F7 N7)
  run_tac Mine.Sh.fin
end
-- E24
section
open PySem.SeqAt
theorem law_8 (w : World) (dp un : Nat) (gd : Option (List Code)) (cb L a : Addr) (ccd : Value) (mean : ExcName → Option Value) (mg mb : Str → Option Value) (h₀ : Heap) (s : Shared) (Q : Flow → Shared → Prop) (C : LawCtx w dp un cb L mean mg mb h₀ s Q) (I Tu9 T1 T2 T3 : Addr) (oI : Obj) (hc : oI.cls = .type "tuple_iterator") (hd : oI.data = .fields #[.ref Tu9, .int (3 : Nat) 0]) (m : Str → Option Value) (nn : Nat) (news : List (Addr × Obj)) (hT : (Tu9, tupO #[.ref T1, .ref T2, .ref T3] nn) ∈ news) (off : ∀ p ∈ news, p.1 ≠ I)
    (k : LawAt 15 w dp un gd cb L a ccd mean mg mb h₀ s Q (m) (news)) : LoopI I w dp un gd cb L a ccd mean mg mb h₀ s Q (m) ((I, oI) :: news) := by
  unfold LoopI
  intro h tk F N
  refine for_tup_end F N rfl hc hd hT rfl off (fun h' F' N' => ?_)
  exact k h' tk F' N'
theorem fin_sub {h₀ h : Heap} {L : Addr} {a b c d : Addr × Obj} {mid l : List (Addr × Obj)} (N : News h₀ L h (a :: b :: c :: d :: (mid ++ l))) : News h₀ L h (a :: b :: c :: l) := fun q hq => N q (by revert hq; revert q; repeat' (first | exact List.Mem.head _ | exact fun _ h => h | exact fun _ h => List.mem_append_left _ h | exact List.forall_mem_nil _ | refine mem_step ?_ ?_ | refine app_step ?_ ?_ | refine List.Mem.tail _ ?_ | refine sub_tail ?_ | refine sub_right ?_ | refine List.mem_append_right _ ?_))
theorem line_E24 : True := by
  w_top off
  run_tac Mine.Sh.keep 25
  k_with "k_ne" => (first | assumption | exact Ne.symm (by assumption) | exact ne_cls (by k_asm) (by k_mem) (by k_mem) (by rfl) | (show @Ne Nat _ _; omega))
  k_with "k_all" => (assumption)
  k_with "M off" => ((repeat (first | assumption | exact List.forall_mem_nil _ | (refine List.forall_mem_cons.mpr ⟨?_, ?_⟩; · (dsimp only; k_ne)))))
  k_with "CompSrc" => ((k_here; k_dflt (refine LCg.CompSrc.range (by rfl) (by k_asm) (by k_asm) (by assumption) (by first | decide | rfl) (by first | rfl | decide) (by first | size_fits | exact Nat.le_of_ble_eq_true rfl) ?_; intro g'; lcg_lit)))
  k_with "CompRest" => (k_dflt (first
      | (refine LCg.CompRest.succ ?_; intro v' I' oI' C' oC' D' m' h' tk' E' hv' hC' hx' F' N' off' ne'; (first | lcg_open hv' | (obtain ⟨t9', hv9'⟩ := hv'; subst hv9')); (try simp only [LCg.Off3, and_true] at off'))
      | refine LCg.CompRest.zero ?_))
  k_with "M mv" => ((first | exact mvT0 (by k_asm) | exact mvT1 (by k_asm) | exact mvT2 (by k_asm) | exact mvT3 (by k_asm) | exact mvT4 (by k_asm) | exact mvT5 (by k_asm) | exact mvT6 (by k_asm) | exact mvT7 (by k_asm) | exact mvT8 (by k_asm) | exact mvT9 (by k_asm) | exact mvT10 (by k_asm) | exact mvT11 (by k_asm) | exact mvT12 (by k_asm)))
  k_with "M lt100" => ((first | omega | (simp only [List.length_take, List.length_map] at *; omega)))
  k_with "call ref" => ((k_here; (with_reducible show wpAny _ _ (call (Value.ref 339) _) _ _ _); k_extra "M339"))
  k_with "call builtin:len" => ((k_here; (with_reducible show wpAny _ _ (call (Value.builtin "len") [Value.bytes _ _]) _ _ _); k_dflt (refine KBw.len_K (by assumption) (by (rw [sizeLine_eq]; omega)) ?_)))
  k_with "wpG" => (first
      | ((with_reducible show wpG _ _ (eval (Expr.Subscript (Expr.Subscript (Expr.Call _ _ _ _) _ _) _ _) _) _ _ _); (with_reducible refine wpG_Subscript ?_))
      | ((with_reducible show wpG _ _ (eval (Expr.Subscript (Expr.Call _ _ _ _) _ _) _) _ _ _); (with_reducible refine wpG_Subscript ?_)))
  k_with "G call" => (((with_reducible show wpG _ _ (call (Value.ref 346) _) _ _ _); k_dflt (refine wpG_any ?_; k_extra "M346")))
  k_with "wpG" => (((with_reducible show wpG _ _ (call (Value.ref 346) _) _ _ _); walk_at "G call"))
  k_with "G call" => (((with_reducible show wpG _ _ (call (Value.ref 206) _) _ _ _); k_dflt (k_extra "M206")))
  k_with "wpG" => (((with_reducible show wpG _ _ (call (Value.ref 206) _) _ _ _); walk_at "G call"))
  k_with "G call" => (((with_reducible show wpG _ _ (call (Value.ref 353) _) _ _ _); k_dflt (k_extra "M353")))
  k_with "wpG" => (((with_reducible show wpG _ _ (call (Value.ref 353) _) _ _ _); walk_at "G call"))
  k_with "ite" => ((k_here; k_openite; k_dflt (first
      | refine ite_neg (by (simp only [bne_iff_ne, beq_iff_eq, ne_eq, decide_eq_true_eq]; omega)) ?_
      | refine ite_pos (by (simp only [bne_iff_ne, beq_iff_eq, ne_eq, decide_eq_true_eq]; omega)) ?_)))
  k_with "subscriptTail" => ((k_here; k_dflt (first
      | ((with_reducible show wpAny _ _ (subscriptTail _ _ (Value.bytes _ _) (Value.int _ _)) _ _ _); (refine' it_bytes (by assumption) (by (simp only [List.length_cons]; omega)) (by decide) ?p2 ?hx ?_ ?hs ?ht; (case p2 => (simp only [List.length_cons]; omega)); (case hx => exact rfl); (case hs => with_unfolding_all rfl); (case ht => (intro _; with_unfolding_all rfl))); intro t' k'; (try dsimp only))
      | ((with_reducible show wpAny _ _ (subscriptTail _ _ (Value.ref _) (Value.int _ _)) _ _ _); refine' it_tup (news_tup (by k_asm) (by k_mem)) (by decide) (by decide) ?hj ?hx ?_ ?hs; (case hj => exact rfl); (case hx => exact rfl); (case hs => with_unfolding_all rfl); (try dsimp only))
      | ((with_reducible show wpAny _ _ (subscriptTail _ _ (Value.ref _) (Value.int _ _)) _ _ _); refine' it_list (news_list (by k_asm) (by k_mem)) (by decide) (by decide) ?hx ?_ ?hs; (case hx => exact rfl); (case hs => with_unfolding_all rfl); (try dsimp only)))))
  k_with "eval ListComp" => ((k_here; lcp_look; lcg_calm; k_dflt (refine LCp.ListComp_P (F₀ := by k_asm) (by with_unfolding_all rfl) (by decide) (by rfl) (by decide) (by rfl) (by rfl) (by decide) ?_); k_dflt lcp_toSrc))
  k_with "SrcLP" => ((k_here; k_dflt (refine LCp.SrcLP.ledger (by rfl) (by k_asm) (by k_asm) (by k_mem) (by first | size_fits | exact Nat.le_of_ble_eq_true rfl) ?_; intro g'; lcp_lit)))
  k_with "CompRestP" => (k_dflt (first
      | (refine LCp.CompRestP.succ ?_; intro v' hv'; lcg_open hv'; refine ⟨_, _, _, _, _, rfl, by k_mem, rfl, rfl, ?_⟩; intro I' oI' C' oC' D' m' h' tk' E' hC' hx' hy' F' N' off' ne')
      | refine LCp.CompRestP.zero ?_))
  k_with "CompEnd" => ((k_here; k_dflt (refine LCg.CompEnd.intro (by assumption) (by assumption) _ (fun _ hp => hp) (by assumption) (by lcg_src) ?_)))
  k_with "wpG" => (first
      | ((with_reducible show wpG _ _ (isTrue (Expr.BoolOp _ [_, _] _) _ _) _ _ _); (with_reducible refine wpG_isTrue_Or2 ?_))
      | ((with_reducible show wpG _ _ (isTrue (Expr.Compare (Expr.Call (Expr.Name _ _) _ _ _) [_] [_] _) _ _) _ _ _); k_dflt (refine' wpG_isTrue_Compare1 ?_ ?hm; (case hm => with_unfolding_all rfl))))
  k_with "compareOp NotEq ref ref" => ((k_here; k_dflt (first
      | (refine' ne_nil0 ?l ?b ?r ?_; (case l => exact news_list (by k_asm) (by k_mem)); (case b => exact news_list (by k_asm) (by k_mem)); (case r => ke_room))
      | (refine' ne_one ?l ?b ?e1 ?r ?_; (case l => exact news_list (by k_asm) (by k_mem)); (case b => exact news_list (by k_asm) (by k_mem)); (case e1 => exact str_at); (case r => ke_room)))))
  k_with "eval Compare" => ((k_here; k_dflt (refine' wpAny_Compare1 ?_ ?hm; (case hm => with_unfolding_all rfl))))
  k_with "compareOp Eq ref ref" => ((k_here; k_dflt (refine' eq_quad (news_tup (by k_asm) (by k_mem)) (news_tup (by k_asm) (by k_mem)) (EqAt.same _) (EqAt.same _) (bytes_at (by assumption)) (bytes_at (by assumption)) ?r ?_; (case r => ke_room))))
  trivial
theorem law_9 (w : World) (dp un : Nat) (gd : Option (List Code)) (cb L a : Addr) (ccd : Value) (mean : ExcName → Option Value) (mg mb : Str → Option Value) (h₀ : Heap) (s : Shared) (Q : Flow → Shared → Prop) (C : LawCtx w dp un cb L mean mg mb h₀ s Q) (pp xs ds cfs ps kas evas dls x8 d8 cf8 S8 P8 : Addr) (tts tt8 : Nat → Tok) (b0 b1 bh bf bg btr blo bps hbs b8 bp8 : Array UInt8) (t0 t1 tl th tq1 tq5 tq2 tq4 tmv tcv tros tss ttr tlo tps tcs tms tp8 c1 c2 c3 c4 : Tok) (lv mv cv : Int) (bv fv prs vr vp vq role st8 tr8 lo8 ky8 ev8 pr8 icf8 dl8 : Value) (wv sv : Option Value) (np n8 k8 nps nes nds : Nat) (m0 : Str → Option Value) (evss : Array Value) (ocfgs okys : Obj) (kvs : List (Str × Value)) (trs : List Int)
    (hcfg8 : ocfgs.IsDictOf (strKind Challenge.rw_pf0268_01.row.prog w) (strPairs [(.str (Str.ofString "random") c1, vr), (.str (Str.ofString "protocols") c2, vp), (.str (Str.ofString "params") c3, vq), (.str (Str.ofString "most") c4, .int lv tms)]))
    (hky8 : okys.IsDictOf (strKind Challenge.rw_pf0268_01.row.prog w) kvs) (hkz : kvs.length < 6) (hes : evss.size < 80) (hBt : KBw.bInts btr = trs) (htr : trs.length < 4000) (hB0 : KBw.bInts blo = []) (hB8 : KBw.bInts b8 = msg 20 (tsum [99, 108, 105, 101, 110, 116, 32, 102, 105, 110, 105, 115, 104, 101, 100] trs)) (hlv : 8 ≤ lv) (aps : Ap xs ds cfs ps kas evas dls) (offs : ∀ q ∈ (S8, W.listOf #[.ref P8] n8) :: (P8, { cls := .type "tuple", data := .seq #[.str (Str.ofString "handshake") tq1, .bytes b8 tq5] k8 }) :: (x8, instObj 328 d8) :: (d8, SD w tt8 role (.ref cf8) st8 tr8 lo8 ky8 ev8 (.bytes bp8 tp8) pr8 (.bool true) icf8 dl8) :: (pp, W.listOf #[.bytes b0 t0, .bytes b1 t1] np) :: [], ∀ y ∈ [ds, ps, kas, evas, dls], q.1 ≠ y)
    (hp0 : KBw.bInts bps = KBw.bInts b0) (hp1 : KBw.bInts bp8 = KBw.bInts b1) :
    LawAt 15 w dp un gd cb L a ccd mean mg mb h₀ s Q (fun z => if z = Str.ofString "told" then some (.ref S8) else if z = Str.ofString "whole" then wv else if z = Str.ofString "space" then sv else if z = Str.ofString "client" then some (.ref x8) else if z = Str.ofString "most" then some (.int mv tmv) else if z = Str.ofString "client" then some (.ref x8) else if z = Str.ofString "told" then some .none else if z = Str.ofString "most" then some (.int mv tmv) else if z = Str.ofString "cut" then some (.int cv tcv) else if z = Str.ofString "first" then some (.bytes bf tq2) else if z = Str.ofString "both" then some (.bytes bg tq4) else if z = Str.ofString "found" then some fv else if z = Str.ofString "server" then some (.ref xs) else if z = Str.ofString "least" then some (.int lv tl) else if z = Str.ofString "hello" then some (.bytes bh th) else if z = Str.ofString "before" then some bv else if z = Str.ofString "params" then some (.ref pp) else m0 z) ((xs, instObj 328 ds) :: (ds, SD w tts (.str (Str.ofString "server") tros) (.ref cfs) (.str (Str.ofString "wait_client_finished") tss) (.bytes btr ttr) (.bytes blo tlo) (.ref kas) (.ref evas) (.bytes bps tps) prs (.bool false) (.bool false) (.ref dls)) :: (cfs, ocfgs) :: (ps, W.listOf #[.bytes hbs tcs] nps) :: (kas, okys) :: (evas, W.listOf evss nes) :: (dls, W.listOf #[] nds) :: (S8, W.listOf #[.ref P8] n8) :: (P8, { cls := .type "tuple", data := .seq #[.str (Str.ofString "handshake") tq1, .bytes b8 tq5] k8 }) :: (x8, instObj 328 d8) :: (d8, SD w tt8 role (.ref cf8) st8 tr8 lo8 ky8 ev8 (.bytes bp8 tp8) pr8 (.bool true) icf8 dl8) :: (pp, W.listOf #[.bytes b0 t0, .bytes b1 t1] np) :: []) := by
  run_tac Mine.Sh.mark
  obtain ⟨ks, hks⟩ : ∃ ks, ks = msg 20 (tsum [99, 108, 105, 101, 110, 116, 32, 102, 105, 110, 105, 115, 104, 101, 100] trs) := ⟨_, rfl⟩
  rw [← hks] at hB8
  have hkl : ks.length = 12 := by rw [hks, msg_length, tsum_length]
  obtain ⟨X, B, T, hd1, hu1, hdone⟩ := C
  unfold LawAt
  revert X
  k_fill
  intro X h tk F N
  dsimp only [lawBody, List.drop]
  k_with "M353" => ((rename News h₀ L _ _ => N7); refine' useG (c_taken w (check_4 w) tts xs ds cfs ps kas evas dls _ _ _ _ _ _ _ _ _ _ _ _ _ _ _ _ _ _ _ _  blo b8 hbs ks _ 20 lv ocfgs okys evss #[] nps nes nds ((S8, W.listOf #[.ref P8] n8) :: (P8, { cls := .type "tuple", data := .seq #[.str (Str.ofString "handshake") tq1, .bytes b8 tq5] k8 }) :: (x8, instObj 328 d8) :: (d8, SD w tt8 role (.ref cf8) st8 tr8 lo8 ky8 ev8 (.bytes bp8 tp8) pr8 (.bool true) icf8 dl8) :: (pp, W.listOf #[.bytes b0 t0, .bytes b1 t1] np) :: []) _ hcfg8 hB0 hB8 hks (by decide) (by decide) (by (rw [tsum_length]; decide)) (by (rw [tsum_length]; decide)) (by (rw [tsum_length]; omega)) (by omega) aps offs (one_fs w tts xs ds cfs ps kas evas dls _ _ _ _ _ _  btr hbs trs ks ocfgs okys kvs evss nps nes nds aps hky8 hBt (by omega) (by omega) hkz)) ?x1 ?x2 ?x3 ?x4 ?x5 ?x6 ?x7 ?x8 ?_; (case x1 => k_asm); (case x2 => k_asm); (case x3 => k_asm); (case x4 => ((repeat' (refine List.forall_mem_cons.mpr ⟨N7 _ (by k_mem), ?_⟩)); first | exact List.forall_mem_nil _ | (intro q hq; exact N7 q (by simp [hq])))); (case x5 => k_asm); (case x6 => first | exact rfl | assumption); (case x7 => ktr_room); (case x8 => ktr_units); (intro r9 nw9 h9 tk9 F9 N9 hR; obtain ⟨bl9, tl9, hbl9, S9, vs9, n9, st9, tr9, pp9, pr9, ic9, icf9, mid9, e9, e8, _, _, _, _, ts9, b9, t9, oky9, kvs9, evs9, ne9, dls9, nd9, ext9, e1, e2, _, e3, e4, e5, e6, _, _, _, _, e7, e10, _⟩ := hR; subst e9; subst e8; subst e1; subst e2; subst e3; subst e4; subst e5; subst e6; subst e10; replace N9 := fin_sub N9))
  walk_at "G steps"
  all_goals (rename Fr h₀ L _ _ => F7; exact hdone _ _ _ F7)
  run_tac Mine.Sh.fin
end
-- E25
section
open PySem.SeqAt
theorem un_ret {w : World} {tt : Nat → Tok} {x d cf p ka eva dl S : Addr} {ocfg : Obj} {role lo : Value} {rest nw : List (Addr × Obj)} {bh : Array UInt8} {th : Tok} {np kn en : Nat} {st : String} {trw : List Int} {PP PR : Value → Prop} {ic icf : Value} {D : Array Value → Prop} {V : Array Value → List (Addr × Obj) → Prop}
    (H : HRet w tt x d cf ocfg role lo (.ref ka) (.ref eva) (.ref dl) rest (PostOf w p bh th np ka eva dl st trw kn en PP PR ic icf D V) (.ref S) nw) :
    ∃ vs n ts b t oky kvs evs ne dls nd ext pp pr, KBw.bInts b = trw ∧ PP pp ∧ PR pr ∧ oky.IsDictOf (strKind Challenge.rw_pf0268_01.row.prog w) kvs ∧ kvs.length ≤ kn ∧ evs.size ≤ en ∧ D dls ∧ V vs ext ∧ (∀ q ∈ rest, q.1 ≠ S) ∧ (∀ q ∈ rest, ∀ y ∈ ext, y.1 ≠ q.1) ∧ (∀ q ∈ rest, ∀ y ∈ [p, ka, eva, dl], q.1 ≠ y) ∧
      nw = (S, W.listOf vs n) :: (x, instObj 328 d) :: (d, SD w tt role (.ref cf) (.str (Str.ofString st) ts) (.bytes b t) lo (.ref ka) (.ref eva) pp pr ic icf (.ref dl)) :: (cf, ocfg) :: (p, W.listOf #[.bytes bh th] np) :: (ka, oky) :: (eva, W.listOf evs ne) :: (dl, W.listOf dls nd) :: (ext ++ rest) := by
  run_tac Mine.Sh.mark
  obtain ⟨S', vs, n, st', tr', pp, pr, ic', icf', mid, e9, e8, _, hS, hM, _, ts, b, t, oky, kvs, evs, ne, dls, nd, ext, e1, e2, hb, hpp, hpr, e5, e6, hky, hkz, hez, hD, e7, hV⟩ := H
  cases e9
  subst e1; subst e2; subst e5; subst e6; subst e7
  refine ⟨vs, n, ts, b, t, oky, kvs, evs, ne, dls, nd, ext, pp, pr, hb, hpp, hpr, hky, hkz, hez, hD, hV, hS, fun q hq y hy => hM q hq y (List.mem_append.mpr (.inr hy)), fun q hq y hy => ?_, e8⟩
  have g := fun z hz => hM q hq z (List.mem_append.mpr (.inl hz))
  simp only [List.mem_cons, List.not_mem_nil, or_false] at hy
  rcases hy with rfl | rfl | rfl | rfl
  · exact (g (_, _) (.head _)).symm
  · exact (g (_, _) (.tail _ (.head _))).symm
  · exact (g (_, _) (.tail _ (.tail _ (.head _)))).symm
  · exact (g (_, _) (.tail _ (.tail _ (.tail _ (.head _))))).symm
  run_tac Mine.Sh.fin
theorem five_off {x d cf p ka eva dl T1 T2 T3 Tu : Addr} {o1 o2 o3 o4 o5 o6 o7 a b c e : Obj} {l : List (Addr × Obj)} (r : Row7 l x d cf p ka eva dl) (h1 : AllLt T1 ((x, o1) :: (d, o2) :: (cf, o3) :: (p, o4) :: (ka, o5) :: (eva, o6) :: (dl, o7) :: l)) (h2 : T1 < T2) (h3 : T2 < T3) (h4 : T3 < Tu) :
    ∀ q ∈ (Tu, a) :: (T1, b) :: (T2, c) :: (T3, e) :: l, ∀ y ∈ [d, p, ka, eva, dl], q.1 ≠ y := by
  run_tac Mine.Sh.mark
  obtain ⟨g1, g2, g3, g4, g5, g6, g7, _⟩ := h1
  have h2' : @LT.lt Nat instLTNat T1 T2 := h2
  have h3' : @LT.lt Nat instLTNat T2 T3 := h3
  have h4' : @LT.lt Nat instLTNat T3 Tu := h4
  dsimp only at g1 g2 g3 g4 g5 g6 g7
  refine List.forall_mem_cons.mpr ⟨?_, List.forall_mem_cons.mpr ⟨?_, List.forall_mem_cons.mpr ⟨?_, List.forall_mem_cons.mpr ⟨?_, r.off⟩⟩⟩⟩ <;>
  · intro y hy
    simp only [List.mem_cons, List.not_mem_nil, or_false] at hy
    rcases hy with rfl | rfl | rfl | rfl | rfl <;> exact Nat.ne_of_gt (by omega)
  run_tac Mine.Sh.fin
theorem off_any {I x d c p k e v : Addr} {o1 o2 o3 o4 o5 o6 o7 : Obj} {l : List (Addr × Obj)} (h : ∀ q ∈ (x, o1) :: (d, o2) :: (c, o3) :: (p, o4) :: (k, o5) :: (e, o6) :: (v, o7) :: l, q.1 ≠ I) {n1 n2 n3 n4 n5 n6 n7 : Obj} :
    ∀ q ∈ (x, n1) :: (d, n2) :: (c, n3) :: (p, n4) :: (k, n5) :: (e, n6) :: (v, n7) :: l, q.1 ≠ I := by
  simp only [List.forall_mem_cons] at h ⊢
  exact h
theorem sub_turn {s x d c p k e v i : Addr × Obj} {l : List (Addr × Obj)} : ∀ q ∈ i :: x :: d :: c :: p :: k :: e :: v :: l, q ∈ s :: x :: d :: c :: p :: k :: e :: v :: ([] ++ i :: l) := by
  run_tac Mine.Sh.mark
  repeat' (first | exact List.Mem.head _ | exact fun _ h => h | exact fun _ h => List.mem_append_left _ h | exact List.forall_mem_nil _ | refine mem_step ?_ ?_ | refine app_step ?_ ?_ | refine List.Mem.tail _ ?_ | refine sub_tail ?_ | refine sub_right ?_ | refine List.mem_append_right _ ?_)
  run_tac Mine.Sh.fin
theorem sub_end {s y x d c p k e v i t t1 t2 t3 : Addr × Obj} {l : List (Addr × Obj)} : ∀ q ∈ i :: t :: s :: y :: x :: d :: l, q ∈ s :: x :: d :: c :: p :: k :: e :: v :: ([y] ++ i :: t :: t1 :: t2 :: t3 :: l) := by
  run_tac Mine.Sh.mark
  repeat' (first | exact List.Mem.head _ | exact fun _ h => h | exact fun _ h => List.mem_append_left _ h | exact List.forall_mem_nil _ | refine mem_step ?_ ?_ | refine app_step ?_ ?_ | refine List.Mem.tail _ ?_ | refine sub_tail ?_ | refine sub_right ?_ | refine List.mem_append_right _ ?_)
  run_tac Mine.Sh.fin
theorem mc_start {c mo : Value} {m : Str → Option Value} : (fun z => if z = Str.ofString "client" then some c else if z = Str.ofString "told" then some .none else if z = Str.ofString "most" then some mo else m z)
    = (fun z => if z = Str.ofString "told" then some .none else if z = Str.ofString "whole" then m (Str.ofString "whole") else if z = Str.ofString "space" then m (Str.ofString "space") else if z = Str.ofString "client" then some c else if z = Str.ofString "most" then some mo else if z = Str.ofString "client" then some c else if z = Str.ofString "told" then some .none else if z = Str.ofString "most" then some mo else m z) := by
  run_tac Mine.Sh.mark
  funext z
  by_cases h1 : z = Str.ofString "told"
  · subst h1; rw [if_neg (by decide), if_pos rfl, if_pos rfl]
  by_cases h2 : z = Str.ofString "whole"
  · subst h2; rw [if_neg (by decide), if_neg (by decide), if_neg (by decide), if_neg (by decide), if_pos rfl]
  by_cases h3 : z = Str.ofString "space"
  · subst h3; rw [if_neg (by decide), if_neg (by decide), if_neg (by decide), if_neg (by decide), if_neg (by decide), if_pos rfl]
  by_cases h4 : z = Str.ofString "client"
  · simp only [if_neg h1, if_neg h2, if_neg h3, if_pos h4]
  by_cases h5 : z = Str.ofString "most"
  · simp only [if_neg h1, if_neg h2, if_neg h3, if_neg h4, if_pos h5]
  simp only [if_neg h1, if_neg h2, if_neg h3, if_neg h4, if_neg h5]
  run_tac Mine.Sh.fin
theorem exts_len (p q : List Int) : (exts p q).length = 8 + p.length + q.length := by
  simp only [exts, msg_length, List.length_append, fld_length]; omega
theorem shello_len (p : List Int) : (shello p).length = 6 + p.length := by
  simp only [shello, msg_length, fld_length]; omega
theorem fin_len (p q : List Int) : (fin p q).length = 12 := by
  simp only [fin, msg_length, tsum_length]
theorem law_tail (w : World) (dp un : Nat) (gd : Option (List Code)) (cb L a : Addr) (ccd : Value) (mean : ExcName → Option Value) (mg mb : Str → Option Value) (h₀ : Heap) (s : Shared) (Q : Flow → Shared → Prop) (C : LawCtx w dp un cb L mean mg mb h₀ s Q) (pp xs x8 d8 cf8 p8 ka8 eva8 dl8 : Addr) (b0 b1 bh bf bg br8 bc8 : Array UInt8) (t0 t1 tl th tq2 tq4 tmv tcv tm8 tro8 ts8 tlo8 tc8 tbc8 tr8 c18 c28 c38 c48 : Tok) (tt8 : Nat → Tok) (lv mv : Int) (cv : Nat) (bv fv : Value) (np : Nat) (m0 : Str → Option Value) (srv : List (Addr × Obj)) (ocfg8 oky8 : Obj) (sr : List Int)
    (hsr : sr.length = 8) (hb1 : (KBw.bInts b1).length < 30) (hbh : (KBw.bInts bh).length < 100) (hf : KBw.bInts bf = shello sr) (hg : KBw.bInts bg = exts [104, 51] (KBw.bInts b1) ++ fin [115, 101, 114, 118, 101, 114, 32, 102, 105, 110, 105, 115, 104, 101, 100] (KBw.bInts bh ++ shello sr ++ exts [104, 51] (KBw.bInts b1))) (hcv : cv = (exts [104, 51] (KBw.bInts b1)).length) (hmv : 0 ≤ mv) (row8 : Row7 ((pp, W.listOf #[.bytes b0 t0, .bytes b1 t1] np) :: srv) x8 d8 cf8 p8 ka8 eva8 dl8) (hcfg8 : ocfg8.IsDictOf (strKind Challenge.rw_pf0268_01.row.prog w) (strPairs [(.str (Str.ofString "random") c18, .bytes br8 tr8), (.str (Str.ofString "protocols") c28, .ref p8), (.str (Str.ofString "params") c38, .bytes b0 t0), (.str (Str.ofString "most") c48, .int mv tm8)])) (hky8 : oky8.IsDictOf (strKind Challenge.rw_pf0268_01.row.prog w) []) (hbc : KBw.bInts bc8 = KBw.bInts bh)
    (k15 : ∀ S8 P8 n8 tq1 b8 tq5 k8 st8 tr8 lo8 ky8 ev8 bp8 tp8 pr8 icf8 dl8v wv sv, KBw.bInts b8 = msg 20 (tsum [99, 108, 105, 101, 110, 116, 32, 102, 105, 110, 105, 115, 104, 101, 100] ((KBw.bInts bh ++ shello sr ++ exts [104, 51] (KBw.bInts b1)) ++ fin [115, 101, 114, 118, 101, 114, 32, 102, 105, 110, 105, 115, 104, 101, 100] (KBw.bInts bh ++ shello sr ++ exts [104, 51] (KBw.bInts b1)))) → KBw.bInts bp8 = KBw.bInts b1 → (∀ q ∈ (pp, W.listOf #[.bytes b0 t0, .bytes b1 t1] np) :: srv, q.1 ≠ S8) → (∀ q ∈ (pp, W.listOf #[.bytes b0 t0, .bytes b1 t1] np) :: srv, q.1 ≠ P8) →
      LawAt 15 w dp un gd cb L a ccd mean mg mb h₀ s Q (fun z => if z = Str.ofString "told" then some (.ref S8) else if z = Str.ofString "whole" then wv else if z = Str.ofString "space" then sv else if z = Str.ofString "client" then some (.ref x8) else if z = Str.ofString "most" then some (.int mv tmv) else if z = Str.ofString "client" then some (.ref x8) else if z = Str.ofString "told" then some .none else if z = Str.ofString "most" then some (.int mv tmv) else if z = Str.ofString "cut" then some (.int cv tcv) else if z = Str.ofString "first" then some (.bytes bf tq2) else if z = Str.ofString "both" then some (.bytes bg tq4) else if z = Str.ofString "found" then some fv else if z = Str.ofString "server" then some (.ref xs) else if z = Str.ofString "least" then some (.int lv tl) else if z = Str.ofString "hello" then some (.bytes bh th) else if z = Str.ofString "before" then some bv else if z = Str.ofString "params" then some (.ref pp) else m0 z) ((S8, W.listOf #[.ref P8] n8) :: (P8, { cls := .type "tuple", data := .seq #[.str (Str.ofString "handshake") tq1, .bytes b8 tq5] k8 }) :: (x8, instObj 328 d8) :: (d8, SD w tt8 (.str (Str.ofString "client") tro8) (.ref cf8) st8 tr8 lo8 ky8 ev8 (.bytes bp8 tp8) pr8 (.bool true) icf8 dl8v) :: (pp, W.listOf #[.bytes b0 t0, .bytes b1 t1] np) :: srv)) :
    LawAt 14 w dp un gd cb L a ccd mean mg mb h₀ s Q (fun z => if z = Str.ofString "client" then some (.ref x8) else if z = Str.ofString "told" then some .none else if z = Str.ofString "most" then some (.int mv tmv) else if z = Str.ofString "cut" then some (.int cv tcv) else if z = Str.ofString "first" then some (.bytes bf tq2) else if z = Str.ofString "both" then some (.bytes bg tq4) else if z = Str.ofString "found" then some fv else if z = Str.ofString "server" then some (.ref xs) else if z = Str.ofString "least" then some (.int lv tl) else if z = Str.ofString "hello" then some (.bytes bh th) else if z = Str.ofString "before" then some bv else if z = Str.ofString "params" then some (.ref pp) else m0 z) ((x8, instObj 328 d8) :: (d8, SD w tt8 (.str (Str.ofString "client") tro8) (.ref cf8) (.str (Str.ofString "wait_server_hello") ts8) (.bytes bc8 tbc8) (.bytes #[] tlo8) (.ref ka8) (.ref eva8) .none .none (.bool false) (.bool false) (.ref dl8)) :: (cf8, ocfg8) :: (p8, W.listOf #[.bytes #[104, 51] tc8] 0) :: (ka8, oky8) :: (eva8, W.listOf #[] 0) :: (dl8, W.listOf #[] 0) :: (pp, W.listOf #[.bytes b0 t0, .bytes b1 t1] np) :: srv) := by
  run_tac Mine.Sh.mark
  have ap8 := row8.ap
  have hgl : (KBw.bInts bg).length = 10 + (KBw.bInts b1).length + 12 := by rw [hg, List.length_append, fin_len, exts_len]; simp only [List.length_cons, List.length_nil]
  have hcl : cv = 10 + (KBw.bInts b1).length := by rw [hcv, exts_len]; simp only [List.length_cons, List.length_nil]
  refine law_6 w dp un gd cb L a ccd mean mg mb h₀ s Q C pp xs x8 d8 cf8 p8 ka8 eva8 dl8 _ _ _ _ _ _ _ b0 b1 bh bf bg t0 t1 tl th tq2 tq4 tmv tcv lv mv cv bv fv np m0 srv _ rfl (by omega) (by omega) (fun I oI Tu9 T1 T2 T3 q1 q2 q3 ba ta bb tb hc hd hba hbb offI lt1 lt2 lt3 lt4 => ?_)
  rw [mc_start]
  rw [hg, hcv, List.take_left] at hba
  rw [hg, hcv, List.drop_left] at hbb
  have off9 := fun (a b c e : Obj) => five_off (a := a) (b := b) (c := c) (e := e) row8 lt1 lt2 lt3 lt4
  have one1 := one_sh w tt8 x8 d8 cf8 p8 ka8 eva8 dl8 tbc8 tc8 (.str (Str.ofString "client") tro8) .none .none (.bool false) (.bool false) sr bc8 #[104, 51] _ (shello sr) ocfg8 oky8 [] #[] #[] 0 0 0 ap8 hky8 rfl (by rw [hbc, shello_len]; omega) hsr (by decide) (by decide)
  by_cases hl1 : mv < ((fld sr).length : Int)
  · exact law_turn_r w dp un gd cb L a ccd mean mg mb h₀ s Q C I Tu9 T1 T2 T3 T1 x8 d8 cf8 p8 ka8 eva8 dl8 oI _ _ _ ocfg8 oky8 0 _ 0 0 0 (check_1 w) tt8 tmv tm8 ts8 tlo8 tc8 c18 c28 c38 c48 _ _ mv _ _ _ _ _ _ _ _ _ _ _ _ #[] #[104, 51] bf #[] #[] _ _ 2 _ hc hd rfl (.tail _ (.head _)) hcfg8 rfl rfl hf (by decide) (by decide) (by rw [fld_length]; omega) (by rw [fld_length]; omega) (by decide) ap8 (off9 _ _ _ _) offI hl1 hmv
  refine law_turn_t w dp un gd cb L a ccd mean mg mb h₀ s Q C I Tu9 T1 T2 T3 T1 x8 d8 cf8 p8 ka8 eva8 dl8 oI _ _ _ ocfg8 oky8 0 _ 0 0 0 (check_1 w) tt8 tmv tm8 ts8 tlo8 tc8 c18 c28 c38 c48 _ _ mv _ _ _ _ _ _ _ _ _ _ _ _ #[] #[104, 51] bf #[] #[] (shello sr) (fld sr) 2 _ hc hd rfl (.tail _ (.head _)) hcfg8 rfl hf rfl (by decide) (by decide) (by rw [fld_length]; omega) (by rw [fld_length]; omega) (by decide) ap8 (off9 _ _ _ _) offI (by omega) _ one1 (fun S1 bl1 tl1 oI1 nw1 hc1 hd1 hbl1 H1 => ?_)
  obtain ⟨vs1, n1, ts1, br1, tb1, oky1, kvs1, evs1, ne1, dls1, nd1, ext1, pp1, pr1, hbr1, e1, e2, hky1, hkz1, hez1, e3, ⟨e4, e5⟩, _, _, _, e6⟩ := un_ret H1
  clear H1
  subst e1; subst e2; subst e3; subst e4; subst e5; subst e6
  refine loop_sub sub_turn ?_
  rw [hbc] at hbr1
  have hez1' : evs1.size ≤ 1 := hez1
  have hkz1' : kvs1.length ≤ 1 := hkz1
  have hrl1 : (KBw.bInts br1).length = (KBw.bInts bh).length + 14 := by rw [hbr1, List.length_append, shello_len]; omega
  have hxl : (exts [104, 51] (KBw.bInts b1)).length = 10 + (KBw.bInts b1).length := by rw [exts_len]; simp only [List.length_cons, List.length_nil]
  have hfl : (fld [104, 51] ++ fld (KBw.bInts b1)).length = 6 + (KBw.bInts b1).length := by simp only [List.length_append, fld_length, List.length_cons, List.length_nil]; omega
  have one2 := one_ex w tt8 x8 d8 cf8 p8 ka8 eva8 dl8 tb1 tc8 (.str (Str.ofString "client") tro8) .none .none (.bool false) (.bool false) _ _ _ _ _ _ _ [104, 51] (KBw.bInts b1) br1 #[104, 51] _ (exts [104, 51] (KBw.bInts b1)) ocfg8 oky1 kvs1 evs1 #[] 0 ne1 nd1 ap8 hky1 hcfg8 rfl (by omega) (by rfl) (by decide) (by omega) (by omega) (by omega)
  by_cases hl2 : mv < ((fld [104, 51] ++ fld (KBw.bInts b1)).length : Int)
  · exact law_turn_r w dp un gd cb L a ccd mean mg mb h₀ s Q C I Tu9 T1 T2 T3 T2 x8 d8 cf8 p8 ka8 eva8 dl8 oI1 _ _ _ ocfg8 oky1 1 _ 0 ne1 nd1 (check_2 w) tt8 tmv tm8 ts1 tl1 tc8 c18 c28 c38 c48 _ _ mv _ _ _ _ _ _ _ _ _ _ _ _ bl1 #[104, 51] ba evs1 #[] _ _ 8 _ hc1 hd1 rfl (.tail _ (.tail _ (.head _))) hcfg8 hbl1 rfl hba (by decide) (by decide) (by omega) (by omega) (by omega) ap8 (off9 _ _ _ _) (off_any offI) hl2 hmv
  refine law_turn_t w dp un gd cb L a ccd mean mg mb h₀ s Q C I Tu9 T1 T2 T3 T2 x8 d8 cf8 p8 ka8 eva8 dl8 oI1 _ _ _ ocfg8 oky1 1 _ 0 ne1 nd1 (check_2 w) tt8 tmv tm8 ts1 tl1 tc8 c18 c28 c38 c48 _ _ mv _ _ _ _ _ _ _ _ _ _ _ _ bl1 #[104, 51] ba evs1 #[] (exts [104, 51] (KBw.bInts b1)) (fld [104, 51] ++ fld (KBw.bInts b1)) 8 _ hc1 hd1 rfl (.tail _ (.tail _ (.head _))) hcfg8 hbl1 hba rfl (by decide) (by decide) (by omega) (by omega) (by omega) ap8 (off9 _ _ _ _) (off_any offI) (by omega) _ one2 (fun S2 bl2 tl2 oI2 nw2 hc2 hd2 hbl2 H2 => ?_)
  obtain ⟨vs2, n2, ts2, br2, tb2, oky2, kvs2, evs2, ne2, dls2, nd2, ext2, pp2, pr2, hbr2, ⟨bp2, tp2, e1, hbp2⟩, e2, hky2, hkz2, hez2, e3, ⟨e4, e5⟩, _, _, _, e6⟩ := un_ret H2
  clear H2
  subst e1; subst e3; subst e4; subst e5; subst e6
  refine loop_sub sub_turn ?_
  rw [hbr1] at hbr2
  have hrl2 : (KBw.bInts br2).length < 1000 := by rw [hbr2, List.length_append, ← hbr1]; omega
  rw [← hbr2] at hbb k15
  have one3 := one_fc w tt8 x8 d8 cf8 p8 ka8 eva8 dl8 tb2 tc8 tro8 (.bytes bp2 tp2) pr2 (.bool false) (.bool false) br2 #[104, 51] _ (fin [115, 101, 114, 118, 101, 114, 32, 102, 105, 110, 105, 115, 104, 101, 100] (KBw.bInts br2)) ocfg8 oky2 kvs2 evs2 #[] 0 ne2 nd2 ap8 hky2 rfl (by rw [fin_len]; omega) (by omega) (by omega)
  by_cases hl3 : mv < ((tsum [115, 101, 114, 118, 101, 114, 32, 102, 105, 110, 105, 115, 104, 101, 100] (KBw.bInts br2)).length : Int)
  · exact law_turn_r w dp un gd cb L a ccd mean mg mb h₀ s Q C I Tu9 T1 T2 T3 T3 x8 d8 cf8 p8 ka8 eva8 dl8 oI2 _ _ _ ocfg8 oky2 2 _ 0 ne2 nd2 (check_3 w) tt8 tmv tm8 ts2 tl2 tc8 c18 c28 c38 c48 _ _ mv _ _ _ _ _ _ _ _ _ _ _ _ bl2 #[104, 51] bb evs2 #[] _ _ 20 _ hc2 hd2 rfl (.tail _ (.tail _ (.tail _ (.head _)))) hcfg8 hbl2 rfl hbb (by decide) (by decide) (by rw [tsum_length]; decide) (by rw [tsum_length]; decide) (by omega) ap8 (off9 _ _ _ _) (off_any offI) hl3 hmv
  refine law_turn_t w dp un gd cb L a ccd mean mg mb h₀ s Q C I Tu9 T1 T2 T3 T3 x8 d8 cf8 p8 ka8 eva8 dl8 oI2 _ _ _ ocfg8 oky2 2 _ 0 ne2 nd2 (check_3 w) tt8 tmv tm8 ts2 tl2 tc8 c18 c28 c38 c48 _ _ mv _ _ _ _ _ _ _ _ _ _ _ _ bl2 #[104, 51] bb evs2 #[] (fin [115, 101, 114, 118, 101, 114, 32, 102, 105, 110, 105, 115, 104, 101, 100] (KBw.bInts br2)) (tsum [115, 101, 114, 118, 101, 114, 32, 102, 105, 110, 105, 115, 104, 101, 100] (KBw.bInts br2)) 20 _ hc2 hd2 rfl (.tail _ (.tail _ (.tail _ (.head _)))) hcfg8 hbl2 hbb rfl (by decide) (by decide) (by rw [tsum_length]; decide) (by rw [tsum_length]; decide) (by omega) ap8 (off9 _ _ _ _) (off_any offI) (by omega) _ one3 (fun S3 bl3 tl3 oI3 nw3 hc3 hd3 hbl3 H3 => ?_)
  obtain ⟨vs3, n3, ts3, br3, tb3, oky3, kvs3, evs3, ne3, dls3, nd3, ext3, pp3, pr3, hbr3, e1, e2, hky3, hkz3, hez3, e3, ⟨P3, tq31, b3, tq32, k3, e4, hb3, e5⟩, hS3, hX3, _, e6⟩ := un_ret H3
  clear H3
  subst e1; subst e2; subst e3; subst e4; subst e5; subst e6
  refine loop_sub sub_end ?_
  have hI3 : ∀ q ∈ (I, oI3) :: [], q.1 ≠ S3 := fun q hq => hS3 q (by rw [List.mem_singleton] at hq; rw [hq]; exact .head _)
  simp only [List.forall_mem_cons] at offI
  refine law_8 w dp un gd cb L a ccd mean mg mb h₀ s Q C I Tu9 T1 T2 T3 oI3 hc3 hd3 _ 0 _ (.head _) ?_ (law_sub (fun q hq => .tail _ hq) (k15 S3 P3 n3 tq31 b3 tq32 k3 _ _ _ _ _ bp2 tp2 _ _ _ _ _ hb3 hbp2 (fun q hq => hS3 q (.tail _ (.tail _ (.tail _ (.tail _ (.tail _ hq)))))) (fun q hq => (hX3 q (.tail _ (.tail _ (.tail _ (.tail _ (.tail _ hq))))) _ (.head _)).symm)))
  simp only [List.forall_mem_cons]
  exact ⟨offI.2.2.2.2.2.2.2.1, (hS3 (I, oI3) (.head _)).symm, hX3 (I, oI3) (.head _) _ (.head _), offI.1, offI.2.1, offI.2.2.2.2.2.2.2.2.2.2.2⟩
  run_tac Mine.Sh.fin
end
-- E26
section
open PySem.SeqAt
theorem exts_head (p q : List Int) (h : p.length + q.length + 4 < 256) : exts p q = 8 :: 0 :: 0 :: ((p.length + q.length + 4 : Nat) : Int) :: (fld p ++ fld q) := by
  run_tac Mine.Sh.mark
  have hl : (fld p ++ fld q).length = p.length + q.length + 4 := by simp only [List.length_append, fld_length]; omega
  unfold exts msg
  rw [hl]
  obtain ⟨k, hk⟩ : ∃ k : Nat, k = p.length + q.length + 4 := ⟨_, rfl⟩
  rw [← hk] at h ⊢
  have e1 : (k : Int) / 256 = 0 := by omega
  have e2 : (k : Int) % 256 = k := by omega
  simp only [be, e1, e2]
  rfl
  run_tac Mine.Sh.fin
theorem sub_srv {s x d c p k e v y z : Addr × Obj} {l : List (Addr × Obj)} : ∀ q ∈ s :: y :: z :: (l ++ [x, d, c, p, k, e, v]), q ∈ s :: x :: d :: c :: p :: k :: e :: v :: ([y, z] ++ l) := by
  run_tac Mine.Sh.mark
  repeat' (first | exact List.Mem.head _ | exact fun _ h => h | exact fun _ h => List.mem_append_left _ h | exact List.forall_mem_nil _ | refine mem_step ?_ ?_ | refine app_step ?_ ?_ | refine List.Mem.tail _ ?_ | refine sub_tail ?_ | refine sub_right ?_ | refine List.mem_append_right _ ?_)
  run_tac Mine.Sh.fin
theorem sub_9 {s y x d p a b c e f g i : Addr × Obj} : ∀ q ∈ a :: b :: c :: e :: f :: g :: i :: s :: y :: x :: d :: p :: [], q ∈ s :: y :: x :: d :: p :: a :: b :: c :: e :: f :: g :: i :: [] := by
  run_tac Mine.Sh.mark
  repeat' (first | exact List.Mem.head _ | exact fun _ h => h | exact fun _ h => List.mem_append_left _ h | exact List.forall_mem_nil _ | refine mem_step ?_ ?_ | refine app_step ?_ ?_ | refine List.Mem.tail _ ?_ | refine sub_tail ?_ | refine sub_right ?_ | refine List.mem_append_right _ ?_)
  run_tac Mine.Sh.fin
theorem row_xd {news : List (Addr × Obj)} {x d cf p ka eva dl : Addr} (r : Row7 news x d cf p ka eva dl) : ∀ q ∈ news, q.1 ≠ x ∧ q.1 ≠ d := fun q hq => by
  have a : @LT.lt Nat instLTNat cf p := r.a
  have b : @LT.lt Nat instLTNat p d := r.b
  have c : @LT.lt Nat instLTNat d x := r.c
  have n : @LT.lt Nat instLTNat q.1 cf := r.n q hq
  exact ⟨Nat.ne_of_lt (by omega), Nat.ne_of_lt (by omega)⟩
theorem row_7 {news : List (Addr × Obj)} {x d cf p ka eva dl : Addr} (r : Row7 news x d cf p ka eva dl) {z : Addr} {o : Obj} (hz : (z, o) ∈ news) {o1 o2 o3 o4 o5 o6 o7 : Obj} : ∀ q ∈ [(x, o1), (d, o2), (cf, o3), (p, o4), (ka, o5), (eva, o6), (dl, o7)], q.1 ≠ z := fun q hq => by
  have a : @LT.lt Nat instLTNat cf p := r.a
  have b : @LT.lt Nat instLTNat p d := r.b
  have c : @LT.lt Nat instLTNat d x := r.c
  have e : @LT.lt Nat instLTNat x ka := r.e
  have f : @LT.lt Nat instLTNat ka eva := r.f
  have g : @LT.lt Nat instLTNat eva dl := r.g
  have n : @LT.lt Nat instLTNat z cf := r.n _ hz
  simp only [List.mem_cons, List.not_mem_nil, or_false] at hq
  rcases hq with rfl | rfl | rfl | rfl | rfl | rfl | rfl <;> exact Nat.ne_of_gt (by dsimp only; omega)
theorem law_all (w : World) (dp un : Nat) (gd : Option (List Code)) (cb L a : Addr) (ccd : Value) (mean : ExcName → Option Value) (mg mb : Str → Option Value) (h₀ : Heap) (s : Shared) (Q : Flow → Shared → Prop) (C : LawCtx w dp un cb L mean mg mb h₀ s Q) (bx dr : Addr) (tc : Tok) (vs : List Value) (ns : List Int) (hI : IntsAre vs ns) (hz : vs.length < 100) (n nd : Nat) (oc : Obj) (hoc : oc.data = .cell (some (.ref bx))) (m0 : Str → Option Value) (h1 : dr ≠ bx) (h2 : cb ≠ bx) (h3 : cb ≠ dr) :
    LawAt 1 w dp un gd cb L a ccd mean mg mb h₀ s Q (m0) ((bx, W.listOf #[.ref dr, .int 0 tc] n) :: (dr, W.listOf vs.toArray nd) :: (cb, oc) :: []) := by
  run_tac Mine.Sh.mark
  refine law_1 w dp un gd cb L a ccd mean mg mb h₀ s Q C bx dr tc vs ns hI hz n nd oc hoc m0 h1 h2 h3 (fun pp b0 t0 b1 t1 tc vs ns n nd np hI hz hb0 hb1 h4 h5 h6 => ?_)
  refine law_2 w dp un gd cb L a ccd mean mg mb h₀ s Q C bx dr pp b0 b1 tc t0 t1 vs ns hI hz n nd np oc hoc m0 h1 h2 h3 h4 h5 h6 hb0 (fun lv tl bh th bv tc vs ns n nd hI hz hB hl0 hl1 => ?_)
  by_cases hl : lv < 18 + ((KBw.bInts b0).length : Int)
  · exact law_3r w dp un gd cb L a ccd mean mg mb h₀ s Q C bx dr pp b0 b1 bh tc t0 t1 tl th lv bv CR vs ns hI hz n nd np oc hoc m0 h1 h2 h3 h4 h5 h6 hb0 hb1 rfl hB hl (by omega)
  refine law_3t w dp un gd cb L a ccd mean mg mb h₀ s Q C bx dr pp b0 b1 bh tc t0 t1 tl th lv bv CR vs ns hI hz n nd np oc hoc m0 h1 h2 h3 h4 h5 h6 hb0 hb1 rfl hB (by omega) (fun S8 xs ds cfs ps kas evas dls tts brs trs c1 c2 c3 c4 tms tros tcs bls tls ocfgs nw row hcfg hbrs hbls H => ?_)
  rw [← hB] at H
  obtain ⟨vs1, n1, tss, btr, ttr, okys, kvss, evss, nes, dlss, nds, ext, pps, prs, hbtr, ⟨bps, tps, e1, hbps⟩, _, hky, hkz, hez, e3, ⟨P1, P2, tq1, bf, tq2, k1, tq3, bg, tq4, k2, e4, hbf, hbg, e5⟩, hS, hX, hM, e6⟩ := un_ret H
  clear H
  subst e1; subst e3; subst e4; subst e5; subst e6
  have hbhl : (KBw.bInts bh).length = 22 + (KBw.bInts b0).length := by rw [hB, chello_len rfl]; simp only [List.length_cons, List.length_nil]
  have hxl : (exts [104, 51] (KBw.bInts b1)).length = 10 + (KBw.bInts b1).length := by rw [exts_len]; simp only [List.length_cons, List.length_nil]
  have hxh : (exts [104, 51] (KBw.bInts b1)) = 8 :: 0 :: 0 :: ((([104, 51] : List Int).length + (KBw.bInts b1).length + 4 : Nat) : Int) :: (fld [104, 51] ++ fld (KBw.bInts b1)) := exts_head _ _ (by simp only [List.length_cons, List.length_nil]; omega)
  have hgh : KBw.bInts bg = 8 :: 0 :: 0 :: ((6 + (KBw.bInts b1).length : Nat) : Int) :: ((fld [104, 51] ++ fld (KBw.bInts b1)) ++ fin [115, 101, 114, 118, 101, 114, 32, 102, 105, 110, 105, 115, 104, 101, 100] (KBw.bInts bh ++ shello (KBw.bInts brs) ++ (exts [104, 51] (KBw.bInts b1)))) := by
    rw [hbg]
    refine (congrArg (· ++ _) hxh).trans ?_
    have e : ([104, 51] : List Int).length + (KBw.bInts b1).length + 4 = 6 + (KBw.bInts b1).length := by simp only [List.length_cons, List.length_nil]; omega
    rw [e]
    rfl
  have hgl : ((fld [104, 51] ++ fld (KBw.bInts b1)) ++ fin [115, 101, 114, 118, 101, 114, 32, 102, 105, 110, 105, 115, 104, 101, 100] (KBw.bInts bh ++ shello (KBw.bInts brs) ++ (exts [104, 51] (KBw.bInts b1)))).length = 18 + (KBw.bInts b1).length := by
    rw [List.length_append, fin_len, List.length_append, fld_length, fld_length]; simp only [List.length_cons, List.length_nil]; omega
  have hfl : (shello (KBw.bInts brs)).length = 14 := by rw [shello_len, hbrs]
  obtain ⟨srv, hsrv⟩ : ∃ l, l = (xs, instObj 328 ds) :: (ds, SD w tts (.str (Str.ofString "server") tros) (.ref cfs) (.str (Str.ofString "wait_client_finished") tss) (.bytes btr ttr) (.bytes bls tls) (.ref kas) (.ref evas) (.bytes bps tps) prs (.bool false) (.bool false) (.ref dls)) :: (cfs, ocfgs) :: (ps, W.listOf #[.bytes #[104, 51] tcs] 0) :: (kas, okys) :: (evas, W.listOf evss nes) :: (dls, W.listOf #[] nds) :: [] := ⟨_, rfl⟩
  have hsx : ∀ q ∈ srv, q.1 ≠ bx ∧ q.1 ≠ dr := fun q hq => by
    rw [hsrv] at hq
    exact ⟨row_7 row (.tail _ (.head _)) q hq, row_7 row (.tail _ (.tail _ (.head _))) q hq⟩
  refine law_sub (sub_srv (l := [_, _, _, _])) ?_
  rw [← hsrv]
  refine law_4 w dp un gd cb L a ccd mean mg mb h₀ s Q C bx dr pp b0 b1 bh tc t0 t1 tl th lv bv vs ns hI hz n nd np oc hoc m0 h1 h2 h3 h4 h5 h6 srv hsx S8 P1 P2 xs n1 k1 k2 tq1 tq2 tq3 tq4 bf bg _ [] hbf 0 0 _ _ hgh (by rw [hfl]; decide) (by rw [hfl]; decide) (by rw [hgl]; omega) (by omega) (by rw [hgl]; omega) (fun tc vs ns n nd mv tmv cv tcv hI hz hmv hcv => ?_)
  obtain ⟨cn, hcn⟩ : ∃ cn, cn = (exts [104, 51] (KBw.bInts b1)).length := ⟨_, rfl⟩
  have hcv' : cv = (cn : Int) := by rw [hcv, hcn, hxl]; omega
  subst hcv'
  refine law_sub (l2 := (pp, W.listOf #[.bytes b0 t0, .bytes b1 t1] np) :: srv) (fun q hq => ?_) ?_
  · simp only [List.mem_cons] at hq ⊢
    rcases hq with h | h <;> simp [h]
  refine law_5 w dp un gd cb L a ccd mean mg mb h₀ s Q C pp xs b0 b1 bh bf bg t0 t1 tl th tq2 tq4 tmv tcv lv mv cn bv (.ref S8) np m0 srv hb0 hB (fun tt8 x8 d8 cf8 p8 ka8 eva8 dl8 br8 tr8 c18 c28 c38 c48 tm8 tro8 ts8 tlo8 tc8 bc8 tbc8 ocfg8 oky8 row8 hcfg8 hky8 hbc => ?_)
  refine law_tail w dp un gd cb L a ccd mean mg mb h₀ s Q C pp xs x8 d8 cf8 p8 ka8 eva8 dl8 b0 b1 bh bf bg br8 bc8 t0 t1 tl th tq2 tq4 tmv tcv tm8 tro8 ts8 tlo8 tc8 tbc8 tr8 c18 c28 c38 c48 tt8 lv mv cn bv (.ref S8) np m0 srv ocfg8 oky8 _ hbrs hb1 (by omega) hbf hbg hcn hmv row8 hcfg8 hky8 hbc (fun S9 P9 n9 tq9 b9 tq5 k9 st9 tr9 lo9 ky9 ev9 bp9 tp9 pr9 icf9 dl9 wv sv hb9 hbp9 hS9 hP9 => ?_)
  have hrow := row_xd row8
  have hyy : ∀ y ∈ [ds, ps, kas, evas, dls], ∃ o, (y, o) ∈ (pp, W.listOf #[.bytes b0 t0, .bytes b1 t1] np) :: srv := fun y hy => by
    rw [hsrv]
    simp only [List.mem_cons, List.not_mem_nil, or_false] at hy
    rcases hy with rfl | rfl | rfl | rfl | rfl
    · exact ⟨_, .tail _ (.tail _ (.head _))⟩
    · exact ⟨_, .tail _ (.tail _ (.tail _ (.tail _ (.head _))))⟩
    · exact ⟨_, .tail _ (.tail _ (.tail _ (.tail _ (.tail _ (.head _)))))⟩
    · exact ⟨_, .tail _ (.tail _ (.tail _ (.tail _ (.tail _ (.tail _ (.head _))))))⟩
    · exact ⟨_, .tail _ (.tail _ (.tail _ (.tail _ (.tail _ (.tail _ (.tail _ (.head _)))))))⟩
  have hl1 : (KBw.bInts bh ++ shello (KBw.bInts brs) ++ (exts [104, 51] (KBw.bInts b1))).length < 300 := by simp only [List.length_append, hxl, hfl, hbhl]; omega
  have k := law_9 w dp un gd cb L a ccd mean mg mb h₀ s Q C pp xs ds cfs ps kas evas dls x8 d8 cf8 S9 P9 tts tt8 b0 b1 bh bf bg btr bls bps #[104, 51] b9 bp9 t0 t1 tl th tq9 tq5 tq2 tq4 tmv tcv tros tss ttr tls tps tcs tms tp9 c1 c2 c3 c4 lv mv cn bv (.ref S8) prs (.bytes brs trs) (.ref ps) (.bytes b1 t1) (.str (Str.ofString "client") tro8) st9 tr9 lo9 ky9 ev9 pr9 icf9 dl9 wv sv np n9 k9 0 nes nds m0 evss ocfgs okys kvss _ hcfg hky (by omega) (by omega) hbtr (by rw [List.length_append, fin_len]; omega) hbls hb9 (by omega) row.ap
    (List.forall_mem_cons.mpr ⟨fun y hy => (hyy y hy).elim fun o h => (hS9 _ h).symm, List.forall_mem_cons.mpr ⟨fun y hy => (hyy y hy).elim fun o h => (hP9 _ h).symm, List.forall_mem_cons.mpr ⟨fun y hy => (hyy y hy).elim fun o h => (hrow _ h).1.symm, List.forall_mem_cons.mpr ⟨fun y hy => (hyy y hy).elim fun o h => (hrow _ h).2.symm, List.forall_mem_cons.mpr ⟨row.off _ (.head _), List.forall_mem_nil _⟩⟩⟩⟩⟩) hbps hbp9
  rw [hsrv]
  exact law_sub sub_9 k
  run_tac Mine.Sh.fin
end
-- E15
section
open PySem.SeqAt
theorem cutL {h₀ h : Heap} {L : Addr} {a b c d : Addr × Obj} (N : News h₀ L h [a, b, c, d]) : News h₀ L h [a, b, d] := fun q hq => N q (by
  simp only [List.mem_cons, List.not_mem_nil, or_false] at hq ⊢
  rcases hq with h | h | h <;> simp [h])
theorem line_E15 : True := by
  w_top off
  run_tac Mine.Sh.keep 25
  k_with "k_ne" => (first | assumption | exact Ne.symm (by assumption) | exact ne_cls (by k_asm) (by k_mem) (by k_mem) (by rfl) | (show @Ne Nat _ _; omega))
  k_with "k_all" => (assumption)
  k_with "M off" => ((repeat (first | assumption | exact List.forall_mem_nil _ | (refine List.forall_mem_cons.mpr ⟨?_, ?_⟩; · (dsimp only; k_ne)))))
  k_with "wpG" => (((with_reducible show wpG _ _ (exec (Stmt.If _ _ _ _) _) _ _ _); (refine wpG_any ?_)))
  k_with "CompSrc" => ((k_here; k_dflt (refine LCg.CompSrc.range (by rfl) (by k_asm) (by k_asm) (by assumption) (by first | decide | rfl) (by first | rfl | decide) (by first | size_fits | exact Nat.le_of_ble_eq_true rfl) ?_; intro g'; lcg_lit)))
  k_with "CompRest" => (k_dflt (first
      | (refine LCg.CompRest.succ ?_; intro v' I' oI' C' oC' D' m' h' tk' E' hv' hC' hx' F' N' off' ne'; (first | lcg_open hv' | (obtain ⟨t9', hv9'⟩ := hv'; subst hv9')); (try simp only [LCg.Off3, and_true] at off'))
      | refine LCg.CompRest.zero ?_))
  k_with "M mv" => ((first | exact mvT0 (by k_asm) | exact mvT1 (by k_asm) | exact mvT2 (by k_asm) | exact mvT3 (by k_asm) | exact mvT4 (by k_asm) | exact mvT5 (by k_asm) | exact mvT6 (by k_asm) | exact mvT7 (by k_asm) | exact mvT8 (by k_asm) | exact mvT9 (by k_asm) | exact mvT10 (by k_asm) | exact mvT11 (by k_asm) | exact mvT12 (by k_asm)))
  k_with "M lt100" => ((first | omega | (simp only [List.length_take, List.length_map] at *; omega)))
  k_with "call ref" => ((k_here; (with_reducible show wpAny _ _ (call (Value.ref 339) _) _ _ _); k_extra "M339"))
  k_with "wpG" => (((with_reducible show wpG _ _ (execs (Stmt.Assign [Expr.Name (Str.ofString "params") _] _ _ :: _) _) _ _ _); k_dflt (k_extra "MNEXT")))
  trivial
theorem the_walk : TheWalk := by
  run_tac Mine.Sh.mark
  unfold TheWalk
  k_fill
  intro w s₀ s₁ mg mb G KX hg args vals as hpre hlay hrd hwl hlo
  obtain ⟨fa, fo, pm, cd, doc, dV, kV, hmg, ho, hd0, hcd, hD⟩ := G.fn (show defOf hd.view_39 theRow.name = some _ from rfl)
  refine ⟨.ref fa, hmg, ?_⟩
  dsimp only at hd0 hcd hD
  have X := (Ground.X G).1
  have V := (Ground.X G).2
  refine Ground.open G ?_
  intro T B D TE TW
  try (refine guard_noD D (by decide +kernel) ?_; clear D)
  obtain ⟨_, _, M⟩ := bmod_of_top T
  have TA := at_of_top T
  try (obtain ⟨_, _, he, B0⟩ := based_of_top T rfl hmg ho hd0; have he' : cd = _ := he; subst he'; clear he)
  clear hmg
  wrow_args hpre hlay hrd hwl hlo
  all_goals (refine wpG_call ?_)
  have K0 := below_caller (Top.heap T)
  have he := Dflts.none hD rfl
  subst he
  have he := Dflts.noKw hD
  subst he
  refine call_cellsG (by decide) ho (fd_plain hd0) (Top.nolimit T) hcd rfl (kinds_of (by kinds_ok)) (by decide) fun h₁ tk₁ cells F N0 X0 => ?_
  cells_open X0
  k_drop
  have hd1 : (callerA.depth + 1) + 100 < recursionLimit := by decide
  have hu1 : (callerA.units + 3) + 8 * 100 < cLine := by decide
  show wpG (model theRow.prog w) (ktrTop (callerA.depth + 1) (callerA.units + 3) callerA.guards (Str.ofString "law") _ s₁.heap.objs.size fa _ _ []) _ _ _ _
  revert hd1 hu1
  generalize callerA.depth + 1 = dp
  generalize callerA.units + 3 = un
  generalize callerA.guards = gd
  intro hd1 hu1
  k_with "MNEXT" => ((rename News _ _ _ _ => N7); (rename Fr _ _ _ _ => F7); (rename (@LT.lt _ _ _ _ ∧ _) => L1); (rename (@Ne _ _ _ ∧ @Ne _ _ _) => O1); (rename IntsAre _ (List.map _ _) => HI); (rename _ = Data.cell (some _) => HC); refine' law_all w dp un gd (s₁.heap.objs.size + 1) s₁.heap.objs.size fa _ (ExcName.means s₀.heap) mg mb s₁.heap s₁ _ ?C _ _ _ _ _ HI ?hz _ _ _ HC _ (Nat.ne_of_lt L1.1) (Nat.ne_of_lt L1.2.2) O1.2 _ _ F7 (cutL N7); (case hz => (rw [HI.length, List.length_map, List.length_take]; omega)); (case C => exact ⟨KX, K0, T, hd1, hu1, fun h' tk' m' F => ⟨.inl ⟨.bool true, .bool true, [], rfl, fun _ => rfl, .bool true, postW_of (X := true) (by wrow_shape) (by wtm_val) rfl, fun _ => ⟨List.nodup_nil, fun _ h => nomatch h⟩⟩, .of_keep F.keep, rfl, .of_eq hg⟩⟩))
  walk_at "G steps"
  run_tac Mine.Sh.fin
end
end Mine
theorem PySem.Challenge.cw_pf0268_01_holds : PySem.Challenge.rw_pf0268_01.Holds :=
  Mine.law_of_walk Mine.the_walk
