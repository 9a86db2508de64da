import PyProof.Rows.All
import Wide.All
import OpenK.AllK
import Wide.FinOn
import Lean
import PySem.Challenge.RW_no0059_01
set_option Elab.async false
set_option compiler.extract_closed false
section
open PySem PySem.W PyProof.Rows PySem.Calls
open PySem.Sem (wp)
set_option maxRecDepth 100000
namespace Mine
/-- no code that holds a buffer for a decoder -/
def okC : Code → Bool
  | .builtin id _ => !(Builtin.Bytes.decodersThatHold.contains id) && !(["bytearray.__contains__", "bytearray.__mod__", "bytearray.__rmod__", "_struct.pack_into.held", "bytearray.find.held"].contains id)
  | _ => true
def Clean (Γ : Ctx) : Prop := okC Γ.code = true ∧ ∀ x ∈ Γ.below, okC x.1 = true
theorem Clean.enter {Γ : Ctx} (h : Clean Γ) {c : Code} (hc : okC c = true) (hd : Option Value) (p : Pos) : Clean (Γ.enter c hd p) :=
  ⟨hc, fun x hx => by
    rcases List.mem_cons.mp hx with rfl | hx
    · exact h.1
    · exact h.2 x hx⟩
theorem Clean.goto {Γ : Ctx} (h : Clean Γ) {c : Code} (hc : okC c = true) : Clean (Γ.goto c) := ⟨hc, h.2⟩
def wpN {α : Type} (M : Model) (A : Around) (t : Sem α) (Q : α → Shared → Prop) (E : Value → Shared → Prop) (s : Shared) : Prop :=
  ∀ Γ p, Γ.In A → Clean Γ → wp M Γ t (fun a _ s' => Q a s') (fun e _ s' => E e s') p s
def codeN (M : Model) (A : Around) (c : Code) (R : Result → Shared → Prop) (s : Shared) : Prop :=
  ∀ Γ p, Γ.code = c → Γ.Below A → Clean Γ → wpCode M Γ R p s
section
variable {α β : Type} {M : Model} {A : Around} {E : Value → Shared → Prop} {s : Shared} {env : Env}
theorem wpN_of {t : Sem α} {Q : α → Shared → Prop} (h : wpAny M A t Q E s) : wpN M A t Q E s := fun Γ p hΓ _ => h Γ p hΓ
theorem codeN_of {c : Code} {R : Result → Shared → Prop} (h : codeAny M A c R s) : codeN M A c R s := fun Γ p hc hΓ _ => h Γ p hc hΓ
theorem wpN_mono {t : Sem α} {Q Q' : α → Shared → Prop} {E' : Value → Shared → Prop} (h : wpN M A t Q E s)
    (hQ : ∀ a s, Q a s → Q' a s) (hE : ∀ e s, E e s → E' e s) : wpN M A t Q' E' s :=
  fun Γ p hΓ hc => Sem.wp_mono M Γ t (fun a _ s => hQ a s) (fun e _ s => hE e s) p s (h Γ p hΓ hc)
theorem wpN_bind {m : Sem α} {f : α → Sem β} {Q : β → Shared → Prop} (h : wpN M A m (fun a s' => wpN M A (f a) Q E s') E s) :
    wpN M A (m >>= f) Q E s := fun Γ p hΓ hc => by
  rw [Sem.wp_bind']
  exact Sem.wp_mono M Γ m (fun a p' s' h' => h' Γ p' hΓ hc) (fun _ _ _ h' => h') p s (h Γ p hΓ hc)
theorem wpN_pure {a : α} {Q : α → Shared → Prop} (h : Q a s) : wpN M A (pure a) Q E s := fun _ _ _ _ => h
theorem wpN_standAt {pos : Pos} {Q : Unit → Shared → Prop} (h : Q () s) : wpN M A (standAt pos) Q E s := fun _ _ _ _ => h
theorem wpN_point {Q : Unit → Shared → Prop} (h : Q () s) : wpN M A point Q E s := fun _ _ _ _ => h
theorem wpN_holding {vs : List Value} {m : Sem α} {Q : α → Shared → Prop} (h : wpN M A m Q E s) : wpN M A (holding vs m) Q E s :=
  fun Γ p hΓ hc => by rw [Sem.wp_holding]; exact h Γ p hΓ hc
theorem wpN_keep {vs : List Value} {m : Sem α} {Q : α → Shared → Prop} (h : wpN M A m Q E s) : wpN M A (m.keep vs) Q E s :=
  fun Γ p hΓ hc => by rw [Sem.wp_keep]; exact h Γ p hΓ hc
/-- where nothing is raised -/
theorem wpN_onRaise {m : Sem α} {k : Value → Sem Unit} {Q : α → Shared → Prop} (h : wpN M A m Q (fun _ _ => False) s) : wpN M A (m.onRaise k) Q E s :=
  fun Γ p hΓ hc => by
    rw [Sem.wp_onRaise]
    exact Sem.wp_mono M Γ m (fun _ _ _ h' => h') (fun _ _ _ h' => h'.elim) p s (h Γ p hΓ hc)
theorem wpN_operate {vs : List Value} {m : Sem Value} {Q : Value → Shared → Prop} (h : wpN M A m Q E s) : wpN M A (operate vs m) Q E s :=
  fun Γ p hΓ hc => by rw [Sem.wp_operate]; exact h Γ p hΓ hc
theorem wpN_of_in1 {t : Sem α} {Q : α → Shared → Prop} (h : wpN M A.in1 t Q E s) : wpN M A t Q E s :=
  fun Γ p hΓ hc => h Γ p ⟨hΓ.1, hΓ.2.1, hΓ.2.2.1, hΓ.2.2.2.1, Nat.le_succ_of_le hΓ.2.2.2.2⟩ hc
theorem codeN_mono {c : Code} {R R' : Result → Shared → Prop} (h : codeN M A c R s) (hR : ∀ r s, R r s → R' r s) : codeN M A c R' s :=
  fun Γ p hc hΓ hk => wpCode_mono hR (h Γ p hc hΓ hk)
theorem wpN_runValue {c : Code} (hok : okC c = true) {Q : Value → Shared → Prop}
    (hc : codeN M A c (fun r s' => match r with | .ok (.ret v) => Q v s' | .ok _ => False | .error e => E e s') s) :
    wpN M A (runValue c) Q E s := fun Γ p hΓ hk => by
  rw [Sem.wp_runValue]
  exact hc _ p rfl (hΓ.enter c none p (by intro x; cases x)) (hk.enter hok none p)
theorem wpN_call {f : Value} {pos : List Value} {kw : List (Str × Value)} {Q : Value → Shared → Prop}
    (hc : codeN M A (.call f ⟨pos, kw⟩) (fun r s' => match r with | .ok (.ret v) => Q v s' | .ok _ => False | .error e => E e s') s) :
    wpN M A (call f pos kw) Q E s := wpN_runValue rfl hc
theorem wpN_run {c : Code} (hok : okC c = true) {h : Option Value} {Q : Flow → Shared → Prop}
    (hc : codeN M (A.mark h) c (fun r s' => match r with | .ok f => Q f s' | .error e => E e s') s) (hnb : h ≠ some byPass := by intro x; cases x) :
    wpN M A (run c h) Q E s :=
  fun Γ p hΓ hk => by rw [Sem.wp_run]; exact hc _ p rfl (hΓ.enter c h p hnb) (hk.enter hok h p)
theorem codeN_of_tree {c : Code} {R : Result → Shared → Prop}
    (h : wpN M (A.under c) (M.den c) (fun fin s' => match fin with | .done f => R (.ok f) s' | .again c' => okC c' = true ∧ c'.quiet = true ∧ codeN M A c' R s')
      (fun e s' => R (.error e) s') s) : codeN M A c R s := fun Γ p hc hΓ hk => by
  rw [wpCode_iff_wp, hc]
  refine Sem.wp_mono M Γ _ (fun fin p' s' h' => ?_) (fun _ _ _ h' => h') p s (h Γ p (hc ▸ hΓ.in) hk)
  cases fin with
  | done f => exact h'
  | again c' => exact ⟨h'.2.1, h'.2.2 (Γ.goto c') p' rfl (hΓ.goto c') (hk.goto h'.1)⟩
/-- statements -/
theorem execs_append : ∀ (l r : List Stmt), execs (l ++ r) env = (do match ← execs l env with | .next => execs r env | f => pure f)
  | [], r => rfl
  | st :: l, r => by
    rw [List.cons_append, execs_cons, execs_cons, execs_append l r]
    simp only [bind_assoc]
    congr 1
    funext f
    cases f <;> simp
theorem wpN_execs_append {l r : List Stmt} {Q : Flow → Shared → Prop}
    (h : wpN M A (execs l env) (fun f s' => match f with | .next => wpN M A (execs r env) Q E s' | f => Q f s') E s) :
    wpN M A (execs (l ++ r) env) Q E s := by
  rw [execs_append]
  refine wpN_bind (wpN_mono h (fun f s' h' => ?_) fun _ _ x => x)
  cases f <;> first | exact h' | exact wpN_pure h'
theorem wpN_execs_cons {st : Stmt} {rest : List Stmt} {Q : Flow → Shared → Prop}
    (h : wpN M A (exec st env) (fun f s' => match f with | .next => wpN M A (execs rest env) Q E s' | f => Q f s') E s) :
    wpN M A (execs (st :: rest) env) Q E s := by
  rw [execs_cons]
  refine wpN_bind (wpN_mono h (fun f s' h' => ?_) fun _ _ x => x)
  cases f <;> first | exact h' | exact wpN_pure h'
theorem wpN_If {test : Expr} {body orelse : List Stmt} {pos : Pos} {Q : Flow → Shared → Prop}
    (h : wpAny M A (isTrue test env (eval test env))
      (fun b s₂ => if b then wpN M A (execs body env) Q E s₂ else wpN M A (execs orelse env) Q E s₂) E s) :
    wpN M A (exec (.If test body orelse pos) env) Q E s := by
  rw [exec_If]
  refine wpN_bind (wpN_standAt (wpN_bind (wpN_mono (wpN_of h) (fun b s' h' => ?_) fun _ _ x => x)))
  cases b <;> exact h'
theorem wpN_Return {e : Expr} {pos : Pos} {Q : Flow → Shared → Prop} (h : wpN M A (eval e env) (fun v => Q (.ret v)) E s) :
    wpN M A (exec (.Return (some e) pos) env) Q E s := by
  rw [exec_Return_some]
  exact wpN_bind (wpN_standAt (wpN_bind (wpN_mono h (fun v s' h' => wpN_pure h') fun _ _ x => x)))
theorem wpN_BinOp {l r : Expr} {op : Operator} {pos : Pos} {Q : Value → Shared → Prop}
    (h : wpN M A (eval l env) (fun a s₁ => wpN M A (eval r env) (fun b s₂ => wpN M A (binaryOp op a b) Q E s₂) E s₁) E s) :
    wpN M A (eval (.BinOp l op r pos) env) Q E s := by
  rw [eval_BinOp]
  exact wpN_bind (wpN_mono h (fun a s₁ h₁ => wpN_bind (wpN_holding (wpN_mono h₁ (fun b s₂ h₂ => wpN_bind (wpN_standAt (wpN_operate h₂))) fun _ _ x => x))) fun _ _ x => x)
theorem wpN_Assign_Name {x : Str} {pos' : Pos} {value : Expr} {pos : Pos} {Q : Flow → Shared → Prop}
    (h : wpN M A (eval value env) (fun v s₁ => wpAny M A (storeName env x v) (fun _ s₂ => Q .next s₂) E s₁) E s)
    (hs : swapsWith value (some (.Name x pos')) pos.line env = pure false) : wpN M A (exec (.Assign [.Name x pos'] value pos) env) Q E s := by
  rw [exec_Assign_Name _ _ _ _ _ hs]
  exact wpN_bind (wpN_standAt (wpN_bind (wpN_mono h (fun v s₁ h₁ => wpN_bind (wpN_standAt (wpN_bind (wpN_mono (wpN_of (wpAny_bindName h₁)) (fun _ s₂ h₂ => wpN_pure h₂) fun _ _ x => x)))) fun _ _ x => x)))
end
section
variable {prog : Program} {w : World} {A : Around} {R : Result → Shared → Prop} {E : Value → Shared → Prop} {s : Shared}
theorem codeN_func {body : List Stmt} {env : Env}
    (h : wpN (model prog w) (A.deeper env) (execs body env) (fun f s' => R (.ok (.ret (match f with | .ret v => v | _ => .none))) s') (fun _ _ => False) s) :
    codeN (model prog w) A (.func body env) R s := by
  refine codeN_of_tree ?_
  show wpN _ (A.deeper env) (do point; match ← (execs body env).onRaise (leaving env) with | .ret v => ret v | _ => ret .none) _ _ s
  refine wpN_bind (wpN_point (wpN_bind (wpN_onRaise (wpN_mono h (fun f s' h' => ?_) fun _ _ h' => h'))))
  cases f <;> exact wpN_pure h'
theorem codeN_call_function {a : Addr} {args : Args} {o : Obj} {fd : FuncData} {body : List Stmt} (hroom : A.depth < recursionLimit)
    (ho : s.heap.get? a = some o)
    (hd' : o.data = .func fd) (hco : fd.scope.isCoroutine = false) (hgen : fd.scope.isGenerator = false) (hbody : fd.body = .stmts body) (hcd : s.heap.CodeRec fd.code fd.qualname)
    (h : wpAny (model prog w) A.in1 (bindArgs fd args) (fun binds s₁ =>
      wpAny (model prog w) A.in1 (newFunctionEnv fd.scope fd.globals fd.closure binds (fd.qualname ++ ".<locals>.") (some a) fd.code none fd.builtins)
        (fun env s₂ => s₂.heap.NoLimit ∧ codeN (model prog w) A (.func body env) R s₂) (fun e s' => R (.error e) s') s₁) (fun e s' => R (.error e) s') s) :
    codeN (model prog w) A (.call (.ref a) args) R s := by
  refine codeN_of_tree ?_
  refine wpN_of ?_
  show wpAny _ A.in1 (callAny (.ref a) args) _ _ s
  simp only [callAny]
  refine wpAny_bind (wpAny_load ho ?_)
  obtain ⟨c, oc, vs, tq, hc, hoc, hdc, hq⟩ := hcd
  simp only [hd', callFunction, hco, hgen, hbody, hc]
  rw [hc] at h
  refine wpAny_bind (m := field (.ref c) 1) (wpAny_field hoc hdc hq (wpAny_bind (wpAny_pure ?_)))
  exact wpAny_bind (wpAny_mono h (fun binds s₁ h₁ => wpAny_bind (wpAny_mono h₁ (fun env s₂ h₂ => wpAny_bind (wpAny_enterFrame h₂.1 hroom
    (wpAny_pure (And.intro rfl (And.intro rfl h₂.2))))) fun _ _ h' => h')) fun _ _ h' => h')
theorem codeN_call_def {a : Addr} {o : Obj} {fd : FuncData} {body : List Stmt} {args : Args} {binds : List (Str × Value)}
    (hroom : A.depth < recursionLimit) (ho : s.heap.get? a = some o) (hdata : o.data = .func fd) (hlim : s.heap.NoLimit) (hcd : s.heap.CodeRec fd.code fd.qualname)
    (hbody : fd.body = .stmts body) (hbind : BindsTo s fd args binds)
    (hcell : ∀ x ∈ fd.scope.names, x.2 ≠ .cell) (hloc : ∀ x ∈ binds, fd.scope.names.lookup x.1 = some .local)
    (h : ∀ h₀, h₀.Ns s.heap.objs.size (fun x => binds.reverse.lookup x) → (∀ b o, s.heap.get? b = some o → h₀.get? b = some o) →
      wpN (model prog w) (A.deeper (callEnv fd s.heap.objs.size a)) (execs body (callEnv fd s.heap.objs.size a)) (fun f s' => R (.ok (.ret (match f with | .ret v => v | _ => .none))) s')
        (fun _ _ => False) { s with heap := h₀, toks := s.toks + binds.length })
    (hco : fd.scope.isCoroutine = false := by rfl) (hgen : fd.scope.isGenerator = false := by rfl) (hk : fd.scope.kind = .function := by rfl) :
    codeN (model prog w) A (.call (.ref a) args) R s := by
  refine codeN_call_function hroom ho hdata hco hgen hbody hcd (hbind _ _ _ _ ?_)
  refine wpAny_newFunctionEnv hcell hloc (fun h₀ hns₀ hsb₀ => ⟨hlim.fresh _ hsb₀, codeN_func (h h₀ hns₀ fun b o e => ?_)⟩) hk
  exact hsb₀.extBut b o (Nat.ne_of_lt (Heap.lt_size e)) (Heap.get?_push_of_some _ e)
end
end Mine
end
section
open PySem PySem.W PyProof.Rows PySem.Calls
open PySem.Sem (wp)
set_option maxRecDepth 100000
namespace Mine
theorem caller_clean : Clean (⟨.builtin "claim.caller" {}, none, none, [], none⟩ : Ctx) := ⟨by decide +kernel, fun _ h => nomatch h⟩
theorem thread_endsN {prog : Program} {w : World} {t : Sem Fin} {s : Shared} {R : Result → Shared → Prop} (hreg : s.asleep)
    (h : wpN (model prog w) callerA t (fun fin s' => ∃ f, fin = .done f ∧ (R (.ok f) s' ∧ leftWithCleanup s'.gens = false)) (fun e s' => R (.error e) s' ∧ leftWithCleanup s'.gens = false) s) :
    ∃ n r s' s'', runN (denote table) prog w n s ⟨t, .builtin "claim.caller" {}, default, []⟩ = .halted (outcomeOf r) s' ∧
      schedN (denote table) prog w n (.single s ⟨t, .builtin "claim.caller" {}, default, []⟩) = .halted (outcomeOf r) s' ∧ s'.forget = s''.forget ∧ R r s'' := by
  have hw : wp (model prog w) ⟨.builtin "claim.caller" {}, none, none, [], none⟩ t
      (Sem.finPost (model prog w) ⟨.builtin "claim.caller" {}, none, none, [], none⟩ fun r s' => R r s' ∧ leftWithCleanup s'.gens = false)
      (fun e _ s' => R (.error e) s' ∧ leftWithCleanup s'.gens = false) default s := by
    refine Sem.wp_mono _ _ t (fun fin p' s' h' => ?_) (fun _ _ _ h' => h') default s (h _ default caller_in caller_clean)
    obtain ⟨f, rfl, hf⟩ := h'
    exact hf
  obtain ⟨n, r, s₁, s₂, hs, hn, hfo, hR⟩ := wp_halts_full (M := model prog w) (R := R) hreg hw
  exact ⟨n, r, s₂, s₁, hn, hs, hfo, hR⟩
theorem callFromN {c : ClaimW} {tree : List Value → Sem Fin} {w : World} {s : Shared} {free : Addr → Prop} {gens : Prop} {kept : Heap → Prop} (hz : s.asleep) (hgens : s.gens = #[])
    (hspec : ∀ args, c.pre args = true → WData.layableAll args = true →
      ∀ ord : List DictEntry → List DictEntry, (∀ l, (ord l).Perm l) →
      ∃ vs s₁, layAllW c.records (classAt s.heap) w.params ord args s = some (vs, s₁) ∧
        wpN (model c.prog w) callerA (tree vs) (fun fin s' => ∃ f, fin = .done f ∧ (c.Ends s args vs s₁ (.ok f) s' ∧ s'.os = s.os ∧ AllBare s'.gens ∧ kept s'.heap))
          (fun e s' => c.Ends s args vs s₁ (.error e) s' ∧ s'.os = s.os ∧ AllBare s'.gens ∧ kept s'.heap) s₁) :
    c.CallFrom (fun vs => ⟨tree vs, .builtin "claim.caller" {}, default, []⟩) w free gens kept s := by
  intro args hpre hlay ord hord
  obtain ⟨vs, s₁, hlaid, hcode⟩ := hspec args hpre hlay ord hord
  have hal := layAllW_rest _ _ _ hlaid
  obtain ⟨k, r, s', s'', hrun, hsched, hfo, hcase, hos, hkp⟩ := thread_endsN (prog := c.prog) (w := w) (t := tree vs) (s := s₁)
    (R := fun r s' => c.Ends s args vs s₁ r s' ∧ s'.os = s.os ∧ kept s'.heap)
    (Shared.asleep_of_life hal.2.2.2 hz)
    (wpN_mono hcode (fun fin s' ⟨f, e, h1, h2, h3, h4⟩ => ⟨f, e, ⟨h1, h2, h4⟩, leftWithCleanup_false_of_bare h3⟩)
      (fun e s' ⟨h1, h2, h3, h4⟩ => ⟨⟨h1, h2, h4⟩, leftWithCleanup_false_of_bare h3⟩))
  obtain ⟨eh, _, _, eo, _⟩ := Shared.forget_eq hfo
  have hcase := hcase.congr eh
  have hkp : kept s'.heap := by rw [eh]; exact hkp
  rw [← eo] at hos
  have hlife : s'.heap.life = s.heap.life := (runN_life _ _ _ hrun).trans hal.2.2.2
  refine ⟨vs, s₁, hlaid, k, _, s', hsched, ?_, (fun _ i x hx => by rw [hgens] at hx; simp at hx), hkp, by rw [hlife], Shared.rest_eq hos⟩
  rcases hcase with ⟨v, rfl, d1, d2, d3, d4, d5⟩ | ⟨e, ob, cls, rfl, d1, d2, d3, d4, d5⟩
  · exact .inl ⟨v, rfl, d1, d2, d3, fun b o y _ => d4 b o y, d5⟩
  · exact .inr ⟨e, ob, cls, rfl, d1, d2, d3, d4, fun b o y _ => d5 b o y⟩
theorem open_clean {r : RowW} {run : Value → List Value → Sem Value} {tree : List Value → Sem Fin} {q : Program} {loose defs kps : List Str} {writes : Bool} {Xt : Shared → Bool} {XP : (Str → Option Value) → Heap → Prop} {α : Type} {Yf : Shared → α} {Ya : World → α} {YP : World → Heap → Prop} {N : Nat}
    (left : LeftO r.prog q loose Xt Yf Ya N) (hY : ∀ w s, Yf s = Ya w → YP w s.heap) (hYk : ∀ w h h', YP w h → (∀ b o, h.get? b = some o → h'.get? b = some o) → YP w h') (hX : ∀ s, Xt s = true → XP (s.heap.nsMap mainGlobals) s.heap) (hXk : ∀ mg h h', XP mg h → (∀ b o, h.get? b = some o → h'.get? b = some o) → XP mg h')
    (hRf : ∀ s, Xt s = true → RecFacts r.records s.heap) (hwr : (!writes || r.records.isEmpty) = true) (ok : (chainsOk q && opensWell r.prog && (frees r && r.within.isEmpty)) = true) (hb : r.prog.bare) (hw : r.promised)
    (ht : ∀ vs (w : World) (s : Shared) mg f (Q : Fin → Shared → Prop) (E : Value → Shared → Prop), s.heap.Ns mainGlobals mg → mg r.name = some f → wpN (model r.prog w) callerA (run f vs) (fun v s' => Q (.done (.ret v)) s') E s → wpN (model r.prog w) callerA (tree vs) Q E s)
    (pin : ∀ w s, s.heap.isNs mainGlobals = true → Ground q loose [] XP w s (s.heap.nsMap mainGlobals) (s.heap.nsMap builtinsNs) s.heap → ∀ n ∈ defs, isTheDefsW r.prog s.heap n)
    (call : ∀ (w : World) (s₀ s₁ : Shared) (mg mb : Str → Option Value), Ground q loose r.records XP w s₀ mg mb s₁.heap → YP w s₁.heap → ∀ (args : List WData) (vs : List Value) (as : List Addr),
      r.claim.pre args = true → WData.layableAll args = true → Laid r.records w s₀ s₁ args vs as → sysModules < s₀.heap.objs.size → ∃ f, mg r.name = some f ∧
        wpN (model r.prog w) callerA (run f vs) (fun v s' => GoodWG r.claim (classAt s₀.heap) (ExcName.means s₀.heap) args s₁ (.ok (.ret v)) s')
          (fun e s' => GoodWG r.claim (classAt s₀.heap) (ExcName.means s₀.heap) args s₁ (.error e) s') s₁) : r.claim.HoldsOpenBy (fun vs => ⟨tree vs, .builtin "claim.caller" {}, default, []⟩) defs kps writes := by
  obtain ⟨ok, k5⟩ := Bool.and_eq_true_iff.mp ok
  obtain ⟨hch, o1⟩ := Bool.and_eq_true_iff.mp ok
  obtain ⟨k5, k6⟩ := Bool.and_eq_true_iff.mp k5
  obtain ⟨hsame, hu, ha, hap, hm⟩ := frees_parts k5
  refine ⟨⟨hb, o1, by show r.makers.map _ = []; rw [hm]; rfl⟩, hw.witness, fun w => ⟨(left.behind hX hch w).1, fun s' hs' => ?_⟩⟩
  obtain ⟨s₀, hf, hg0, s, hT, hz, hgens, hg, G00, y⟩ := (left.behind (XP := fun mg h => XP mg h ∧ RecFacts r.records h) (fun s hs => ⟨hX s hs, hRf s hs⟩) hch w).2 s' hs'
  have G0 : Ground q loose [] XP w s (s.heap.nsMap mainGlobals) (s.heap.nsMap builtinsNs) s.heap := ⟨G00.T, G00.B, G00.D, G00.TE, G00.TD, G00.W, G00.X.1, G00.cls, G00.has, G00.apart, G00.once, G00.K⟩
  have RF := G00.X.2
  refine ⟨s₀, hf, hg0, s, hT, pin w s hg G0, RF.1, RF.2.1, ?_⟩
  have hgens : s.gens = #[] := Array.eq_empty_of_size_eq_zero (beq_iff_eq.mp hgens)
  have G : Ground q loose r.records XP w s _ _ s.heap := RF.ground G0
  refine callFromN (c := r.claim) hz hgens fun args hpre hlay ord hord => ?_
  obtain ⟨⟨vs, s₁⟩, hlaid⟩ := Option.isSome_iff_exists.mp (layAllW_isSome (P := w.params) (ord := ord) G.has args r.args s (pre_splitW hpre).1)
  have keeps := layAllW_keeps _ _ _ hlaid
  have hal := layAllW_rest _ _ _ hlaid
  obtain ⟨as, hrd, hin, hold⟩ := reads_layAllW hord _ _ _ hlaid hlay s₁.heap (fun _ _ e => e)
  have L : Laid r.records w s s₁ args vs as := ⟨⟨ord, hord, hlaid⟩, hrd, hin, hold, keeps, hal.1.trans hgens, hal.2.2.1⟩
  have G₁ := G.keeps hXk keeps
  obtain ⟨f, hf, h⟩ := call w s s₁ _ _ G₁ (hYk _ _ _ (hY w s y) keeps) args vs as hpre hlay L G.low
  have hi := ident_freeW hu ha hap
  have hwi : r.claim.within = [] := List.isEmpty_iff.mp k6
  exact ⟨vs, s₁, hlaid, ht vs w s₁ _ f _ _ G₁.T.g hf (wpN_mono h
    (fun v s' g => ⟨_, rfl, have z := g.laid (c := r.claim) hsame hwi hi L; ⟨z.1, z.2.1, z.2.2, fun q => ⟨namesKept_of hT hg kps keeps g.2.1.old, noTable hwr q⟩⟩⟩)
    fun e s' g => have z := g.laid (c := r.claim) hsame hwi hi L; ⟨z.1, z.2.1, z.2.2, fun q => ⟨namesKept_of hT hg kps keeps g.2.1.old, noTable hwr q⟩⟩)⟩
/-- what is asked of the walk: over clean contexts -/
abbrev WalkC (q : Program) (loose : List Str) (XP : (Str → Option Value) → Heap → Prop) (YP : World → Heap → Prop) (r : RowW) (d : DefRec) (kwd : List (Str × Expr)) : Prop :=
  ∀ (w : World) (s₀ s₁ : Shared) (mg mb : Str → Option Value), Ground q loose r.records XP w s₀ mg mb s₁.heap → YP w s₁.heap → ∀ (a : Addr) (o : Obj) (pm cd doc dV kV : Value), s₁.heap.get? a = some o →
    o.data = .func { docDef d.name d.params d.body d.scope pm cd doc with defaults := dV, kwdefaults := kV } → s₁.heap.CodeRec cd d.name → Dflts mg s₁.heap d.params kwd dV kV → mg d.name = some (.ref a) → s₁.gens = #[] →
    ∀ (args : List WData) (vals : List Value) (as : List Addr), r.claim.pre args = true → WData.layableAll args = true → ReadsAllW r.records (classAt s₀.heap) s₁.heap vals args as → WellAll w.params s₁.heap vals args → (∀ a ∈ as, (a == sysModules) = false) →
      wpN (model r.prog w) callerA (PySem.call (.ref a) vals) (fun v s' => GoodWG r.claim (classAt s₀.heap) (ExcName.means s₀.heap) args s₁ (.ok (.ret v)) s')
        (fun e s' => GoodWG r.claim (classAt s₀.heap) (ExcName.means s₀.heap) args s₁ (.error e) s') s₁
theorem PySem.W.holds_open {r : OpenRow} {q : Program} {loose : List Str} {Xt : Shared → Bool} {XP : (Str → Option Value) → Heap → Prop} {α : Type} {Yf : Shared → α} {Ya : World → α} {YP : World → Heap → Prop} {d : DefRec} {kwd : List (Str × Expr)} {N : Nat}
    (left : LeftO r.prog q loose Xt Yf Ya N) (hY : ∀ w s, Yf s = Ya w → YP w s.heap) (hYk : ∀ w h h', YP w h → (∀ b o, h.get? b = some o → h'.get? b = some o) → YP w h')
    (hX : ∀ s, Xt s = true → XP (s.heap.nsMap mainGlobals) s.heap) (hXk : ∀ mg h h', XP mg h → (∀ b o, h.get? b = some o → h'.get? b = some o) → XP mg h')
    (hdef : defOf q r.name = some (d, kwd)) (hp : r.prog.theDef r.name = some (d.params, d.body, d.scope)) (hk : kwWritten? d.params.kwonlyargs d.params.kw_defaults = some kwd) (hRf : ∀ s, Xt s = true → RecFacts r.records s.heap) (hwr : (!r.writes || r.records.isEmpty) = true)
    (k1 : r.wellSaid = true) (ok : (chainsOk q && opensWell r.prog && (frees r.toRowW && r.within.isEmpty)) = true) (hb : r.prog.bare) (hw : r.toRowW.promised)
    (call : WalkC q loose XP YP r.toRowW d kwd) : r.Holds := by
  refine ⟨k1, hw, open_clean (r := r.toRowW) (run := fun f vs => PySem.call f vs) (tree := fun vs => do match ← nsGet mainNs r.name with
      | some f => do ret (← PySem.call f vs)
      | none => unsupported "claim.caller:no-such-global") left hY hYk hX hXk hRf hwr ok hb hw
    (fun vs w s mg f Q E hg hf h => wpN_bind (wpN_of (wpAny_nsGet hg (by rw [hf]; exact wpN_bind (wpN_mono h (fun _ _ x => wpN_pure x) fun _ _ x => x)))))
    (fun w s hg G n hn => ?_) fun w s₀ s₁ mg mb G Y args vs as hpre hlay L low => ?_⟩
  · obtain rfl : n = r.name := by split at hn <;> simp_all
    exact pinned_of_view hg G hdef hp hk
  · obtain ⟨a, o, pm, cd, doc, dV, kV, h1, h2, h3, h4, h5⟩ := G.fn hdef
    exact ⟨.ref a, h1, call w s₀ s₁ mg mb G Y a o pm cd doc dV kV h2 h3 h4 h5 (defOf_name hdef ▸ h1) L.gens args vs as hpre hlay L.reads L.well (L.low low)⟩
end Mine
end
section
open PySem PySem.W PyProof.Rows
namespace Mine
set_option maxRecDepth 100000 in
set_option maxHeartbeats 8000000 in
open_top hd for PySem.Challenge.rw_no0059_01
end Mine
end
section
open PySem PySem.W PyProof.Rows
namespace Mine
/-- a contract of a def of the text: for any def that calls it -/
abbrev Ctr (n : Nat) (w : World) (mean : ExcName → Option Value) (mg mb : Str → Option Value) (f : Addr) (news : List (Addr × Obj)) (pre : Prop) (vs : List Value)
    (R : Heap → Addr → (Str → Option Value) → Shared → (Value → Shared → Prop) → Prop) : Prop :=
  ∀ (dp un : Nat) (gd : Option (List Code)) (cn : Str) (cs : Scope) (a : Addr) (ccd : Value) (cl : List (Str × Addr)) (outer : List Env) (A₀ : Around) (base h₀ : Heap) (L : Addr) (m : Str → Option Value) (s : Shared) (Q E : Value → Shared → Prop),
    Below A₀ base outer h₀ → Fr h₀ L s.heap m → (Mine.hd.heap_39 w.params).In h₀ → News h₀ L s.heap news → Top Mine.hd.view_39 (looseW Mine.hd.view_39 [Str.ofString "GREATEST"]) mean mg mb h₀ → cs.kind = .function →
    dp + n < recursionLimit → un + 20 * n < cLine → pre → R h₀ L m s Q →
      wpAny (model PySem.Challenge.rw_no0059_01.row.prog w) (ktrTop dp un gd cn cs L a ccd cl outer) (call (.ref f) vs) Q E s
abbrev Ret (news : List (Addr × Obj)) (R : Tok → Value) (h₀ : Heap) (L : Addr) (m : Str → Option Value) (s : Shared) (Q : Value → Shared → Prop) : Prop :=
  ∀ (t : Tok) (h' : Heap) (tk' : Nat), Fr h₀ L h' m → News h₀ L h' news → Q (R t) { s with heap := h', toks := tk' }
end Mine
end
section
open PySem PySem.W PyProof.Rows PySem.Calls
open Builtin Builtin.ObjectAttr
set_option maxRecDepth 100000
namespace Mine
abbrev excO (C t : Addr) (dd : Option Addr) : Obj := { cls := .ref C, dict := dd, data := .fields #[.ref t, .none, .none, .none, .bool false, .none] }
/-- an object that is a dict of plain names -/
def NsObj (o : Obj) (m : Str → Option Value) : Prop := ∃ es ep, o.data = .dict es ep ∧ StrKeys es ∧ UniqKeys es ∧ ∀ name, nsFind es name = m name
theorem NsObj.at {o : Obj} {m : Str → Option Value} (x : NsObj o m) {h : Heap} {a : Addr} (e : h.get? a = some o) : h.Ns1 a m :=
  let ⟨es, ep, d, k, u, f⟩ := x; ⟨o, es, ep, e, d, k, u, f⟩
theorem nsObj_of {h : Heap} {a : Addr} {m : Str → Option Value} (x : h.Ns1 a m) : ∃ o, h.get? a = some o ∧ NsObj o m :=
  let ⟨o, es, ep, e, d, k, u, f⟩ := x; ⟨o, e, es, ep, d, k, u, f⟩
section
variable {prog : Program} {w : World} {A : Around} {E : Value → Shared → Prop} {h : Heap} {g : Array GenState} {d : Drawn} {t : Nat} {os : OsState}
variable {nm q : Str} {C N x : Addr} {bs bm : List Value} {sn : List Str} {sub : List Value} {ab : Bool} {col : Option Bool} {dd : Option Addr} {k0 k1 k2 k3 k5 : Option Value} {B newId sa owner : String}
  {mN mA : Str → Option Value} {name : Str} {v : Value} {t0 dx : Addr}
theorem first_entry {tk : Tok} {Q : Fin → Shared → Prop} (SF : StoreFacts B bm sa owner)
    (hC : h.get? C = some (excClassObj nm q C N bs bm true sn sub ab col dd k0 k1 k2 k3 k5 newId)) (hn : h.Ns N mN) (hna : mN name = none)
    (hB : typeLookup (.type B) name = pure none) (hx : h.get? x = some (excO C t0 none))
    (hq : ∀ h' tk' dx od, dx ≠ x → h.get? dx = none → h'.get? x = some (excO C t0 (some dx)) → h'.get? dx = some od → NsObj od (fun y => if y = name then some v else none) →
      (∀ b o, b ≠ x → h.get? b = some o → h'.get? b = some o) → Q (.done (.ret .none)) ⟨h', g, d, tk', os⟩) :
    wpAny (model prog w) A (Builtin.«object.__setattr__» ⟨[.ref x, .str name tk, v], []⟩) Q E ⟨h, g, d, t, os⟩ := by
  have hpass := SF.passes (.ref x)
  have hox : ∃ o : Obj, o = excO C t0 none := ⟨_, rfl⟩
  obtain ⟨o, ho⟩ := hox
  have hc : o.cls = .ref C := by rw [ho]
  have hdn : o.dict = none := by rw [ho]
  have hnc : ∀ c, o.data ≠ .cls c := by rw [ho]; intro c z; cases z
  rw [← ho] at hx
  unfold Builtin.«object.__setattr__»
  repeat (first | rw [refuse_eq] | (rw [refuseLoop_ref, hpass]) | (with_reducible refine wpAny_loadPart_at hx ?_; rw [hc]) | with_reducible refine wpAny_mroOf_exc hC ?_ | (with_reducible refine wpAny_typeLookup_exc hC hn SF.mro hB ?_; rw [hna]) | wp_step)
  rw [hdn, if_neg (by simp [typeHasDict])]
  split
  · rename_i hcd
    cases hcd
  split
  · rename_i c hcd
    exact absurd hcd (hnc c)
  rw [ho] at hx
  have hx₁ : (h.push { cls := .type "dict", data := .dict #[] }).get? x = some (excO C t0 none) := Heap.get?_push_of_some _ hx
  have hxs : x ≠ h.objs.size := Nat.ne_of_lt (Heap.lt_size hx)
  refine wpAny_bind (wpAny_alloc' ?_)
  refine wpAny_bind (wpAny_update' hx₁ ?_)
  refine wpAny_pure ?_
  have hgd : ((h.push { cls := .type "dict", data := .dict #[] }).update x fun o => { o with dict := some h.objs.size }).get? h.objs.size
      = some { cls := .type "dict", data := .dict #[] } :=
    (Heap.get?_update_ne _ _ _ _ hxs.symm).trans (Heap.get?_push_at rfl rfl)
  have hnd : ((h.push { cls := .type "dict", data := .dict #[] }).update x fun o => { o with dict := some h.objs.size }).Ns h.objs.size (fun _ => none) :=
    ⟨_, #[], _, hgd, rfl, fun e he => absurd he (by simp), fun _ => rfl⟩
  show wpAny _ _ (storeInDict h.objs.size (.str name tk) name v) _ _ _
  unfold storeInDict newKeyGuard
  refine wpAny_bind (wpAny_pure (wpAny_bind (wpAny_nsSet1 (Heap.Ns1.of_empty hnd) fun h' hn' hs => ?_)))
  obtain ⟨oD, esD, epD, hoD, hdD, hcD⟩ := hn'.count (Within.cons name v Within.nil)
  refine wpAny_bind (wpAny_lookBehind hoD (by rw [hdD]; exact pastItsLine_dict (Nat.le_trans hcD (by rw [List.length_cons, List.length_nil, sizeLine_eq]; omega))) ?_)
  wp_walk
  obtain ⟨od, hod, hno⟩ := nsObj_of hn'
  have hx' : h'.get? x = some (excO C t0 (some h.objs.size)) := (hs.2 x hxs).trans (Heap.get?_update_self _ hx₁ rfl)
  refine hq h' _ h.objs.size od hxs.symm ?_ hx' hod hno fun b o hbx hb => ?_
  · exact Heap.get?_none_of_le (Nat.le_refl _)
  · exact (hs.2 b (Nat.ne_of_lt (Heap.lt_size hb))).trans ((Heap.get?_update_ne _ _ _ _ hbx).trans (Heap.get?_push_of_some _ hb))
theorem next_entry {tk : Tok} {Q : Fin → Shared → Prop} {ns : List Str} {od : Obj} (SF : StoreFacts B bm sa owner)
    (hC : h.get? C = some (excClassObj nm q C N bs bm true sn sub ab col dd k0 k1 k2 k3 k5 newId)) (hn : h.Ns N mN) (hna : mN name = none)
    (hB : typeLookup (.type B) name = pure none) (hx : h.get? x = some (excO C t0 (some dx))) (hne : dx ≠ x) (hd : h.get? dx = some od) (hO : NsObj od mA)
    (hq : ∀ h' tk' od', h'.get? x = some (excO C t0 (some dx)) → h'.get? dx = some od' → NsObj od' (fun y => if y = name then some v else mA y) →
      (∀ b o, b ≠ x → b ≠ dx → h.get? b = some o → h'.get? b = some o) → Q (.done (.ret .none)) ⟨h', g, d, tk', os⟩) (hw : Within mA ns) (hsz : ns.length < 1000) :
    wpAny (model prog w) A (Builtin.«object.__setattr__» ⟨[.ref x, .str name tk, v], []⟩) Q E ⟨h, g, d, t, os⟩ := by
  have hpass := SF.passes (.ref x)
  have hox : ∃ o : Obj, o = excO C t0 (some dx) := ⟨_, rfl⟩
  obtain ⟨o, ho⟩ := hox
  have hc : o.cls = .ref C := by rw [ho]
  have hdx : o.dict = some dx := by rw [ho]
  rw [← ho] at hx
  unfold Builtin.«object.__setattr__»
  repeat (first | rw [refuse_eq] | (rw [refuseLoop_ref, hpass]) | (with_reducible refine wpAny_loadPart_at hx ?_; rw [hc]) | with_reducible refine wpAny_mroOf_exc hC ?_ | (with_reducible refine wpAny_typeLookup_exc hC hn SF.mro hB ?_; rw [hna]) | wp_step)
  rw [hdx]
  refine wpAny_pure ?_
  rw [ho] at hx
  show wpAny _ _ (storeInDict dx (.str name tk) name v) _ _ _
  unfold storeInDict newKeyGuard
  refine wpAny_bind (wpAny_pure (wpAny_bind (wpAny_nsSet1 (hO.at hd) fun h' hn' hs => ?_)))
  obtain ⟨oD, esD, epD, hoD, hdD, hcD⟩ := hn'.count (Within.cons name v hw)
  refine wpAny_bind (wpAny_lookBehind hoD (by rw [hdD]; exact pastItsLine_dict (Nat.le_trans hcD (by rw [List.length_cons, sizeLine_eq]; omega))) ?_)
  wp_walk
  obtain ⟨od', hod, hno⟩ := nsObj_of hn'
  exact hq h' _ od' ((hs.2 x hne.symm).trans hx) hod hno fun b o hbx hbd hb => (hs.2 b hbd).trans hb
theorem first_attr {Q : Unit → Shared → Prop} (SF : StoreFacts B bm sa owner)
    (hC : h.get? C = some (excClassObj nm q C N bs bm true sn sub ab col dd k0 k1 k2 k3 k5 newId)) (hn : h.Ns N mN) (hns : mN "__setattr__" = none) (hna : mN name = none)
    (hB : typeLookup (.type B) name = pure none) (hx : h.get? x = some (excO C t0 none))
    (hq : ∀ h' tk' dx od, dx ≠ x → h.get? dx = none → h'.get? x = some (excO C t0 (some dx)) → h'.get? dx = some od → NsObj od (fun y => if y = name then some v else none) →
      (∀ b o, b ≠ x → h.get? b = some o → h'.get? b = some o) → Q () ⟨h', g, d, tk', os⟩) :
    wpAny (model prog w) A (setAttr (.ref x) name v) Q E ⟨h, g, d, t, os⟩ := by
  have f3 := SF.slot.bind (.ref x)
  unfold setAttr callSpecial? specialOf
  repeat (any_goals (first | assumption | (with_reducible refine wpAny_loadPart_at hx ?_) | (with_reducible refine wpAny_typeLookup_exc hC hn SF.mro SF.slot.lookup ?_; rw [hns]) | wp_step))
  refine codeAny_call_builtin SF.slot.plain SF.entry (wpAny_check_sa SF hC hx rfl (first_entry SF hC hn hna hB hx fun h' tk' dx od h1 h2 h3 h4 h5 h6 => ?_))
  repeat (any_goals (first | assumption | wp_step))
  exact hq h' tk' dx od h1 h2 h3 h4 h5 h6
theorem next_attr {Q : Unit → Shared → Prop} {ns : List Str} {od : Obj} (SF : StoreFacts B bm sa owner)
    (hC : h.get? C = some (excClassObj nm q C N bs bm true sn sub ab col dd k0 k1 k2 k3 k5 newId)) (hn : h.Ns N mN) (hns : mN "__setattr__" = none) (hna : mN name = none)
    (hB : typeLookup (.type B) name = pure none) (hx : h.get? x = some (excO C t0 (some dx))) (hne : dx ≠ x) (hd : h.get? dx = some od) (hO : NsObj od mA)
    (hq : ∀ h' tk' od', h'.get? x = some (excO C t0 (some dx)) → h'.get? dx = some od' → NsObj od' (fun y => if y = name then some v else mA y) →
      (∀ b o, b ≠ x → b ≠ dx → h.get? b = some o → h'.get? b = some o) → Q () ⟨h', g, d, tk', os⟩) (hw : Within mA ns) (hsz : ns.length < 1000) :
    wpAny (model prog w) A (setAttr (.ref x) name v) Q E ⟨h, g, d, t, os⟩ := by
  have f3 := SF.slot.bind (.ref x)
  unfold setAttr callSpecial? specialOf
  repeat (any_goals (first | assumption | (with_reducible refine wpAny_loadPart_at hx ?_) | (with_reducible refine wpAny_typeLookup_exc hC hn SF.mro SF.slot.lookup ?_; rw [hns]) | wp_step))
  refine codeAny_call_builtin SF.slot.plain SF.entry (wpAny_check_sa SF hC hx rfl (next_entry SF hC hn hna hB hx hne hd hO (fun h' tk' od h1 h2 h3 h4 => ?_) hw hsz))
  repeat (any_goals (first | assumption | wp_step))
  exact hq h' tk' od h1 h2 h3 h4
/-- Exception.__init__(e, v) -/
theorem base_init (F : ExcBaseFacts B newId sa bm) {rest : List Value} {Q : Value → Shared → Prop}
    (hC : h.get? C = some (excClassObj nm q C N bs bm true sn sub ab col dd k0 k1 k2 k3 k5 newId)) (hx : h.get? x = some (excO C t0 none)) (hrest : rest.length ≤ 1000)
    (hq : ∀ h' t1, t1 ≠ x → h.get? t1 = none → h'.get? x = some (excO C t1 none) → (∀ b o, b ≠ x → h.get? b = some o → h'.get? b = some o) → Q .none ⟨h', g, d, t, os⟩) :
    wpAny (model prog w) A (call (.builtin sa) (.ref x :: rest)) Q E ⟨h, g, d, t, os⟩ := by
  have hxs : x ≠ h.objs.size := Nat.ne_of_lt (Heap.lt_size hx)
  have hsz : rest.length ≤ sizeLine := by rw [sizeLine_eq]; omega
  refine wpAny_call (codeAny_call_builtin F.init.plain F.initEntry (wpAny_check_init_sub F hC hx rfl ?_))
  unfold Builtin.«BaseException.__init__»
  wp_walk
  refine hq _ h.objs.size hxs.symm (Heap.get?_none_of_le (Nat.le_refl _)) ?_ fun b o hbx hb => ?_
  · rw [Heap.get?_update_self _ (Heap.get?_push_of_some _ hx) rfl]
    rfl
  · rw [Heap.get?_update_other _ _ (Ne.symm hbx)]
    exact Heap.get?_push_of_some _ hb
end
end Mine
end
section
open PySem PySem.W PyProof.Rows PySem.Calls
set_option maxRecDepth 100000
namespace Mine
def es30 (P : Params) : Array DictEntry :=
  #[{ hash := PyData.keyHash P (Str.ofString "__module__"), key := Value.str (Str.ofString "__module__") 196, val := Value.str (Str.ofString "quic.errors") 187 },
    { hash := PyData.keyHash P (Str.ofString "__firstlineno__"), key := Value.str (Str.ofString "__firstlineno__") 200, val := Value.int 2 199 },
    { hash := PyData.keyHash P (Str.ofString "__init__"), key := Value.str (Str.ofString "__init__") 209, val := Value.ref 28 },
    { hash := PyData.keyHash P (Str.ofString "__static_attributes__"), key := Value.str (Str.ofString "__static_attributes__") 212, val := Value.ref 29 },
    { hash := PyData.keyHash P (Str.ofString "__weakref__"), key := Value.str (Str.ofString "__weakref__") 214, val := Value.ref 32 },
    { hash := PyData.keyHash P (Str.ofString "__doc__"), key := Value.str (Str.ofString "__doc__") 215, val := Value.none }]
def es50 (P : Params) : Array DictEntry :=
  #[{ hash := PyData.keyHash P (Str.ofString "__module__"), key := Value.str (Str.ofString "__module__") 227, val := Value.str (Str.ofString "quic.errors") 187 },
    { hash := PyData.keyHash P (Str.ofString "__firstlineno__"), key := Value.str (Str.ofString "__firstlineno__") 231, val := Value.int 8 230 },
    { hash := PyData.keyHash P (Str.ofString "__init__"), key := Value.str (Str.ofString "__init__") 239, val := Value.ref 48 },
    { hash := PyData.keyHash P (Str.ofString "__static_attributes__"), key := Value.str (Str.ofString "__static_attributes__") 241, val := Value.ref 49 },
    { hash := PyData.keyHash P (Str.ofString "__weakref__"), key := Value.str (Str.ofString "__weakref__") 243, val := Value.ref 52 },
    { hash := PyData.keyHash P (Str.ofString "__doc__"), key := Value.str (Str.ofString "__doc__") 244, val := Value.none }]
abbrev bmE : List Value := [.type "Exception", .type "BaseException", .type "object"]
theorem cls31 (P : Params) : (hd.heap_39 P).lookup 31 = some (excClassObj (Str.ofString "QpackError") (Str.ofString "QpackError") 31 30 [.type "Exception"] bmE true [] [] false none none
    (some (.ref 15)) none (some (.str (Str.ofString "QpackError") 189)) (some (.str (Str.ofString "QpackError") 197)) (some (.bool true)) "Exception.__new__") := rfl
theorem cls51 (P : Params) : (hd.heap_39 P).lookup 51 = some (excClassObj (Str.ofString "Short") (Str.ofString "Short") 51 50 [.type "Exception"] bmE true [] [] false none none
    (some (.ref 35)) none (some (.str (Str.ofString "Short") 220)) (some (.str (Str.ofString "Short") 228)) (some (.bool true)) "Exception.__new__") := rfl
theorem ns30 {P : Params} {h : Heap} (X : (hd.heap_39 P).In h) : h.Ns 30 (fun n => nsFind (es30 P) n) :=
  ⟨_, es30 P, 3, X 30 _ rfl, rfl, fun e he => by simp only [es30, List.mem_toArray, List.mem_cons, List.not_mem_nil, or_false] at he; rcases he with rfl | rfl | rfl | rfl | rfl | rfl <;> exact ⟨_, _, rfl⟩, fun _ => rfl⟩
theorem ns50 {P : Params} {h : Heap} (X : (hd.heap_39 P).In h) : h.Ns 50 (fun n => nsFind (es50 P) n) :=
  ⟨_, es50 P, 3, X 50 _ rfl, rfl, fun e he => by simp only [es50, List.mem_toArray, List.mem_cons, List.not_mem_nil, or_false] at he; rcases he with rfl | rfl | rfl | rfl | rfl | rfl <;> exact ⟨_, _, rfl⟩, fun _ => rfl⟩
/-- one of the text's two exception classes -/
structure IsExc (h : Heap) (C : Addr) (mN : Str → Option Value) : Prop where
  cls : ∃ nm q N bs sn sub ab col dd k0 k1 k2 k3 k5, h.get? C = some (excClassObj nm q C N bs bmE true sn sub ab col dd k0 k1 k2 k3 k5 "Exception.__new__") ∧ h.Ns N mN
  noSet : mN "__setattr__" = none
  noCode : mN "code" = none
  noText : mN "text" = none
  noGet : mN "__getattribute__" = none
  noGa : mN "__getattr__" = none
theorem isExc31 {P : Params} {h : Heap} (X : (hd.heap_39 P).In h) : IsExc h 31 (fun n => nsFind (es30 P) n) :=
  ⟨⟨_, _, _, _, _, _, _, _, _, _, _, _, _, _, X 31 _ (cls31 P), ns30 X⟩, by rfl, by rfl, by rfl, by rfl, by rfl⟩
theorem isExc51 {P : Params} {h : Heap} (X : (hd.heap_39 P).In h) : IsExc h 51 (fun n => nsFind (es50 P) n) :=
  ⟨⟨_, _, _, _, _, _, _, _, _, _, _, _, _, _, X 51 _ (cls51 P), ns50 X⟩, by rfl, by rfl, by rfl, by rfl, by rfl⟩
theorem noExc_code : typeLookup (.type "Exception") (Str.ofString "code") = pure none := by rw [typeLookup_type, builtinLookup_eq_fast]; kernel_rfl
theorem noExc_text : typeLookup (.type "Exception") (Str.ofString "text") = pure none := by rw [typeLookup_type, builtinLookup_eq_fast]; kernel_rfl
section
variable {prog : Program} {w : World} {A : Around} {E : Value → Shared → Prop} {s : Shared} {h₀ : Heap} {L e dx t : Addr} {m : Str → Option Value} {rest : List (Addr × Obj)} {C : Addr} {mN : Str → Option Value}
/-- the frame and the ledger behind a turn of one new object, and one more -/
theorem frame_turn {h h' : Heap} {ds : List Addr} (F : Fr h₀ L h m) (N : News h₀ L h rest) (hL : L ∉ ds) (h0 : ∀ d ∈ ds, h₀.get? d = none) (hN : ∀ p ∈ rest, p.1 ∉ ds)
    (hk : ∀ b o, b ∉ ds → h.get? b = some o → h'.get? b = some o) : Fr h₀ L h' m ∧ News h₀ L h' rest := by
  refine ⟨⟨F.ns.at fun o z => hk L o hL z, fun b o z => hk b o (fun q => by rw [h0 b q] at z; cases z) (F.keep b o z), F.above⟩, fun p hp => ⟨hk _ _ (hN p hp) (N p hp).1, (N p hp).2⟩⟩
theorem k_base_init {v : Value} {Q : Value → Shared → Prop} (F : Fr h₀ L s.heap m) (X : IsExc s.heap C mN) (N : News h₀ L s.heap ((e, excO C t none) :: rest)) (hne : ∀ p ∈ rest, p.1 ≠ e)
    (h : ∀ h' t1, Fr h₀ L h' m → News h₀ L h' ((e, excO C t1 none) :: rest) → Q .none { s with heap := h' }) :
    wpAny (model prog w) A (call (.builtin "Exception.__init__") [.ref e, v]) Q E s := by
  obtain ⟨⟨nm, q, Na, bs, sn, sub, ab, col, dd, k0, k1, k2, k3, k5, hC, hn⟩, x1, x2, x3, _, _⟩ := X
  have he := N _ (.head _)
  obtain ⟨hp, g, dr, tk, os⟩ := s
  refine base_init (C := C) (t0 := t) PySem.F.excBase_Exception hC he.1 (by simp) fun h' t1 q1 q2 q3 q4 => ?_
  have hm : ∀ b, b ≠ e → b ∉ [e] := fun b q z => q (List.mem_singleton.mp z)
  obtain ⟨F', N'⟩ := frame_turn (ds := [e]) F (fun p hp => N p (.tail _ hp)) (hm _ he.2.1.symm) (fun d hd => by rw [List.mem_singleton.mp hd]; exact he.2.2) (fun p hp => hm _ (hne p hp)) (fun b o hb => q4 b o fun z => hb (List.mem_singleton.mpr z))
  refine h h' t1 F' fun p hp => ?_
  rcases List.mem_cons.mp hp with rfl | hp
  · exact ⟨q3, he.2⟩
  · exact N' p hp
theorem fresh_ne {h : Heap} {dx : Addr} (F : Fr h₀ L h m) (N : News h₀ L h rest) (hd : h.get? dx = none) : dx ≠ L ∧ h₀.get? dx = none ∧ ∀ p ∈ rest, p.1 ≠ dx := by
  refine ⟨fun z => ?_, ?_, fun p hp z => ?_⟩
  · obtain ⟨o, _, _, ho, _⟩ := F.ns
    rw [← z, hd] at ho; cases ho
  · cases q : h₀.get? dx with
    | none => rfl
    | some o => rw [F.keep _ _ q] at hd; cases hd
  · have := (N p hp).1; rw [z, hd] at this; cases this
theorem k_first_attr {name : Str} {v : Value} {Q : Unit → Shared → Prop} (F : Fr h₀ L s.heap m) (X : IsExc s.heap C mN) (N : News h₀ L s.heap ((e, excO C t none) :: rest)) (hne : ∀ p ∈ rest, p.1 ≠ e)
    (hna : mN name = none) (hB : typeLookup (.type "Exception") name = pure none)
    (h : ∀ h' tk' dx od, Fr h₀ L h' m → News h₀ L h' ((e, excO C t (some dx)) :: (dx, od) :: rest) → dx ≠ e → (∀ p ∈ rest, p.1 ≠ dx) → NsObj od (fun y => if y = name then some v else none) → Q () { s with heap := h', toks := tk' }) :
    wpAny (model prog w) A (setAttr (.ref e) name v) Q E s := by
  obtain ⟨⟨nm, q, Na, bs, sn, sub, ab, col, dd, k0, k1, k2, k3, k5, hC, hn⟩, x1, x2, x3, _, _⟩ := X
  have he := N _ (.head _)
  obtain ⟨hp, g, dr, tk, os⟩ := s
  refine first_attr (C := C) (t0 := t) PySem.F.store_Exception hC hn x1 hna hB he.1 fun h' tk' dx od q1 q2 q3 q4 q5 q6 => ?_
  obtain ⟨z1, z2, z3⟩ := fresh_ne F N q2
  have hm : ∀ b, b ≠ e → b ∉ [e] := fun b q z => q (List.mem_singleton.mp z)
  obtain ⟨F', N'⟩ := frame_turn (ds := [e]) F (fun p hp => N p (.tail _ hp)) (hm _ he.2.1.symm) (fun d hd => by rw [List.mem_singleton.mp hd]; exact he.2.2) (fun p hp => hm _ (hne p hp)) (fun b o hb => q6 b o fun z => hb (List.mem_singleton.mpr z))
  refine h h' tk' dx od F' (fun p hp => ?_) q1 (fun p hp => z3 p (.tail _ hp)) q5
  rcases List.mem_cons.mp hp with rfl | hp
  · exact ⟨q3, he.2⟩
  rcases List.mem_cons.mp hp with rfl | hp
  · exact ⟨q4, z1, z2⟩
  · exact N' p hp
theorem k_next_attr {name : Str} {v : Value} {mA : Str → Option Value} {od : Obj} {ns : List Str} {Q : Unit → Shared → Prop} (F : Fr h₀ L s.heap m) (X : IsExc s.heap C mN) (N : News h₀ L s.heap ((e, excO C t (some dx)) :: (dx, od) :: rest)) (hne : ∀ p ∈ rest, p.1 ≠ e)
    (hdx : dx ≠ e) (hdr : ∀ p ∈ rest, p.1 ≠ dx) (hO : NsObj od mA) (hw : Within mA ns) (hz : ns.length < 1000)
    (hna : mN name = none) (hB : typeLookup (.type "Exception") name = pure none)
    (h : ∀ h' tk' od', Fr h₀ L h' m → News h₀ L h' ((e, excO C t (some dx)) :: (dx, od') :: rest) → NsObj od' (fun y => if y = name then some v else mA y) → Q () { s with heap := h', toks := tk' }) :
    wpAny (model prog w) A (setAttr (.ref e) name v) Q E s := by
  obtain ⟨⟨nm, q, Na, bs, sn, sub, ab, col, dd, k0, k1, k2, k3, k5, hC, hn⟩, x1, x2, x3, _, _⟩ := X
  have he := N _ (.head _)
  have hd := N _ (.tail _ (.head _))
  obtain ⟨hp, g, dr, tk, os⟩ := s
  refine next_attr (C := C) (t0 := t) PySem.F.store_Exception hC hn x1 hna hB he.1 hdx hd.1 hO (fun h' tk' od' q1 q2 q3 q4 => ?_) hw hz
  have hm : ∀ b, b ≠ e → b ≠ dx → b ∉ [e, dx] := fun b q q' z => by
    rcases List.mem_cons.mp z with z | z
    · exact q z
    · exact q' (List.mem_singleton.mp z)
  obtain ⟨F', N'⟩ := frame_turn (ds := [e, dx]) F (fun p hp => N p (.tail _ (.tail _ hp))) (hm _ he.2.1.symm hd.2.1.symm)
    (fun d hq => by rcases List.mem_cons.mp hq with rfl | hq; exact he.2.2; rw [List.mem_singleton.mp hq]; exact hd.2.2) (fun p hp => hm _ (hne p hp) (hdr p hp))
    (fun b o hb => q4 b o (fun z => hb (z ▸ .head _)) fun z => hb (z ▸ .tail _ (.head _)))
  refine h h' tk' od' F' (fun p hp => ?_) q3
  rcases List.mem_cons.mp hp with rfl | hp
  · exact ⟨q1, he.2⟩
  rcases List.mem_cons.mp hp with rfl | hp
  · exact ⟨q2, hd.2⟩
  · exact N' p hp
end
end Mine
end
section
open PySem PySem.W PyProof.Rows PySem.Calls
open Builtin Builtin.ObjectAttr
set_option maxRecDepth 100000
namespace Mine
section
variable {prog : Program} {w : World} {A : Around} {E : Value → Shared → Prop} {h : Heap} {g : Array GenState} {d : Drawn} {t : Nat} {os : OsState} {x C dx : Addr} {o od : Obj} {vs : Array Value} {mN mA : Str → Option Value} {v : Value}
theorem noExc_ga : typeLookup (.type "Exception") (Str.ofString "__getattribute__") = pure (some (.builtin "BaseException.__getattribute__")) := by rw [typeLookup_type, builtinLookup_eq_fast]; kernel_rfl
theorem noExc_gh : typeLookup (.type "Exception") (Str.ofString "__getattr__") = pure none := by rw [typeLookup_type, builtinLookup_eq_fast]; kernel_rfl
theorem mroExc : mroOf (.type "Exception") = pure bmE := PySem.F.excBase_Exception.mroIs
theorem code_entry {tk : Tok} {Q : Fin → Shared → Prop} (X : IsExc h C mN) (hx : h.get? x = some o) (hc : o.cls = .ref C) (hdat : o.data = .fields vs) (hdx : o.dict = some dx) (hd : h.get? dx = some od) (hO : NsObj od mA) (hv : mA (Str.ofString "code") = some v)
    (hq : Q (.done (.ret v)) ⟨h, g, d, t, os⟩) : wpAny (model prog w) A (Builtin.«object.__getattribute__» ⟨[.ref x, .str (Str.ofString "code") tk], []⟩) Q E ⟨h, g, d, t, os⟩ := by
  obtain ⟨⟨nm, q, N, bs, sn, sub, ab, col, dd, k0, k1, k2, k3, k5, hC, hn⟩, x1, x2, x3, x4, x5⟩ := X
  have hns := (hO.at hd).ns
  unfold Builtin.«object.__getattribute__»
  repeat (any_goals (first | assumption | (with_reducible refine wpAny_loadPart_at hx ?_; rw [hc]) | (with_reducible refine wpAny_typeLookup_exc hC hn mroExc noExc_code ?_; rw [x2]) | wp_step))
  split
  · rename_i c hcd
    rw [hdat] at hcd
    cases hcd
  unfold instanceDict
  repeat (first | (with_reducible refine wpAny_loadPart_at hx ?_; rw [hc]) | with_reducible refine wpAny_loadPart_at hC ?_ | wp_step)
  rw [hdx]
  repeat (first | (with_reducible refine wpAny_nsGet hns ?_; rw [hv]) | wp_step)
  exact hq
theorem code_attr {expr : Bool} {Q : Value → Shared → Prop} (X : IsExc h C mN) (hx : h.get? x = some o) (hc : o.cls = .ref C) (hdat : o.data = .fields vs) (hdx : o.dict = some dx) (hd : h.get? dx = some od) (hO : NsObj od mA) (hv : mA (Str.ofString "code") = some v)
    (hh : handedOut v = pure v) (hq : Q v ⟨h, g, d, t + 1, os⟩) : wpAny (model prog w) A (getAttr (.ref x) (Str.ofString "code") expr) Q E ⟨h, g, d, t, os⟩ := by
  have X' := X
  obtain ⟨⟨nm, q, N, bs, sn, sub, ab, col, dd, k0, k1, k2, k3, k5, hC, hn⟩, x1, x2, x3, x4, x5⟩ := X
  have FB := PySem.F.attrBase_Exception
  have f3 := FB.ga.bind (.ref x)
  have hx0 : (expr && onTheHeap (Value.builtin "BaseException.__getattribute__")) = false := by cases expr <;> rfl
  have hx2 : (Value.builtin "BaseException.__getattribute__" == Value.builtin "object.__getattribute__") = false := by decide +kernel
  have hx1 : (onTheHeap (Value.ref C) && Value.builtin "BaseException.__getattribute__" == Value.builtin "object.__getattribute__") = false := by rw [hx2]; rfl
  have hcB : (Value.ref C :: bmE).contains (.type "BaseException") = true := by simp
  unfold getAttr
  repeat (any_goals (first | assumption | (with_reducible refine wpAny_loadPart_at hx ?_; rw [hc]) | (with_reducible refine wpAny_typeLookup_exc hC hn mroExc noExc_ga ?_; rw [x4]) | (with_reducible refine wpAny_typeLookup_exc hC hn mroExc noExc_gh ?_; rw [x5]) | wp_step))
  refine codeAny_call_builtin FB.ga.plain PySem.F.entry_bexc_ga ?_
  have hk : builtinKind "BaseException.__getattribute__" = some .slot := by decide +kernel
  have hsplit : splitId "BaseException.__getattribute__" = some ("BaseException", "__getattribute__") := by decide +kernel
  have ha := PySem.F.args_bexc_ga (.ref x) (.str (Str.ofString "code") t)
  have hchk : ∀ {A' : Around} {E' : Value → Shared → Prop} {Q' : Unit → Shared → Prop} {tk : Nat}, Q' () ⟨h, g, d, tk, os⟩ → wpAny (model prog w) A' (checkBuiltinCall "BaseException.__getattribute__" ⟨[.ref x, .str (Str.ofString "code") t], []⟩) Q' E' ⟨h, g, d, tk, os⟩ := by
    intro A' E' Q' tk hq'
    simp only [checkBuiltinCall, hk, hsplit]
    refine wpAny_bind ?_
    unfold isInstance
    repeat (first | (with_reducible refine wpAny_loadPart_at hx ?_; rw [hc]) | (with_reducible refine wpAny_isSubtype_exc hC ?_; rw [hcB]) | wp_step)
    exact hq'
  refine hchk (code_entry X' hx hc hdat hdx hd hO hv ?_)
  show wpAny _ _ (handedOut v) _ _ _
  rw [hh]
  exact wpAny_pure hq
end
end Mine
end
section
open PySem PySem.W PyProof.Rows PySem.Calls
set_option maxRecDepth 100000
namespace Mine
/-- an exception on its way, its own dict told -/
def TrD (h base : Heap) (e : Addr) (cls a0 : Value) (dd : Option Addr) (fl : Value) : Prop :=
  ∃ oe vs T oT ts, h.get? e = some oe ∧ (oe.cls = cls ∧ oe.dict = dd ∧ vs[0]? = some a0) ∧ oe.data = .fields vs ∧ vs[1]? = some (.ref T) ∧ base.get? T = none ∧ T ≠ e ∧
    h.get? T = some oT ∧ oT.data = .fields ts ∧ ts[3]? = some fl
def FlyD (base : Heap) (l : List Env) (e : Addr) (cls a0 : Value) (dd : Option Addr) (fl : Value) (h : Heap) : Prop :=
  base.StaysIn h ∧ base.get? e = none ∧ h.FunFrames base l ∧ TrD h base e cls a0 dd fl
theorem FlyD.there {base h : Heap} {l : List Env} {e : Addr} {cls a0 fl : Value} {dd : Option Addr} (x : FlyD base l e cls a0 dd fl h) : ∃ ob, h.get? e = some ob ∧ ob.cls = cls ∧ ob.dict = dd ∧ ∃ vs, ob.data = .fields vs := by
  obtain ⟨_, _, _, oe, vs, _, _, _, he, hc, hd, _⟩ := x
  exact ⟨oe, he, hc.1, hc.2.1, vs, hd⟩
section
variable {M : Model} {A : Around} {E : Value → Shared → Prop} {s : Shared}
theorem entryD {base : Heap} {env : Env} {outer : List Env} {L e : Addr} {oe : Obj} {vs : Array Value} {head a0 : Value} {hadNext : Bool} {Q : Unit → Shared → Prop}
    (hfr : A.frames = some (env :: outer)) (hl : s.heap.FunFrames base (env :: outer)) (hf : env.frame = some L)
    (he : s.heap.get? e = some oe) (hkb : base.StaysIn s.heap) (hen : base.get? e = none) (hd : oe.data = .fields vs) (hsz : 1 < vs.size) (h0 : vs[0]? = some a0)
    (h : ∀ h', FlyD base (env :: outer) e oe.cls a0 oe.dict (rawInt L) h' → s.heap.UpToSlots h' → Q () { s with heap := h' }) :
    wpAny M A (do let a ← frameOf env; let pl ← entryPlaceOf L hadNext; let b ← EntryCells.newEntry head a .none (rawInt L) .none pl; setField (.ref e) 1 b) Q E s := by
  -- e is no frame
  have notFrame : e ∉ (env :: outer).filterMap (·.frame) := fun hm => by
    obtain ⟨_, o, ho, hnf⟩ := hl.mem hm
    rw [he] at ho
    cases ho
    exact hnf vs hd
  refine wpAny_bind (wpAny_frameOf_fun hfr hl hf fun g1 fs => ?_)
  refine wpAny_bind (wpAny_entryPlaceOf fun pl hpl => ?_)
  have e1 : g1.get? e = some oe := (fs.2.1 e notFrame).trans he
  have b1 : base.StaysIn g1 := fun b o hbo => (fs.2.1 b fun hm => by rw [(hl.mem hm).1] at hbo; cases hbo).trans (hkb b o hbo)
  unfold EntryCells.newEntry newFields
  refine wpAny_bind (wpAny_newObj_type ?_ (hpl.sizeOk5 _ _ _ _ _))
  -- the new entry T
  have hTe : g1.objs.size ≠ e := Nat.ne_of_gt (Heap.lt_size e1)
  generalize hoT : ({ cls := .type "traceback", dict := none, data := .fields ([head, .ref L, .none, rawInt L, .none] ++ (if pl.isEmpty then List.replicate 6 Value.none else pl)).toArray } : Obj) = oT
  have dT : oT.data = .fields ([head, .ref L, .none, rawInt L, .none] ++ (if pl.isEmpty then List.replicate 6 Value.none else pl)).toArray := by rw [← hoT]
  have freeT : oT.isFreed = false := Obj.isFreed_of_fields dT
  refine wpAny_setField (Heap.get?_push_of_some oT e1) hd hsz (h _ ?_ ?_)
  all_goals
    have e3 := Heap.get?_update_self (Obj.mapFields (·.setIfInBounds 1 (Value.ref g1.objs.size))) (Heap.get?_push_of_some oT e1) (Obj.isFreed_of_fields (Obj.data_mapFields hd _))
    have keep : ∀ b o, b ≠ e → g1.get? b = some o → ((g1.push oT).update e (Obj.mapFields (·.setIfInBounds 1 (Value.ref g1.objs.size)))).get? b = some o :=
      fun b o hb q => (Heap.get?_update_other _ _ (Ne.symm hb)).trans (Heap.get?_push_of_some _ q)
    have other : ∀ b o, s.heap.get? b = some o → (∀ vs, o.data ≠ .fields vs) → b ≠ e := fun b o hb hn q => by
      rw [q, he] at hb
      cases hb
      exact hn vs hd
  · refine ⟨fun b o q => keep b o (fun z => by rw [z, hen] at q; cases q) (b1 b o q), hen, hl.of_keeps fun b o hb hn => ?_, ?_⟩
    · obtain ⟨sl, hs⟩ := fs.2.2 b o hb
      exact ⟨_, keep b _ (other b o hb hn) hs, rfl⟩
    · refine ⟨_, _, g1.objs.size, oT, _, e3, ⟨Obj.cls_mapFields _ _, ?_, by rw [Array.getElem?_setIfInBounds_ne (by decide)]; exact h0⟩, Obj.data_mapFields hd _, by simp [hsz], b1.fresh, hTe, ?_, dT, ?_⟩
      · obtain ⟨c, dd, dt, sl⟩ := oe
        cases dt <;> rfl
      · exact (Heap.get?_update_other _ _ (Ne.symm hTe)).trans (Heap.get?_push_size _ freeT)
      · first | (simp; done) | (rcases hpl with rfl | ⟨_, _, _, _, _, _, _, rfl⟩ <;> simp)
  · intro b o hb hn
    obtain ⟨sl, hs⟩ := fs.2.2 b o hb
    exact ⟨sl, keep b _ (other b o hb hn) hs⟩
theorem flightD {base : Heap} {l : List Env} {e : Addr} {cls a0 fl : Value} {dd : Option Addr} {Q : Unit → Shared → Prop} (x : FlyD base l e cls a0 dd fl s.heap)
    (h : ∀ h', FlyD base l e cls a0 dd .none h' → s.heap.UpToSlots h' → Q () { s with heap := h' }) : wpAny M A (setFlight (.ref e) none) Q E s := by
  obtain ⟨hkb, hen, hl, oe, vs, T, oT, ts, he, hcls, hd, h1, hnT, hTe, hT, hdT, h3⟩ := x
  have hsz3 : 3 < ts.size := (Array.getElem?_eq_some_iff.mp h3).1
  have other : ∀ b, b ≠ T → (s.heap.update T (Obj.mapFields (·.setIfInBounds 3 ((none : Option Addr).elim Value.none fun f => rawInt f)))).get? b = s.heap.get? b :=
    fun b hb => Heap.get?_update_other _ _ (Ne.symm hb)
  have noT : ∀ b o, s.heap.get? b = some o → (∀ vs, o.data ≠ .fields vs) → b ≠ T := fun b o hb hn q => by
    rw [q, hT] at hb
    cases hb
    exact hn ts hdT
  unfold setFlight
  refine wpAny_bind (wpAny_field he hd h1 ?_)
  rw [if_pos (show (Value.ref T != Value.none) = true from by simp)]
  refine wpAny_setField hT hdT hsz3 (h _ ⟨fun b o q => (other b fun z => by rw [z, hnT] at q; cases q).trans (hkb b o q), hen, hl.of_keeps fun b o hb hn => ⟨o, (other b (noT b o hb hn)).trans hb, rfl⟩, ?_⟩
    fun b o hb hn => ⟨o.slots, (other b (noT b o hb hn)).trans hb⟩)
  exact ⟨oe, vs, T, _, _, (other e (Ne.symm hTe)).trans he, hcls, hd, h1, hnT, hTe, Heap.get?_update_self _ hT (Obj.isFreed_of_fields (Obj.data_mapFields hdT _)), Obj.data_mapFields hdT _, by simp [hsz3]⟩
/-- the frame that raises is left -/
theorem leavingD {base : Heap} {env : Env} {outer : List Env} {L e : Addr} {oe : Obj} {vs : Array Value} {a0 : Value} {Q : Unit → Shared → Prop}
    (hfr : A.frames = some (env :: outer)) (hl : s.heap.FunFrames base (env :: outer)) (hf : env.frame = some L)
    (he : s.heap.get? e = some oe) (hkb : base.StaysIn s.heap) (hen : base.get? e = none) (hd : oe.data = .fields vs) (h1 : vs[1]? = some .none) (h0 : vs[0]? = some a0)
    (h : ∀ h', FlyD base outer e oe.cls a0 oe.dict .none h' → s.heap.UpToSlots h' → Q () { s with heap := h' }) : wpAny M A (leaving env (.ref e)) Q E s := by
  unfold leaving noteFrame
  simp only [hf]
  refine wpAny_bind (wpAny_bind (wpAny_field he hd h1 ?_))
  rw [if_neg (by decide)]
  refine entryD hfr hl hf he hkb hen hd (Array.getElem?_eq_some_iff.mp h1).1 h0 fun h₁ x1 u1 => ?_
  refine flightD x1 fun h₂ x2 u2 => h h₂ ⟨x2.1, x2.2.1, ?_, x2.2.2.2⟩ (u1.trans u2)
  obtain ⟨_, _, k⟩ := x2.2.2.1
  exact k
/-- a frame looks at an exception that comes from below -/
theorem looksD {base : Heap} {env : Env} {outer : List Env} {L e : Addr} {cls a0 : Value} {dd : Option Addr} {Q : Unit → Shared → Prop}
    (hfr : A.frames = some (env :: outer)) (hf : env.frame = some L) (x : FlyD base (env :: outer) e cls a0 dd .none s.heap)
    (h : ∀ h', FlyD base (env :: outer) e cls a0 dd (rawInt L) h' → s.heap.UpToSlots h' → Q () { s with heap := h' }) : wpAny M A (noteFrame (.ref e) env) Q E s := by
  obtain ⟨hkb, hen, hl, oe, vs, T, oT, ts, he, ⟨hcls, hdd, h0⟩, hd, h1, hnT, hTe, hT, hdT, h3⟩ := x
  subst hcls hdd
  unfold noteFrame
  simp only [hf]
  refine wpAny_bind (wpAny_field he hd h1 ?_)
  rw [if_pos (show (Value.ref T != Value.none) = true from by simp)]
  refine wpAny_bind (wpAny_field hT hdT h3 ?_)
  rw [if_neg (show ¬ ((Value.none == rawInt L) = true) from by simp [rawInt])]
  refine wpAny_bind (wpAny_setField hT hdT (Array.getElem?_eq_some_iff.mp h3).1 ?_)
  have other : ∀ b, b ≠ T → (s.heap.update T (Obj.mapFields (·.setIfInBounds 3 Value.none))).get? b = s.heap.get? b := fun b hb => Heap.get?_update_other _ _ (Ne.symm hb)
  have noT : ∀ b o, s.heap.get? b = some o → (∀ vs, o.data ≠ .fields vs) → b ≠ T := fun b o hb hn q => by
    rw [q, hT] at hb
    cases hb
    exact hn ts hdT
  exact entryD hfr (hl.of_keeps fun b o hb hn => ⟨o, (other b (noT b o hb hn)).trans hb, rfl⟩) hf ((other e (Ne.symm hTe)).trans he)
    (fun b o q => (other b fun z => by rw [z, hnT] at q; cases q).trans (hkb b o q)) hen hd (Array.getElem?_eq_some_iff.mp h1).1 h0
    fun h' x1 u1 => h h' x1 fun b o hb hn => u1 b o ((other b (noT b o hb hn)).trans hb) hn
theorem againD {base : Heap} {l : List Env} {env : Env} {L e : Addr} {cls a0 : Value} {dd : Option Addr} {Q : Unit → Shared → Prop} (hf : env.frame = some L) (x : FlyD base l e cls a0 dd (rawInt L) s.heap) (h : Q () s) :
    wpAny M A (noteFrame (.ref e) env) Q E s := by
  obtain ⟨_, _, _, oe, vs, T, oT, ts, he, _, hd, h1, _, _, hT, hdT, h3⟩ := x
  unfold noteFrame
  simp only [hf]
  refine wpAny_bind (wpAny_field he hd h1 ?_)
  rw [if_pos (show (Value.ref T != Value.none) = true from by simp)]
  refine wpAny_bind (wpAny_field hT hdT h3 ?_)
  rw [if_pos (show (rawInt L == rawInt L) = true from by simp)]
  exact wpAny_pure h
/-- a frame in between is left -/
theorem leavesD {base : Heap} {env : Env} {outer : List Env} {L e : Addr} {cls a0 : Value} {dd : Option Addr} {Q : Unit → Shared → Prop}
    (hfr : A.frames = some (env :: outer)) (hf : env.frame = some L) (x : FlyD base (env :: outer) e cls a0 dd .none s.heap)
    (h : ∀ h', FlyD base outer e cls a0 dd .none h' → s.heap.UpToSlots h' → Q () { s with heap := h' }) : wpAny M A (leaving env (.ref e)) Q E s := by
  unfold leaving
  refine wpAny_bind (looksD hfr hf x fun h₁ x1 u1 => flightD x1 fun h₂ x2 u2 => h h₂ ⟨x2.1, x2.2.1, ?_, x2.2.2.2⟩ (u1.trans u2))
  obtain ⟨_, _, k⟩ := x2.2.2.1
  exact k
end
end Mine
end
section
open PySem PySem.W PyProof.Rows PySem.Calls PySem.Spec
set_option maxRecDepth 100000
namespace Mine
/-- an exception of the text in flight, over the frames l; G the ground of the frame that is looked at -/
def RaisedD (base G : Heap) (l : List Env) (e C : Addr) (dd : Option Addr) (news : List (Addr × Obj)) (h : Heap) : Prop :=
  ∃ B a0, base.StaysIn B ∧ (∀ b o, G.get? b = some o → b ∉ l.filterMap (·.frame) → B.get? b = some o) ∧
    (∀ q ∈ news, B.get? q.1 = some q.2 ∧ G.get? q.1 = none ∧ base.get? q.1 = none) ∧ G.get? e = none ∧ FlyD B l e (.ref C) a0 dd .none h
section
variable {M : Model} {A : Around} {E : Value → Shared → Prop} {s' : Shared} {base g g₂ : Heap} {outer : List Env} {L a e t C : Addr} {m : Str → Option Value} {name : Str} {scope : Scope} {cd : Value} {Q : Unit → Shared → Prop} {news : List (Addr × Obj)} {dd : Option Addr}
theorem leave_D (K : Below A base outer g) (F : Fr g L s'.heap m) (N : News g L s'.heap ((e, excO C t dd) :: news)) (hne : ∀ p ∈ news, p.1 ≠ e)
    (hQ : ∀ h', RaisedD base g outer e C dd news h' → g.UpToSlots h' → Q () { s' with heap := h' }) (hk : scope.kind = .function := by rfl) :
    wpAny M (A.deeper (envOf name scope L a cd)) (leaving (envOf name scope L a cd) (.ref e)) Q E s' := by
  have K' := K.push (name := name) (a := a) (cd := cd) F hk
  have he := N _ (.head _)
  let fs := (envOf name scope L a cd :: outer).filterMap (·.frame)
  have hin : ∀ env ∈ (envOf name scope L a cd :: outer), ∀ b, env.frame = some b → b ∈ e :: fs := fun env hm b hb => .tail _ (List.mem_filterMap.mpr ⟨env, hm, hb⟩)
  have be : base.get? e = none := fresh_of_stays K.stays he.2.2
  have nf : ∀ q ∈ ((e, excO C t dd) :: news), q.1 ∉ fs := fun q hq hm => by
    obtain ⟨env, hev, hf⟩ := List.mem_filterMap.mp hm
    rcases List.mem_cons.mp hev with rfl | hev
    · exact (N q hq).2.1 (Option.some.inj hf).symm
    · obtain ⟨o, ho, _⟩ := (K.frames.mem (List.mem_filterMap.mpr ⟨env, hev, hf⟩)).2
      rw [(N q hq).2.2] at ho; cases ho
  have st : base.StaysIn (hideAll s'.heap (e :: fs)) := fun b o q => hideAll_get _ (K'.stays b o q) fun hm => by
    rcases List.mem_cons.mp hm with rfl | hm
    · rw [be] at q; cases q
    · rw [(K'.frames.mem hm).1] at q; cases q
  have sg : ∀ b o, g.get? b = some o → b ∉ outer.filterMap (·.frame) → (hideAll s'.heap (e :: fs)).get? b = some o := fun b o q nm => hideAll_get _ (F.keep b o q) fun hm => by
    rcases List.mem_cons.mp hm with rfl | hm
    · rw [he.2.2] at q; cases q
    · rcases kts_mem hm with z | z
      · rw [z, kts_self F] at q
        cases q
      · exact nm z
  have hl : ∀ q ∈ news, (hideAll s'.heap (e :: fs)).get? q.1 = some q.2 ∧ g.get? q.1 = none ∧ base.get? q.1 = none := fun q hq => by
    refine ⟨hideAll_get _ (N q (.tail _ hq)).1 fun hm => ?_, (N q (.tail _ hq)).2.2, fresh_of_stays K.stays (N q (.tail _ hq)).2.2⟩
    rcases List.mem_cons.mp hm with z | hm
    · exact hne q hq z
    · exact nf q (.tail _ hq) hm
  refine leavingD (vs := #[.ref t, .none, .none, .none, .bool false, .none]) K'.stack (funFrames_hide K'.frames hin) rfl he.1 (fun b o q => of_hideAll _ q) (hideAll_none _ (.head _)) rfl rfl rfl fun h' x1 x2 => ?_
  exact hQ h' ⟨_, _, st, sg, hl, he.2.2, x1⟩ ((Heap.UpToSlots.of_keeps F.keep).trans x2)
theorem leaves_D (K : Below A base outer g) (F : Fr g L g₂ m) (R : RaisedD base g₂ (envOf name scope L a cd :: outer) e C dd news s'.heap) (hsm : g₂.UpToSlots s'.heap)
    (hQ : ∀ h', RaisedD base g outer e C dd news h' → g.UpToSlots h' → Q () { s' with heap := h' }) :
    wpAny M (A.deeper (envOf name scope L a cd)) (leaving (envOf name scope L a cd) (.ref e)) Q E s' := by
  obtain ⟨B, a0, hB, hBG, hl, hnew, hfl⟩ := R
  refine leavesD (Around.frames_deeper K.stack) rfl hfl fun h' x1 x2 => hQ h' ⟨B, a0, hB, fun b o q nm => hBG b o (F.keep b o q) (fun hm => ?_), fun q hq => ⟨(hl q hq).1, kts_none F.keep (hl q hq).2.1, (hl q hq).2.2⟩, kts_none F.keep hnew, x1⟩
    ((Heap.UpToSlots.of_keeps F.keep).trans (hsm.trans x2))
  rcases kts_mem hm with z | z
  · rw [z, kts_self F] at q
    cases q
  · exact nm z
end
section
variable {prog : Program} {w : World} {A₀ : Around} {E : Value → Shared → Prop} {s' : Shared} {base g g₀ G : Heap} {outer : List Env} {L a e C : Addr} {m : Str → Option Value} {name : Str} {scope : Scope} {cd : Value}
  {n : Str} {b₀ : Stmt} {suite : List Stmt} {pos np : Pos} {rest : List ExceptHandler} {Q : Flow → Shared → Prop} {news : List (Addr × Obj)} {dd : Option Addr} {mN mN' : Str → Option Value} {KF : Frag}
  {p : Program} {loose : List Str} {mean : ExcName → Option Value} {mg mb : Str → Option Value} {x : Str} {C' : Addr}
/-- the frame has looked and the exception has landed: what the clauses see -/
structure Landed (base g₀ : Heap) (A₀ : Around) (outer : List Env) (env : Env) (L e C : Addr) (dd : Option Addr) (m : Str → Option Value) (news : List (Addr × Obj)) (KF : Frag) (p : Program) (loose : List Str) (mean : ExcName → Option Value) (mg mb : Str → Option Value) (h : Heap) : Prop where
  out : ∃ B a0 g G, base.StaysIn B ∧ (∀ b o, G.get? b = some o → b ∉ (env :: outer).filterMap (·.frame) → B.get? b = some o) ∧ (∀ q ∈ news, B.get? q.1 = some q.2 ∧ G.get? q.1 = none ∧ base.get? q.1 = none) ∧ G.get? e = none ∧
    FlyD B (env :: outer) e (.ref C) a0 dd .none h ∧ Fr g L G m ∧ Below A₀ base outer g ∧ G.UpToSlots h ∧ KF.In base ∧ Top p loose mean mg mb base ∧ KtsDicts (outer.filterMap (·.frame)) g ∧ KtsTurn (outer.filterMap (·.frame)) g₀ g
theorem land_D (R : RaisedD base G (envOf name scope L a cd :: outer) e C dd news s'.heap) (F : Fr g L G m) (K : Below A₀ base outer g) (hsm : G.UpToSlots s'.heap) (XB : KF.In base) (TB : Top p loose mean mg mb base)
    (D : KtsDicts (outer.filterMap (·.frame)) g) (T0 : KtsTurn (outer.filterMap (·.frame)) g₀ g) {hs : List ExceptHandler}
    (k : ∀ h', Landed base g₀ A₀ outer (envOf name scope L a cd) L e C dd m news KF p loose mean mg mb h' →
      wpAny (model prog w) (A₀.deeper (envOf name scope L a cd)) (handleBy (.ref e) (envOf name scope L a cd) hs) Q E { s' with heap := h' }) :
    wpAny (model prog w) (A₀.deeper (envOf name scope L a cd)) (noteFrame (.ref e) (envOf name scope L a cd))
      (fun _ s₂ => wpAny (model prog w) (A₀.deeper (envOf name scope L a cd)) (setFlight (.ref e) none) (fun _ s₃ =>
        wpAny (model prog w) (A₀.deeper (envOf name scope L a cd)) (handleBy (.ref e) (envOf name scope L a cd) hs) Q E s₃) E s₂) E s' := by
  obtain ⟨B, a0, hB, hBG, hl, hnew, hfl⟩ := R
  refine looksD (Around.frames_deeper K.stack) rfl hfl fun h₄ x4 u4 => ?_
  refine flightD x4 fun h₅ x5 u5 => k h₅ ⟨B, a0, g, G, hB, hBG, hl, hnew, x5, F, K, hsm.trans (u4.trans u5), XB, TB, D, T0⟩
/-- a clause of an own class that the exception is not of -/
theorem miss_D (Y : Landed base g₀ A₀ outer (envOf name scope L a cd) L e C dd m news KF p loose mean mg mb s'.heap)
    (ex : nsIn KF mainGlobals x = some (some (.ref C'))) (X1 : ∀ h, KF.In h → IsExc h C mN) (X2 : ∀ h, KF.In h → IsExc h C' mN') (hne : C ≠ C')
    (k : wpAny (model prog w) (A₀.deeper (envOf name scope L a cd)) (handleBy (.ref e) (envOf name scope L a cd) rest) Q E s')
    (hk : scope.kind = .function := by rfl) (hx : (envOf name scope L a cd).kindOf x = some .globalImplicit := by rfl) (hd : (x == ("__debug__" : Str)) = false := by decide) {nm? : Option Str} :
    wpAny (model prog w) (A₀.deeper (envOf name scope L a cd)) (handleBy (.ref e) (envOf name scope L a cd) (.ExceptHandler (some (.Name x np)) nm? (b₀ :: suite) pos :: rest)) Q E s' := by
  obtain ⟨B, a0, g, G, hB, hBG, hl, hnew, hfl, F, K, hsm, XB, TB, D, T0⟩ := Y.out
  obtain ⟨g₅, T₅, F₅, K₅⟩ := kts_ground K F hBG hfl.1 hsm
  have X₅ : KF.In g₅ := XB.keeps K₅.stays
  have P₅ : TopRead p loose mg mb g₅ := topRead_of (TB.keeps K₅.stays)
  obtain ⟨ob, hob, hobc, _⟩ := hfl.there
  obtain ⟨⟨nm, q, N, bs, sn, sub, ab, col, dd1, k0, k1, k2, k3, k5, hC, hn⟩, _, _, _, _, _⟩ := X1 _ (X₅.keeps F₅.keep)
  obtain ⟨⟨nm', q', N', bs', sn', sub', ab', col', dd1', k0', k1', k2', k3', k5', hC', hn'⟩, _, _, _, _, _⟩ := X2 _ (X₅.keeps F₅.keep)
  refine wpAny_handleBy_cons (codeAny_handlers_test (name_K F₅ X₅ P₅ ex ?_ hk hx hd)) (by intro q; cases q)
  have hcB : (Value.ref C' :: bmE).contains (.type "BaseException") = true := by simp
  have hcC : (Value.ref C :: bmE).contains (.ref C') = false := by simp [Ne.symm hne]
  have f := tc_notTuple
  obtain ⟨hp, gn, dr, tk, os⟩ := s'
  unfold excMatches
  repeat (first | (with_reducible refine wpAny_loadPart_at hob ?_; rw [hobc]) | with_reducible refine wpAny_loadPart_at hC' ?_ | (with_reducible refine wpAny_isSubtype_exc hC' ?_; rw [hcB]) | (with_reducible refine wpAny_isSubtype_exc hC ?_; rw [hcC]) | wp_step)
  exact k
theorem base_contains : bmE.contains (.type "BaseException") = true := by decide
/-- a clause «except C as n» that takes the exception -/
theorem hit_as (Y : Landed base g₀ A₀ outer (envOf name scope L a cd) L e C dd m news KF p loose mean mg mb s'.heap)
    (ex : nsIn KF mainGlobals x = some (some (.ref C))) (X1 : ∀ h, KF.In h → IsExc h C mN)
    (k : ∀ h' g' oe vs tk, KtsTurn (outer.filterMap (·.frame)) g₀ g' → Fr g' L h' (fun y => if y = n then some (.ref e) else m y) → News g' L h' ((e, oe) :: news) → oe.cls = .ref C → oe.dict = dd → oe.data = .fields vs → Below A₀ base outer g' → KF.In g' → Top p loose mean mg mb g' → KtsDicts (outer.filterMap (·.frame)) g' →
      wpAny (model prog w) ((A₀.deeper (envOf name scope L a cd)).mark (some (.ref e))) (execs (b₀ :: suite) (envOf name scope L a cd))
        (fun f s₄ => wpAny (model prog w) (A₀.deeper (envOf name scope L a cd)) (do bindName (envOf name scope L a cd) n .none; unbindBehindTheSuite (envOf name scope L a cd) n pos) (fun _ s₅ => Q f s₅) E s₄)
        (AsSuiteRaised (model prog w) ((A₀.deeper (envOf name scope L a cd)).mark (some (.ref e))) (envOf name scope L a cd) n pos (notedBy (model prog w) ((A₀.deeper (envOf name scope L a cd)).mark (some (.ref e))) (envOf name scope L a cd) (cameBackBy (model prog w) (A₀.deeper (envOf name scope L a cd)) (envOf name scope L a cd) E)))
        { s' with heap := h', toks := tk })
    (hk : scope.kind = .function := by rfl) (hlo : (envOf name scope L a cd).kindOf n = some .local := by rfl) (hx : (envOf name scope L a cd).kindOf x = some .globalImplicit := by rfl) (hd : (x == ("__debug__" : Str)) = false := by decide) :
    wpAny (model prog w) (A₀.deeper (envOf name scope L a cd)) (handleBy (.ref e) (envOf name scope L a cd) (.ExceptHandler (some (.Name x np)) (some n) (b₀ :: suite) pos :: rest)) Q E s' := by
  obtain ⟨B, a0, g, G, hB, hBG, hl, hnew, hfl, F, K, hsm, XB, TB, D, T0⟩ := Y.out
  have hL : B.get? L = none := by
    obtain ⟨_, ⟨L', _, hf, hn', _⟩, _⟩ := hfl.2.2.1
    obtain rfl : L = L' := Option.some.inj hf
    exact hn'
  obtain ⟨g₅, T₅, F₅, K₅⟩ := kts_ground K F hBG hfl.1 hsm
  have X₅ : KF.In g₅ := XB.keeps K₅.stays
  have P₅ : TopRead p loose mg mb g₅ := topRead_of (TB.keeps K₅.stays)
  obtain ⟨ob, hob, hobc, _⟩ := hfl.there
  obtain ⟨⟨nm, q, N, bs, sn, sub, ab, col, dd1, k0, k1, k2, k3, k5, hC, hn⟩, _, _, _, _, _⟩ := X1 _ (X₅.keeps F₅.keep)
  refine wpAny_handleBy_cons (codeAny_handlers_test (name_K F₅ X₅ P₅ ex ?_ hk hx hd)) (by intro q; cases q)
  refine wpAny_excMatches_sub_self hC hob hobc base_contains (codeAny_handlers_suite_as ?_)
  refine flightD hfl fun h₆ x6 u6 => ?_
  obtain ⟨g₆, T₆, F₆, K₆⟩ := kts_ground K F hBG x6.1 (hsm.trans u6)
  obtain ⟨oe, hoe, hoec, hoedd, vs, hoed⟩ := x6.there
  have ne₆ : g₆.get? e = none := T₆.none_ _ (kts_none F.keep hnew)
  have N₆ := News.more F₆ News.nil hoe (fun es n q => by rw [hoed] at q; cases q) ne₆
  have Nl : News g₆ L h₆ news := fun q hq => ⟨x6.1 _ _ (hl q hq).1, (fun z => by have := (hl q hq).1; rw [z, hL] at this; cases this), T₆.none_ _ (kts_none F.keep (hl q hq).2.1)⟩
  have Na : News g₆ L h₆ ((e, oe) :: news) := fun q hq => by
    rcases List.mem_cons.mp hq with rfl | hq
    · exact N₆ _ (.head _)
    · exact Nl q hq
  refine stN F₆ Na (fun h₇ F₇ N₇ => ?_) hk hlo
  exact k h₇ g₆ oe vs _ (T0.trans T₆) F₇ N₇ hoec hoedd hoed K₆ (XB.keeps K₆.stays) (TB.keeps K₆.stays) (D.turn T₆)
/-- a clause «except C» that takes the exception -/
theorem hit_0 (Y : Landed base g₀ A₀ outer (envOf name scope L a cd) L e C dd m news KF p loose mean mg mb s'.heap)
    (ex : nsIn KF mainGlobals x = some (some (.ref C))) (X1 : ∀ h, KF.In h → IsExc h C mN)
    (k : ∀ h' g', KtsTurn (outer.filterMap (·.frame)) g₀ g' → Fr g' L h' m → News g' L h' news → Below A₀ base outer g' → KF.In g' → Top p loose mean mg mb g' → KtsDicts (outer.filterMap (·.frame)) g' →
      wpAny (model prog w) ((A₀.deeper (envOf name scope L a cd)).mark (some (.ref e))) (execs (b₀ :: suite) (envOf name scope L a cd)) Q E { s' with heap := h' })
    (hk : scope.kind = .function := by rfl) (hx : (envOf name scope L a cd).kindOf x = some .globalImplicit := by rfl) (hd : (x == ("__debug__" : Str)) = false := by decide)
    (hE : PassesOwnAt (model prog w) ((A₀.deeper (envOf name scope L a cd)).mark (some (.ref e))) (A₀.deeper (envOf name scope L a cd)) (envOf name scope L a cd) E := by passes_own) :
    wpAny (model prog w) (A₀.deeper (envOf name scope L a cd)) (handleBy (.ref e) (envOf name scope L a cd) (.ExceptHandler (some (.Name x np)) none (b₀ :: suite) pos :: rest)) Q E s' := by
  obtain ⟨B, a0, g, G, hB, hBG, hl, hnew, hfl, F, K, hsm, XB, TB, D, T0⟩ := Y.out
  have hL : B.get? L = none := by
    obtain ⟨_, ⟨L', _, hf, hn', _⟩, _⟩ := hfl.2.2.1
    obtain rfl : L = L' := Option.some.inj hf
    exact hn'
  obtain ⟨g₅, T₅, F₅, K₅⟩ := kts_ground K F hBG hfl.1 hsm
  have X₅ : KF.In g₅ := XB.keeps K₅.stays
  have P₅ : TopRead p loose mg mb g₅ := topRead_of (TB.keeps K₅.stays)
  obtain ⟨ob, hob, hobc, _⟩ := hfl.there
  obtain ⟨⟨nm, q, N, bs, sn, sub, ab, col, dd1, k0, k1, k2, k3, k5, hC, hn⟩, _, _, _, _, _⟩ := X1 _ (X₅.keeps F₅.keep)
  refine wpAny_handleBy_cons (codeAny_handlers_test (name_K F₅ X₅ P₅ ex ?_ hk hx hd)) (by intro q; cases q)
  refine wpAny_excMatches_sub_self hC hob hobc base_contains (codeAny_handlers_suite ?_)
  refine flightD hfl fun h₆ x6 u6 => ?_
  obtain ⟨g₆, T₆, F₆, K₆⟩ := kts_ground K F hBG x6.1 (hsm.trans u6)
  have Nl : News g₆ L h₆ news := fun q hq => ⟨x6.1 _ _ (hl q hq).1, (fun z => by have := (hl q hq).1; rw [z, hL] at this; cases this), T₆.none_ _ (kts_none F.keep (hl q hq).2.1)⟩
  exact wpAny_passesOwnAt hE (k h₆ g₆ (T0.trans T₆) F₆ Nl K₆ (XB.keeps K₆.stays) (TB.keeps K₆.stays) (D.turn T₆))
end
end Mine
end
section
open PySem PySem.W PyProof.Rows PySem.Calls
open PySem.Sem (wp)
set_option maxRecDepth 100000
namespace Mine
section
variable {α β : Type} {M : Model} {A : Around} {E : Value → Shared → Prop} {s : Shared} {env : Env}
theorem wpN_bindA {m : Sem α} {f : α → Sem β} {Q : β → Shared → Prop} (h : wpAny M A m (fun a s' => wpN M A (f a) Q E s') E s) :
    wpN M A (m >>= f) Q E s := wpN_bind (wpN_of h)
theorem n_callWith_of {f : Value} {first : List Value} {pos : Pos} {P : Heap → Prop} {args : List (Bool × Sem Value)} {Q : Value → Shared → Prop} (hplain : args.any (·.1) = false)
    (hk : ∀ h, P h → ∃ k, (k = Keeper.frame ∨ k = Keeper.machine ∨ k = Keeper.boundFrame) ∧ Looks M h (keeperOf f) k)
    (h : wpAny M A (evalArgs f true args []) (fun a s₁ => P s₁.heap ∧ wpN M A (call f (first ++ a.pos) a.kw) Q E s₁) E s) : wpN M A (callWith pos f first args []) Q E s := by
  unfold callWith
  refine wpN_bind (wpN_holding (wpN_mono (wpN_of h) (fun a s₁ h₁ => wpN_bind (wpN_standAt ?_)) fun _ _ x => x))
  obtain ⟨k, hk', L⟩ := hk _ h₁.1
  simp only [hplain, List.any_nil, Bool.or_false]
  refine wpN_bindA (L.here ?_)
  have tail : ∀ {t : Sem Value}, wpN M A t Q E s₁ → wpN M A (t >>= fun r => holding [r] point >>= fun _ => pure r) Q E s₁ :=
    fun ht => wpN_bind (wpN_mono ht (fun r s₂ hr => wpN_bind (wpN_holding (wpN_point (wpN_pure hr)))) fun _ _ x => x)
  have marked (mk : Value) : wpN M A (callMarked mk f (first ++ a.pos) a.kw) Q E s₁ := by unfold callMarked; exact wpN_keep h₁.2
  rcases hk' with rfl | rfl | rfl <;> dsimp only <;> first | exact tail h₁.2 | (split <;> first | exact tail h₁.2 | exact tail (marked _))
theorem n_callWith_pure {f : Value} {first : List Value} {pos : Pos} {args : List (Bool × Sem Value)} {Q : Value → Shared → Prop} (hplain : args.any (·.1) = false) (hk : keeperOf f = pure .machine)
    (h : wpAny M A (evalArgs f true args []) (fun a s₁ => wpN M A (call f (first ++ a.pos) a.kw) Q E s₁) E s) : wpN M A (callWith pos f first args []) Q E s := by
  unfold callWith
  refine wpN_bind (wpN_holding (wpN_mono (wpN_of h) (fun a s₁ h₁ => wpN_bind (wpN_standAt ?_)) fun _ _ x => x))
  simp only [hplain, List.any_nil, Bool.or_false, hk]
  exact wpN_bind (wpN_pure (wpN_bind (wpN_mono h₁ (fun r s₂ hr => wpN_bind (wpN_holding (wpN_point (wpN_pure hr)))) fun _ _ x => x)))
/-- f(e, ..) -/
theorem n_Call {func : Expr} {args : List Expr} {pos : Pos} {Q : Value → Shared → Prop}
    (h : wpAny M A (eval func env) (fun f s₁ => wpN M A (callWith pos f [] (backTo pos (starEach args env)) []) Q E s₁) E s)
    (he : eval (.Call func args [] pos) env = (do callWith pos (← eval func env) [] (backTo pos (starEach args env)) (backToKw pos (keywordEach [] env))) := by rfl) :
    wpN M A (eval (.Call func args [] pos) env) Q E s := by
  rw [he]; exact wpN_bindA h
theorem n_callWith_K {K : Frag} {f : Value} {pos : Pos} {e : Expr} {rest : List Expr} {Q : Value → Shared → Prop} (hk : keepIn K f = true)
    (h : wpAny M A (spliced (backTo pos (starEach (e :: rest) env))) (fun vs s₁ => K.In s₁.heap ∧ wpN M A (call f vs) Q E s₁) E s)
    (he : starEach (e :: rest) env = (false, eval e env) :: starEach rest env := by rfl) (hplain : (backTo pos (starEach rest env)).any (·.1) = false := by rfl) :
    wpN M A (callWith pos f [] (backTo pos (starEach (e :: rest) env)) []) Q E s := by
  rw [he] at h ⊢
  exact n_callWith_of (by show (false || (backTo pos (starEach rest env)).any (·.1)) = false; rw [hplain]; rfl) (keeps_K hk) (evalArgs_plain h)
theorem n_callWith_type {T : String} {pos : Pos} {e : Expr} {rest : List Expr} {Q : Value → Shared → Prop}
    (h : wpAny M A (spliced (backTo pos (starEach (e :: rest) env))) (fun vs s₁ => wpN M A (call (.type T) vs) Q E s₁) E s)
    (he : starEach (e :: rest) env = (false, eval e env) :: starEach rest env := by rfl) (hplain : (backTo pos (starEach rest env)).any (·.1) = false := by rfl) (hk : keeperOf (.type T) = pure .machine := by rfl) :
    wpN M A (callWith pos (.type T) [] (backTo pos (starEach (e :: rest) env)) []) Q E s := by
  rw [he] at h ⊢
  exact n_callWith_pure (by show (false || (backTo pos (starEach rest env)).any (·.1)) = false; rw [hplain]; rfl) hk (evalArgs_plain h)
theorem n_callWith_builtin {id : String} {first : List Value} {pos : Pos} {e : Expr} {rest : List Expr} {Q : Value → Shared → Prop}
    (h : wpAny M A (spliced (backTo pos (starEach (e :: rest) env))) (fun vs s₁ => wpN M A (call (.builtin id) (first ++ vs)) Q E s₁) E s)
    (he : starEach (e :: rest) env = (false, eval e env) :: starEach rest env := by rfl) (hplain : (backTo pos (starEach rest env)).any (·.1) = false := by rfl) (hk : keeperOf (.builtin id) = pure .machine := by rfl) :
    wpN M A (callWith pos (.builtin id) first (backTo pos (starEach (e :: rest) env)) []) Q E s := by
  rw [he] at h ⊢
  exact n_callWith_pure (by show (false || (backTo pos (starEach rest env)).any (·.1)) = false; rw [hplain]; rfl) hk (evalArgs_plain h)
/-- a tuple whose first item is walked so -/
theorem n_Tuple {e : Expr} {rest : List Expr} {k : Nat} {pos : Pos} {Q : Value → Shared → Prop}
    (h : wpN M A (eval e env) (fun v s₁ => wpAny M A (spliced (backTo pos (starEach rest env))) (fun vs s₂ => wpAny M A (newTuple (v :: vs)) Q E s₂) E s₁) E s)
    (he : starEach (e :: rest) env = (false, eval e env) :: starEach rest env := by rfl) : wpN M A (eval (.Tuple (e :: rest) k pos) env) Q E s := by
  show wpN M A (do standAt pos; newTuple (← spliced (backTo pos (starEach (e :: rest) env)))) Q E s
  refine wpN_bind (wpN_standAt (wpN_bind ?_))
  rw [he]
  show wpN M A (do
    let v ← eval e env
    let here ← (pure [v] : Sem (List Value))
    return here ++ (← holding here (spliced (backTo pos (starEach rest env))))) _ E s
  refine wpN_bind (wpN_mono h (fun v s₁ h₁ => wpN_bind (wpN_pure (wpN_bind (wpN_holding (wpN_mono (wpN_of h₁) (fun vs s₂ h₂ => wpN_pure ?_) fun _ _ x => x))))) fun _ _ x => x)
  exact wpN_of h₂
theorem n_Assign_Tuple_swapped {elts k tpos value pos} {names : List Str} {Q : Flow → Shared → Prop}
    (h : wpN M A (eval value env) (fun v s₁ => wpAny M A (unpackItems v names.length none) (fun items s₂ =>
      wpAny M A (assignInOrder (names.reverse.map fun n => bindName env n) items.reverse) (fun _ => Q .next) E s₂) E s₁) E s)
    (hs : swapsWithSole [.Tuple elts k tpos] value pos.line env = pure false := by rfl)
    (hw : swappedStores [.Tuple elts k tpos] value env = pure (some names) := by rfl) :
    wpN M A (exec (.Assign [.Tuple elts k tpos] value pos) env) Q E s := by
  rw [exec_Assign]
  refine wpN_bind (wpN_standAt ?_)
  rw [hs]
  refine wpN_bind (wpN_pure ?_)
  rw [if_neg (by decide)]
  refine wpN_bind (wpN_mono h (fun v s₁ h₁ => ?_) fun _ _ x => x)
  rw [hw]
  refine wpN_bind (wpN_pure ?_)
  show wpN M A (do rule "assign.swapped-stores"; let items ← unpackItems v names.length none; assignInOrder (names.reverse.map fun n => bindName env n) items.reverse; pure .next) Q E s₁
  exact wpN_of (wpAny_bind (wpAny_rule (wpAny_bind (wpAny_mono h₁ (fun items s₂ h₂ => wpAny_bind (wpAny_mono h₂ (fun _ _ x => wpAny_pure x) fun _ _ x => x)) fun _ _ x => x))))
theorem n_Expr {e pos} {Q : Flow → Shared → Prop} (h : wpN M A (eval e env) (fun v s' => match v with | .ref _ => False | _ => Q .next s') E s)
    (hi : interactive env = false := by rfl) (hs : swapsWith e none pos.line env = pure false := by rfl) :
    wpN M A (exec (.Expr e pos) env) Q E s := by
  rw [exec_Expr env e pos hi hs]
  refine wpN_bind (wpN_standAt (wpN_bind (wpN_mono h (fun v s' h' => ?_) fun _ _ x => x)))
  have hv : ∀ a, v ≠ .ref a := fun a hva => by subst hva; exact h'
  rw [dropValue_plain hv]
  refine wpN_pure ?_
  cases v <;> first | exact h' | exact (hv _ rfl).elim
end
section
variable {prog : Program} {w : World} {A : Around} {R : Result → Shared → Prop} {s : Shared} {env : Env}
theorem n_runOwn {c : Code} (hok : okC c = true) {E : Value → Shared → Prop} {Q : Flow → Shared → Prop}
    (hc : codeN (model prog w) (A.mark none) c (fun r s' => match r with | .ok f => Q f s' | .error _ => False) s) : wpN (model prog w) A (runOwn c env) Q E s := by
  unfold runOwn
  refine wpN_onRaise (wpN_run hok (codeN_mono hc fun r s' h => ?_))
  cases r with
  | ok f => exact h
  | error e => exact h
theorem n_While {test body orelse pos} {E : Value → Shared → Prop} {Q : Flow → Shared → Prop}
    (hc : codeN (model prog w) A (.whileLoop test body orelse env) (fun r s' => match r with | .ok f => Q f s' | .error _ => False) s) :
    wpN (model prog w) A (exec (.While test body orelse pos) env) Q E s := by
  rw [exec_While]
  exact wpN_bind (wpN_standAt (n_runOwn rfl hc))
theorem n_whileLoop {test body env}
    (h : wpAny (model prog w) A (isTrue test env (eval test env)) (fun b s₂ =>
        if b then wpN (model prog w) A (execs body env) (fun f s₃ => match f with
            | .next | .cont => codeN (model prog w) A (.whileLoop test body [] env) R s₃
            | .brk => R (.ok .next) s₃
            | .ret v => R (.ok (.ret v)) s₃) (fun _ _ => False) s₂
        else R (.ok .next) s₂) (fun _ _ => False) s) : codeN (model prog w) A (.whileLoop test body [] env) R s := by
  refine codeN_of_tree ?_
  show wpN _ A ((whileTurn test body [] env).onRaise (fun x => do noteFrame x env; theTreesLotGoes x)) _ _ s
  refine wpN_onRaise ?_
  simp only [whileTurn]
  refine wpN_bind (wpN_mono (wpN_of h) (fun b s₂ h₂ => ?_) fun _ _ h' => h')
  cases b with
  | false =>
    simp only [Bool.false_eq_true, if_false] at h₂ ⊢
    exact wpN_bind (wpN_pure (wpN_pure h₂))
  | true =>
    simp only [if_true] at h₂ ⊢
    refine wpN_bind (wpN_mono h₂ (fun f s₃ h₃ => ?_) fun _ _ h' => h')
    cases f with
    | next => exact wpN_pure ⟨rfl, rfl, h₃⟩
    | cont => exact wpN_pure ⟨rfl, rfl, h₃⟩
    | brk => exact wpN_pure h₃
    | ret v => exact wpN_pure h₃
theorem n_For {target iter body orelse pos} {Q : Flow → Shared → Prop} {E : Value → Shared → Prop}
    (h : wpAny (model prog w) A (eval iter env) (fun x s₁ => wpAny (model prog w) A (pyIter x) (fun it s₂ =>
      codeN (model prog w) A (.forLoop target it body orelse env) (fun r s' => match r with | .ok f => Q f s' | .error _ => False) s₂) E s₁) E s)
    (hs : ∀ x, foldedSetIterable iter env x = pure x := by intro _; rfl) :
    wpN (model prog w) A (exec (.For target iter body orelse pos) env) Q E s := by
  rw [exec_For]
  refine wpN_bind (wpN_standAt (wpN_bindA (wpAny_mono h (fun x s₁ h₁ => ?_) fun _ _ h' => h')))
  rw [hs x]
  exact wpN_bind (wpN_pure (wpN_bind (wpN_standAt (wpN_bind (wpN_holding (wpN_mono (wpN_of h₁) (fun it s₂ h₂ => n_runOwn rfl h₂) fun _ _ h' => h'))))))
theorem n_forLoop {target it body env}
    (h : wpAny (model prog w) A (pyNext it) (fun r s₁ => match r with
      | none => R (.ok .next) s₁
      | some v => wpAny (model prog w) A (assign target env v) (fun _ s₂ => wpN (model prog w) A (execs body env) (fun f s₃ => match f with
          | .next | .cont => codeN (model prog w) A (.forLoop target it body [] env) R s₃
          | .brk => R (.ok .next) s₃
          | .ret v => R (.ok (.ret v)) s₃) (fun _ _ => False) s₂) (fun _ _ => False) s₁) (fun _ _ => False) s)
    (ht : ∀ v, letOwnedTupleGo target it v = pure () := by intro _; rfl) : codeN (model prog w) A (.forLoop target it body [] env) R s := by
  refine codeN_of_tree ?_
  show wpN _ A ((forTurn target it body [] env).onRaise (fun x => do noteFrame x env; theTreesLotGoes x)) _ _ s
  refine wpN_onRaise ?_
  simp only [forTurn]
  refine wpN_bind (wpN_standAt (wpN_bind (wpN_onRaise (wpN_mono (wpN_of h) (fun r s₁ h₁ => ?_) fun _ _ h' => h'))))
  cases r with
  | none => exact wpN_pure ⟨rfl, rfl, codeN_of (codeAny_block (wpAny_pure h₁))⟩
  | some v =>
    dsimp only
    rw [ht v]
    refine wpN_bind (wpN_pure (wpN_bindA (wpAny_mono h₁ (fun _ s₂ h₂ => ?_) fun _ _ h' => h')))
    refine wpN_bind (wpN_mono h₂ (fun f s₃ h₃ => ?_) fun _ _ h' => h')
    cases f with
    | next => exact wpN_pure ⟨rfl, rfl, h₃⟩
    | cont => exact wpN_pure ⟨rfl, rfl, h₃⟩
    | brk => exact wpN_pure h₃
    | ret v => exact wpN_pure h₃
end
/-- a def of the text, entered so -/
theorem n_def {prog : Program} {w : World} {A₀ A : Around} {s : Shared} {base h₀ : Heap} {outer : List Env} {L : Addr} {m : Str → Option Value} {news : List (Addr × Obj)} {K : Frag} {p : Program} {loose : List Str} {mean : ExcName → Option Value} {mg mb : Str → Option Value}
    {env : Env} {R : Result → Shared → Prop} {name qual : Str} {params : Arguments} {body : List Stmt} {scope : Scope} {dV kV doc pm cdv ct oc : Value} {an od : Option Addr} {osl : Array (Option Value)} {f : Addr} {args : Args} {binds : List (Str × Value)}
    (B : Below A₀ base outer h₀) (F : Fr h₀ L s.heap m) (X₀ : K.In h₀) (N : News h₀ L s.heap news) (T : Top p loose mean mg mb h₀) (hA : A.frames = some (env :: outer)) (hf : env.frame = some L) (hke : env.scope.kind = .function)
    (ho : K.lookup f = some ⟨oc, od, .func (fnOf name qual params body scope dV kV doc pm an cdv ct), osl⟩) (hcd : codeIn K cdv qual = true) (hroom : A.depth < recursionLimit)
    (hbind : BindsTo s (fnOf name qual params body scope dV kV doc pm an cdv ct) args binds) (hloc : ∀ y ∈ binds, scope.names.lookup y.1 = some .local)
    (h : ∀ g L' h₁, Fr h₀ L g m → Fr g L' h₁ (fun y => binds.reverse.lookup y) → News g L' h₁ news → Below A base (env :: outer) g → K.In g → Top p loose mean mg mb g →
      wpN (model prog w) (A.deeper (envOf qual scope L' f cdv)) (execs body (envOf qual scope L' f cdv))
        (fun fl s' => LeaveK h₀ L m g R (match fl with | .ret v => v | _ => .none) s') (fun _ _ => False) { s with heap := h₁, toks := s.toks + binds.length })
    (hco : scope.isCoroutine = false) (hgen : scope.isGenerator = false) (hk : scope.kind = .function)
    (hcell : ∀ x ∈ scope.names, x.2 ≠ .cell) : codeN (model prog w) A (.call (.ref f) args) R s := by
  obtain ⟨FG, BG, st, lv⟩ := groundX (R := R) B F N hA hf hke
  refine codeN_call_def (fd := fnOf name qual params body scope dV kV doc pm an cdv ct) (body := body) (binds := binds) hroom ((X₀.keeps F.keep) _ _ ho) rfl (T.nolimit.keeps F.keep) (codeRec_of (X₀.keeps F.keep) hcd) rfl hbind hcell hloc (fun h₁ hns hk₁ => ?_) hco hgen hk
  exact wpN_mono (h _ s.heap.objs.size h₁ FG ⟨hns, fun b o e => hk₁ b o (of_hideAll _ e), Nat.le_of_eq (hideAll_size _ _)⟩
    (fun p hp => ⟨hk₁ _ _ (N p hp).1, Nat.ne_of_lt (Heap.lt_size (N p hp).1), hideAll_none _ (List.mem_map_of_mem hp)⟩) BG (X₀.keeps st) (T.keeps st)) (fun fl s' hl => lv _ _ hl) fun _ _ y => y
end Mine
end
section
open PySem PySem.W PyProof.Rows PySem.Calls
open PySem.Sem (wp)
set_option maxRecDepth 100000
namespace Mine
theorem ba_mro : mroOf (.type "bytearray") = pure [.type "bytearray", .type "object"] := by rw [mroOf_type]; kernel_rfl
theorem ba_lookup_new : typeLookup (.type "bytearray") "__new__" = pure (some (.builtin "bytearray.__new__")) := by rw [typeLookup_type, builtinLookup_eq_fast]; kernel_rfl
theorem ba_slot_init : Slot "bytearray" "__init__" "bytearray.__init__" :=
  .of (owner := "bytearray") (n := "__init__") (by rw [typeLookup_type, builtinLookup_eq_fast]; kernel_rfl) (by decide +kernel) (by decide +kernel) (by decide +kernel)
    (by first | exact .inl (by decide +kernel) | exact .inr (by decide +kernel)) (by rw [isSubtype_type]; kernel_rfl)
theorem ba_slot_append : Slot "bytearray" "append" "bytearray.append" :=
  .of (owner := "bytearray") (n := "append") (by rw [typeLookup_type, builtinLookup_eq_fast]; kernel_rfl) (by decide +kernel) (by decide +kernel) (by decide +kernel)
    (by first | exact .inl (by decide +kernel) | exact .inr (by decide +kernel)) (by rw [isSubtype_type]; kernel_rfl)
theorem ba_called : TypeCalled "bytearray" "bytearray.__new__" "bytearray.__init__" :=
  ⟨by decide +kernel, by decide +kernel, ⟨_, _, ba_mro⟩, madeBy_type ba_mro ba_lookup_new (by decide +kernel), by decide +kernel, by rw [isSubtype_type]; kernel_rfl, ba_slot_init⟩
theorem ba_typeCall (a : Value) : checkTypeCall "bytearray" ⟨[a], []⟩ = pure () := by kernel_rfl
theorem ba_newCall (a : Value) : checkBuiltinCall "bytearray.__new__" ⟨[.type "bytearray", a], []⟩ = pure () := by kernel_rfl
theorem ba_entry_new : entryFor table "bytearray.__new__" = some Builtin.«list.__new__» := entryFor_alias (id' := "list.__new__") (by kernel_rfl) rfl (by decide +kernel) (by kernel_rfl)
theorem ba_entry_init : entryFor table "bytearray.__init__" = some Builtin.«bytearray.__init__» := entryFor_of_tree (by kernel_rfl)
theorem ba_entry_append : entryFor table "bytearray.append" = some Builtin.«bytearray.append» := entryFor_of_tree (by kernel_rfl)
theorem ba_plain_new : plainId "bytearray.__new__" = true := by decide +kernel
theorem ba_args_init (a b : Value) : argsOk "bytearray.__init__" ⟨[a, b], []⟩ := by unfold argsOk; kernel_rfl
theorem ba_args_append (a b : Value) : argsOk "bytearray.append" ⟨[a, b], []⟩ := by unfold argsOk; kernel_rfl
theorem ba_type_append : typeOf (.builtin "bytearray.append") = pure (.type "method_descriptor") := by show builtinType _ = _; rw [builtinType_eq_fast]; kernel_rfl
theorem ba_bind (v : Value) : Builtin.Bytes.bindOptional "bytearray.__init__" "bytearray" ["source", "encoding", "errors"] [v] [] = pure [some v, none, none] := by kernel_rfl
set_option maxRecDepth 1000000 in
set_option maxHeartbeats 4000000 in
theorem ba_owner : ("bytearray.__new__".splitOn ".__new__").headD "" = "bytearray" := by simp +decide [String.splitOn, String.splitOnAux]
theorem ba_sub : isSubtype (.type "bytearray") (.type "bytearray") = pure true := by rw [isSubtype_type]; kernel_rfl
theorem ba_release : typeLookup (.type "bytearray") "__release_buffer__" = pure (some (.builtin "bytearray.__release_buffer__")) := by rw [typeLookup_type, builtinLookup_eq_fast]; kernel_rfl
theorem ba_buffer : typeLookup (.type "bytearray") "__buffer__" = pure (some (.builtin "bytearray.__buffer__")) := by rw [typeLookup_type, builtinLookup_eq_fast]; kernel_rfl
theorem ba_no_bytes : typeLookup (.type "bytearray") "__bytes__" = pure none := by rw [typeLookup_type, builtinLookup_eq_fast]; kernel_rfl
theorem ba_no_index : typeLookup (.type "bytearray") "__index__" = pure none := by rw [typeLookup_type, builtinLookup_eq_fast]; kernel_rfl
theorem ba_okInit (a : Args) : okC (.builtin "bytearray.__init__" a) = true := by simp only [okC]; decide +kernel
theorem ba_okNew (a : Args) : okC (.builtin "bytearray.__new__" a) = true := by simp only [okC]; decide +kernel
theorem ba_okAppend (a : Args) : okC (.builtin "bytearray.append" a) = true := by simp only [okC]; decide +kernel
theorem ba_okCall (a : Args) : okC (.builtin "type.__call__" a) = true := by simp only [okC]; decide +kernel
abbrev baO (b : Array UInt8) : Obj := { cls := .type "bytearray", data := .bytearray b }
section
variable {prog : Program} {w : World} {A : Around} {E : Value → Shared → Prop} {s : Shared} {R : Result → Shared → Prop}
theorem ba_new (a : Value) {Q₁ : Value → Shared → Prop}
    (h : Q₁ (.ref s.heap.objs.size) { s with heap := s.heap.push (baO #[]) }) :
    codeAny (model prog w) A (.call (.builtin "bytearray.__new__") ⟨[.type "bytearray", a], []⟩) (wants Q₁ E) s := by
  refine codeAny_of_tree ?_
  show wpAny _ A.in1 (do checkBuiltinCall "bytearray.__new__" ⟨[.type "bytearray", a], []⟩; again (.builtin "bytearray.__new__" ⟨[.type "bytearray", a], []⟩)) _ _ s
  refine wpAny_bind (wpAny_of_eq (ba_newCall a) (wpAny_pure ⟨plainId_quiet ba_plain_new _, codeAny_builtin_stack ba_entry_new rfl fun p st => ?_⟩))
  rw [Around.under_plainId ba_plain_new _]
  have hsub := ba_sub
  have hown := ba_owner
  obtain ⟨hp, g, d, tk, os⟩ := s
  simp only [hown]
  wp_walk
  exact h
theorem n_exported {self : Value} {Q : Bool → Shared → Prop} (h : Q false s) : wpN (model prog w) A (Builtin.Bytes.exported self) Q E s := fun Γ p hΓ hc => by
  unfold Builtin.Bytes.exported
  show wp _ Γ (Sem.bind stack _) _ _ p s
  unfold stack
  rw [Sem.wp_bind, Sem.wp_stack]
  have key : ∀ b, b = false → Q b s := fun b hb => hb ▸ h
  refine key _ ?_
  rw [List.any_eq_false]
  intro x hx
  have hok : okC x.1 = true := by
    rcases List.mem_cons.mp hx with rfl | hx
    · exact hc.1
    · exact hc.2 x hx
  obtain ⟨c, q⟩ := x
  dsimp only at hok
  delta Builtin.Bytes.exported.match_1
  dsimp only
  cases c with
  | builtin id args =>
    obtain ⟨ps, ks⟩ := args
    obtain ⟨hd, hs⟩ := Bool.and_eq_true_iff.mp hok
    have ne : ∀ n, n ∈ ["bytearray.__contains__", "bytearray.__mod__", "bytearray.__rmod__", "_struct.pack_into.held", "bytearray.find.held"] → ¬ id = n := by
      intro n hn e
      subst e
      rw [show List.contains _ _ = true from List.elem_eq_true_of_mem hn] at hs
      exact Bool.noConfusion hs
    delta Builtin.Bytes.exported._sparseCasesOn_1
    dsimp only
    rw [dif_neg (ne _ (.head _)), dif_neg (ne _ (.tail _ (.head _))), dif_neg (ne _ (.tail _ (.tail _ (.head _)))), dif_neg (ne _ (.tail _ (.tail _ (.tail _ (.head _))))), dif_neg (ne _ (.tail _ (.tail _ (.tail _ (.tail _ (.head _))))))]
    cases ps with
    | nil => exact Bool.false_ne_true
    | cons v r =>
      show ¬ ((_ && _) = true)
      rw [(Bool.not_eq_true' _).mp hd, Bool.and_false]
      exact Bool.false_ne_true
  | _ => exact Bool.false_ne_true
end
end Mine
end
section
open PySem PySem.W PyProof.Rows PySem.Calls
open PySem.Sem (wp)
set_option maxRecDepth 100000
namespace Mine
section
variable {prog : Program} {w : World} {A : Around} {E : Value → Shared → Prop} {s : Shared} {R : Result → Shared → Prop}
theorem codeN_builtin {id : String} {args : Args} {b : Builtin} (hb : entryFor table id = some b)
    (h : wpN (model prog w) (A.under (.builtin id args)) (b args)
      (fun fin s' => match fin with | .done f => R (.ok f) s' | .again c' => okC c' = true ∧ c'.quiet = true ∧ codeN (model prog w) A c' R s') (fun e s' => R (.error e) s') s) :
    codeN (model prog w) A (.builtin id args) R s := by
  refine codeN_of_tree ?_
  show wpN _ _ (match entryFor table id with | some b => b args | none => unsupported ((withoutEnding? id "#data").getD id)) _ _ s
  rw [hb]; exact h
theorem n_call_builtin {id : String} {args : Args} {b : Builtin} (hok : okC (.builtin id args) = true) (hq : plainId id = true) (hb : entryFor table id = some b)
    (h : wpAny (model prog w) A.in1 (checkBuiltinCall id args) (fun _ s₁ => wpN (model prog w) A.in1 (b args)
      (fun fin s' => match fin with | .done f => R (.ok f) s' | .again c' => okC c' = true ∧ c'.quiet = true ∧ codeN (model prog w) A c' R s') (fun e s' => R (.error e) s') s₁)
      (fun e s' => R (.error e) s') s) : codeN (model prog w) A (.call (.builtin id) args) R s := by
  refine codeN_of_tree ?_
  show wpN _ A.in1 (do checkBuiltinCall id args; again (.builtin id args)) _ _ s
  refine wpN_bindA (wpAny_mono h (fun _ s₁ h₁ => wpN_pure ⟨hok, plainId_quiet hq args, codeN_builtin hb ?_⟩) fun _ _ x => x)
  rw [Around.under_plainId hq args]
  exact h₁
theorem n_call_ba {l : Addr} {Q : Value → Shared → Prop}
    (h : ∀ D, D = s.heap.objs.size → codeN (model prog w) A.in1 (.call (.builtin "bytearray.__init__") ⟨[.ref D, .ref l], []⟩) (fun r s' => match r with | .ok (.ret v) => v = .none ∧ s'.TypeIs (.ref D) "bytearray" ∧ Q (.ref D) s' | .ok _ => False | .error e => E e s') { s with heap := s.heap.push (baO #[]) }) :
    wpN (model prog w) A (call (.type "bytearray") [.ref l]) Q E s := by
  refine wpN_call (codeN_of_tree ?_)
  show wpN _ _ (callAny (.type "bytearray") _) _ _ _
  refine wpN_pure ⟨ba_okCall _, Code.quiet_builtin _ (by decide +kernel), codeN_builtin F.entry_type_call ?_⟩
  rw [Around.under_plain (weight_type_call_type "bytearray" [.ref l] []) rfl]
  unfold Builtin.«type.__call__»
  dsimp only
  rw [if_neg (ne_true_of_eq_false ba_called.notType), if_neg (ne_true_of_eq_false ba_called.canCreate), ba_typeCall]
  refine wpN_bind (wpN_pure ?_)
  rw [ba_mro]
  refine wpN_bind (wpN_pure ?_)
  rw [if_neg (by decide), ba_called.made]
  refine wpN_bind (wpN_pure (wpN_bind (wpN_pure (wpN_bind (wpN_holding (wpN_of (wpAny_call ?_)))))))
  refine ba_new (.ref l) (Q₁ := fun v s' => wpN _ _ _ _ _ s') ?_
  have hT : ({ s with heap := s.heap.push (baO #[]) } : Shared).TypeIs (.ref s.heap.objs.size) "bytearray" := ⟨_, Heap.get?_push_size _ rfl, rfl⟩
  refine wpN_bindA (wpAny_isInstance hT ba_sub ?_)
  rw [if_neg (by decide)]
  refine wpN_bind (wpN_holding ?_)
  simp only [callSpecial?]
  refine wpN_bindA (wpAny_specialOf hT ba_slot_init.lookup ?_)
  simp only [ba_slot_init.bind]
  refine wpN_holding (wpN_bind (wpN_pure (wpN_bind (wpN_call ?_))))
  refine codeN_mono (h _ rfl) fun r s' hr => ?_
  cases r with
  | error e => exact hr
  | ok fl =>
    cases fl with
    | ret v =>
      obtain ⟨rfl, hT', hq⟩ := hr
      refine wpN_pure ?_
      dsimp only
      rw [if_neg (by decide)]
      exact wpN_pure hq
    | _ => exact hr.elim
end
end Mine
end
section
open PySem PySem.W PyProof.Rows PySem.Calls
open PySem.Sem (wp)
set_option maxRecDepth 100000
namespace Mine
section
variable {prog : Program} {w : World} {A : Around} {E : Value → Shared → Prop} {s : Shared} {R : Result → Shared → Prop}
theorem ba_ends : "bytearray.__release_buffer__".endsWith ("." ++ "__release_buffer__") = true := by decide +kernel
theorem ba_ends2 : "bytearray.__buffer__".endsWith ("." ++ "__buffer__") = true := by decide +kernel
theorem ba_drop : "bytearray.__release_buffer__".dropRight ("__release_buffer__".length + 1) = "bytearray" := by decide +kernel
theorem ba_drop2 : "bytearray.__buffer__".dropRight ("__buffer__".length + 1) = "bytearray" := by decide +kernel
theorem ba_own {D : Addr} {Q : Bool → Shared → Prop} (hT : s.TypeIs (.ref D) "bytearray") (h : Q false s) : wpAny (model prog w) A (Builtin.Bytes.ownRelease (.ref D)) Q E s := by
  unfold Builtin.Bytes.ownRelease Builtin.Bytes.slotIsOwn
  refine wpAny_bind (wpAny_bind (wpAny_specialOf hT ba_release ?_))
  dsimp only
  rw [ba_ends, if_neg (by decide), ba_drop]
  exact wpAny_isInstance hT ba_sub (wpAny_pure h)
theorem ba_exports {D : Addr} {b : Array UInt8} {Q : Nat → Shared → Prop} (hD : s.heap.get? D = some (baO b)) (h : Q 0 s) : wpAny (model prog w) A (Builtin.Bytes.exportsOf (.ref D)) Q E s := by
  unfold Builtin.Bytes.exportsOf
  exact wpAny_bind (wpAny_load hD (wpAny_pure h))
theorem ba_free {D : Addr} {b : Array UInt8} {Q : Bool → Shared → Prop} (hD : s.heap.get? D = some (baO b)) (h : Q false s) :
    wpN (model prog w) A (Builtin.Bytes.exported (.ref D) <||> (do return (← Builtin.Bytes.exportsOf (.ref D)) > 0)) Q E s := by
  show wpN _ _ (Builtin.Bytes.exported (.ref D) >>= _) _ _ _
  refine wpN_bind (n_exported ?_)
  exact wpN_of (wpAny_bind (ba_exports hD (wpAny_pure h)))
theorem ba_write {D : Addr} {b : Array UInt8} {f : Array UInt8 → Array UInt8} {Q : Unit → Shared → Prop} (hD : s.heap.get? D = some (baO b)) (hz : (f b).size ≤ 1000)
    (h : ∀ h', (∀ a o, a ≠ D → s.heap.get? a = some o → h'.get? a = some o) → h'.get? D = some (baO (f b)) → Q () { s with heap := h' }) :
    wpAny (model prog w) A (Builtin.Bytes.write (.ref D) f) Q E s := by
  show wpAny _ _ (updateBytearray D f) _ _ _
  unfold updateBytearray
  refine wpAny_bind (wpAny_load hD ?_)
  show wpAny _ _ (update D (Obj.mapBytearray f) >>= fun _ => lookBehind D) _ _ _
  refine wpAny_bind (wpAny_update hD ?_)
  have hS : (s.heap.update D (Obj.mapBytearray f)).get? D = some (baO (f b)) := Heap.get?_update_self (Obj.mapBytearray f) hD rfl
  refine wpAny_lookBehind hS ?_ (h _ (fun a o ha e => (Heap.get?_update_other _ _ (Ne.symm ha)).trans e) hS)
  show (if (f b).size > sizeLine then some "bytearray:memory" else none) = none
  rw [if_neg (by rw [sizeLine_eq]; omega)]
/-- bytearray.__init__ with a list of one byte -/
theorem n_ba_init {D l : Addr} {v : Int} {t : Tok} (hD : s.heap.get? D = some (baO #[])) (hl : s.heap.IsList l #[.int v t]) (hne : l ≠ D) (h0 : 0 ≤ v) (h1 : v < 256)
    (hR : ∀ h', (∀ a o, a ≠ D → s.heap.get? a = some o → h'.get? a = some o) → h'.get? D = some (baO #[v.toNat.toUInt8]) → R (.ok (.ret .none)) { s with heap := h' }) :
    codeN (model prog w) A (.call (.builtin "bytearray.__init__") ⟨[.ref D, .ref l], []⟩) R s := by
  have hT : s.TypeIs (.ref D) "bytearray" := ⟨_, hD, rfl⟩
  refine n_call_builtin (ba_okInit _) ba_slot_init.plain ba_entry_init (ba_slot_init.check _ _ _ _ _ _ _ _ hT (ba_args_init _ _) ?_)
  unfold Builtin.«bytearray.__init__»
  dsimp only
  refine wpN_bindA (ba_own hT ?_)
  rw [if_neg (by decide), ba_bind]
  refine wpN_bind (wpN_pure ?_)
  dsimp only
  refine wpN_bindA (wpAny_of_eq (a := ()) rfl ?_)
  refine wpN_bindA (wpAny_of_eq (a := ()) rfl ?_)
  refine wpN_bind (ba_free hD ?_)
  rw [if_neg (by decide)]
  refine wpN_bindA (ba_write hD (by decide) fun h₁ hk₁ hD₁ => ?_)
  have hl₁ : h₁.IsList l #[.int v t] := hl.extBut (fun a o ha e => hk₁ a o ha e) hne
  have hTl : ({ s with heap := h₁ } : Shared).TypeIs (.ref l) "list" := Heap.IsList.typeIs (s := { s with heap := h₁ }) hl₁
  obtain ⟨o, ho, hc, n, hd⟩ := id hl₁
  refine wpN_of ?_
  refine wpAny_bind (m := asStr? (.ref l)) ?_
  unfold asStr?
  refine wpAny_bind (wpAny_load ho ?_)
  rw [hd]
  refine wpAny_pure ?_
  rw [if_neg (by decide)]
  rw [if_neg (by decide), if_neg (by decide)]
  refine wpAny_bind (wpAny_pure ?_)
  refine wpAny_bind (wpAny_specialOf hTl F.bm_no_index ?_)
  rw [if_neg (by decide)]
  refine wpAny_bind (m := Builtin.Bytes.buffer? _ _ _) ?_
  unfold Builtin.Bytes.buffer?
  refine wpAny_bind (wpAny_specialOf hTl F.bm_no_buffer ?_)
  refine wpAny_bind (wpAny_specialOf hTl F.bm_no_buffer ?_)
  refine wpAny_pure ?_
  refine wpAny_bind (wpAny_typeOf hTl ?_)
  rw [if_pos (by decide)]
  refine wpAny_bind (m := seqItems? (.ref l)) ?_
  unfold seqItems?
  refine wpAny_bind (wpAny_load ho ?_)
  rw [hd]
  refine wpAny_pure ?_
  dsimp only
  simp only [List.takeWhile, h0, h1, decide_true, Bool.and_self, List.length_cons, List.length_nil, List.filterMap]
  refine wpAny_bind (wpAny_rule (wpAny_bind (ba_write hD₁ (by show 1 ≤ 1000; decide) fun h₂ hk₂ hD₂ => ?_)))
  exact wpAny_pure (hR h₂ (fun a o ha e => hk₂ a o ha (hk₁ a o ha e)) hD₂)
theorem n_ba_append {D : Addr} {b : Array UInt8} {v : Int} {t : Tok} (hD : s.heap.get? D = some (baO b)) (h0 : 0 ≤ v) (h1 : v < 256) (hz : b.size < 100)
    (hR : ∀ h', (∀ a o, a ≠ D → s.heap.get? a = some o → h'.get? a = some o) → h'.get? D = some (baO (b.push v.toNat.toUInt8)) → R (.ok (.ret .none)) { s with heap := h' }) :
    codeN (model prog w) A (.call (.builtin "bytearray.append") ⟨[.ref D, .int v t], []⟩) R s := by
  have hT : s.TypeIs (.ref D) "bytearray" := ⟨_, hD, rfl⟩
  refine n_call_builtin (ba_okAppend _) ba_slot_append.plain ba_entry_append (ba_slot_append.check _ _ _ _ _ _ _ _ hT (ba_args_append _ _) ?_)
  unfold Builtin.«bytearray.append»
  refine wpN_bindA (wpAny_of_eq (a := (Value.ref D, Value.int v t)) rfl ?_)
  dsimp only
  refine wpN_bind ?_
  unfold Builtin.Bytes.byteValue
  refine wpN_bindA (wpAny_of_eq (rfl : asIndex (.int v t) = pure v) ?_)
  rw [if_neg (by simp only [Bool.or_eq_true, decide_eq_true_eq]; omega)]
  refine wpN_pure ?_
  refine wpN_bind ?_
  unfold Builtin.Bytes.checkResize
  refine wpN_bind (ba_free hD ?_)
  rw [if_neg (by decide)]
  refine wpN_pure ?_
  refine wpN_of (wpAny_bind (ba_write hD (by rw [Array.size_push]; omega) fun h₂ hk₂ hD₂ => wpAny_pure (hR h₂ hk₂ hD₂)))
theorem ba_bytes_new {D : Addr} {b : Array UInt8} {Q : Value → Shared → Prop} (hD : s.heap.get? D = some (baO b)) (hz : b.size ≤ 1000)
    (hQ : ∀ t k, Q (.bytes b t) { s with toks := k }) :
    codeAny (model prog w) A (.call (.builtin "bytes.__new__") ⟨[.type "bytes", .ref D], []⟩) (wants Q E) s := by
  have hT : s.TypeIs (.ref D) "bytearray" := ⟨_, hD, rfl⟩
  refine codeAny_of_tree ?_
  show wpAny _ A.in1 (do checkBuiltinCall "bytes.__new__" ⟨[.type "bytes", .ref D], []⟩; again (.builtin "bytes.__new__" ⟨[.type "bytes", .ref D], []⟩)) _ _ s
  refine wpAny_bind (wpAny_of_eq (F.bm_newCall _) (wpAny_pure ⟨plainId_quiet F.bm_plain _, codeAny_builtin F.bm_entry ?_⟩))
  rw [Around.under_plainId F.bm_plain _]
  unfold Builtin.«bytes.__new__»
  refine wpAny_bind (wpAny_of_eq (a := true) rfl ?_)
  refine bm_if_false rfl ?_
  refine wpAny_bind (wpAny_of_eq F.bm_sub ?_)
  refine bm_if_false rfl ?_
  refine wpAny_bind (wpAny_of_eq (F.bm_bind _) ?_)
  refine wpAny_bind (wpAny_of_eq (a := ()) rfl ?_)
  refine wpAny_bind (wpAny_of_eq (a := ()) rfl ?_)
  refine bm_if_false rfl ?_
  refine wpAny_bind (wpAny_specialOf hT ba_no_bytes ?_)
  refine wpAny_bind (wpAny_bind ?_)
  show wpAny _ _ (load D >>= _) _ _ _
  refine wpAny_bind (wpAny_load hD ?_)
  refine wpAny_pure (wpAny_pure ?_)
  refine bm_if_false rfl ?_
  refine wpAny_bind (wpAny_specialOf hT ba_no_index ?_)
  refine bm_if_true rfl ?_
  first
    | show wpAny _ _ (Builtin.Bytes.buffer? "bytes.__new__" (.ref D) true >>= _) _ _ _
    | (refine wpAny_bind ?_; show wpAny _ _ (Builtin.Bytes.buffer? "bytes.__new__" (.ref D) true >>= _) _ _ _)
  refine wpAny_bind ?_
  unfold Builtin.Bytes.buffer?
  refine wpAny_bind (wpAny_specialOf hT ba_buffer ?_)
  dsimp only
  refine wpAny_bind (m := Builtin.Bytes.slotIsOwn _ _) ?_
  unfold Builtin.Bytes.slotIsOwn
  refine wpAny_bind (wpAny_specialOf hT ba_buffer ?_)
  dsimp only
  rw [ba_ends2, if_neg (by decide), ba_drop2]
  refine wpAny_isInstance hT ba_sub ?_
  rw [if_neg (by decide)]
  refine wpAny_bind (wpAny_specialOf hT ba_buffer ?_)
  refine wpAny_bind (ba_own hT ?_)
  rw [if_neg (by decide)]
  refine wpAny_bind ?_
  unfold Builtin.Bytes.payload Builtin.Bytes.payload?
  refine wpAny_bind (wpAny_bind (wpAny_load hD ?_))
  refine wpAny_pure (wpAny_pure (wpAny_pure ?_))
  dsimp only
  refine wpAny_bind (wpAny_rule (wpAny_bind (wpAny_mkBytes ?_ (by rw [sizeLine_eq]; omega))))
  show wpAny _ _ (if (Value.type "bytes" == Value.type "bytes") = true then _ else _) _ _ _
  refine bm_if_true (by decide) ?_
  first
    | exact wpAny_pure (hQ _ _)
    | exact wpAny_bind (wpAny_pure (wpAny_pure (hQ _ _)))
/-- bytes of a bytearray -/
theorem ba_bytes {D : Addr} {b : Array UInt8} {Q : Value → Shared → Prop} (hD : s.heap.get? D = some (baO b)) (hz : b.size ≤ 1000)
    (hQ : ∀ t k, Q (.bytes b t) { s with toks := k }) : wpAny (model prog w) A (call (.type "bytes") [.ref D]) Q E s := by
  refine callType_codes (Q₁ := fun obj s₁ => s₁.TypeIs obj "bytes" ∧ Q obj s₁) F.bm_called (F.bm_typeCall _) F.entry_object_init
    (ba_bytes_new hD hz fun t k => ⟨PySem.W.typeIs_bytes _ _ _, hQ t k⟩) fun obj s₁ h₁ => ?_
  exact ⟨h₁.1, F.args_object_init_2 obj _, object_init_meets F.bm_called.init.lookup F.bm_called.made (by decide) prog w A.in1 _ s₁ ⟨h₁.1, rfl, h₁.2⟩⟩
/-- bytearray([v]) in a frame -/
theorem n_bytearray {h₀ : Heap} {L l : Addr} {m : Str → Option Value} {news : List (Addr × Obj)} {v : Int} {t : Tok} {Q : Value → Shared → Prop} (F₀ : Fr h₀ L s.heap m) (N : News h₀ L s.heap news) (hl : s.heap.IsList l #[.int v t]) (h0 : 0 ≤ v) (h1 : v < 256)
    (hQ : ∀ D h', Fr h₀ L h' m → News h₀ L h' ((D, baO #[v.toNat.toUInt8]) :: news) → (∀ p ∈ news, p.1 < D) → Q (.ref D) { s with heap := h' }) :
    wpN (model prog w) A (call (.type "bytearray") [.ref l]) Q E s := by
  refine n_call_ba fun D hD => ?_
  subst hD
  have hlt : l < s.heap.objs.size := Heap.lt_size hl.choose_spec.1
  refine n_ba_init (Heap.get?_push_size _ rfl) (hl.push _) (Nat.ne_of_lt hlt) h0 h1 fun h' hk hD' => ⟨rfl, ⟨_, hD', rfl⟩, ?_⟩
  have hk' : ∀ b o, s.heap.get? b = some o → h'.get? b = some o := fun b o e => hk b o (Nat.ne_of_lt (Heap.lt_size e)) (Heap.get?_push_of_some _ e)
  exact hQ _ h' (F₀.keptAll hk') (News.kept_cons F₀ N hk' (Nat.le_refl _) hD') fun p hp => Heap.lt_size (N p hp).1
theorem ba_plainAttrs : PlainAttrs "bytearray" :=
  ⟨⟨"bytearray.__getattribute__", by rw [typeLookup_type, builtinLookup_eq_fast]; kernel_rfl, by decide +kernel⟩, by rw [typeLookup_type, builtinLookup_eq_fast]; kernel_rfl⟩
theorem ba_method {h₀ : Heap} {L D : Addr} {news : List (Addr × Obj)} {b : Array UInt8} {pl : Sem Bool} {Q : Value × List Value → Shared → Prop} (N : News h₀ L s.heap ((D, baO b) :: news))
    (h : Q (.builtin "bytearray.append", [.ref D]) s) : wpAny (model prog w) A (getMethod (.ref D) (Str.ofString "append") pl) Q E s :=
  getMethod_builtin ⟨_, (N _ (.head _)).1, rfl⟩ ba_plainAttrs ba_slot_append ba_type_append (fun a e => by cases e; exact ⟨_, (N _ (.head _)).1, rfl⟩) h
/-- the method is at hand, and is called so -/
def BaCall (prog : Program) (w : World) (A : Around) (pos : Pos) (args : List (Bool × Sem Value)) (Q : Value → Shared → Prop) (E : Value → Shared → Prop) (ov : Value) (s₁ : Shared) : Prop :=
  (∃ D b, ov = .ref D ∧ s₁.heap.get? D = some (baO b)) ∧ wpN (model prog w) A (callWith pos (.builtin "bytearray.append") [ov] args []) Q E s₁
/-- found.append(..) -/
theorem n_Call_append {env : Env} {o : Expr} {apos pos : Pos} {args : List Expr} {Q : Value → Shared → Prop}
    (h : wpAny (model prog w) A (eval o env) (fun ov s₁ => BaCall prog w A pos (backTo pos (starEach args env)) Q E ov s₁) E s)
    (hbase : attributeBase o (Str.ofString "append") env (eval o env) = eval o env := by rfl)
    (hfew : ((backTo pos (starEach args env)).all (fun x => !x.1) && (backToKw pos (keywordEach [] env)).all (fun x => x.1.isSome)
      && decide (args.length + ([] : List Keyword).length + (if ([] : List Keyword).isEmpty then 0 else 1) < 30)) = true := by rfl)
    (hline : (apos.endLine == pos.line) = true := by rfl) :
    wpN (model prog w) A (eval (.Call (.Attribute o (Str.ofString "append") apos) args [] pos) env) Q E s := by
  rw [arm_eval_Call, hbase]
  refine wpN_bindA (wpAny_mono h (fun ov s₁ h₁ => ?_) fun _ _ e => e)
  obtain ⟨⟨D, b, rfl, hD⟩, hc⟩ := h₁
  refine wpN_bind (wpN_standAt ?_)
  first
    | (
       have hform : methodCallForm (args.length + ([] : List Keyword).length) (backTo pos (starEach args env)) (backToKw pos (keywordEach [] env)) = true := hfew
       have hpos : methodCallPos true o env apos pos = pure pos := by unfold methodCallPos; simp [hline]
       unfold methodCall
       rw [hform]
       refine wpN_bind (wpN_holding (wpN_of (getMethod_builtin ⟨_, hD, rfl⟩ ba_plainAttrs ba_slot_append ba_type_append (fun a e => by cases e; exact ⟨_, hD, rfl⟩) ?_)))
       rw [hpos]
       exact wpN_bind (wpN_pure hc))
    | (
       unfold methodCall calleeOf methodCallPos methodCallForm
       simp only [hfew, hline, if_true, Bool.not_true, Bool.or_true]
       refine wpN_bind (wpN_holding (wpN_of (getMethod_builtin ⟨_, hD, rfl⟩ ba_plainAttrs ba_slot_append ba_type_append (fun a e => by cases e; exact ⟨_, hD, rfl⟩) ?_)))
       exact wpN_bind (wpN_pure hc))
/-- found.append(v) in a frame -/
theorem n_append {h₀ : Heap} {L D : Addr} {m : Str → Option Value} {news : List (Addr × Obj)} {b : Array UInt8} {v : Int} {t : Tok} {Q : Value → Shared → Prop} (F₀ : Fr h₀ L s.heap m) (N : News h₀ L s.heap ((D, baO b) :: news)) (hlt : ∀ p ∈ news, p.1 < D) (h0 : 0 ≤ v) (h1 : v < 256) (hz : b.size < 100)
    (hQ : ∀ h', Fr h₀ L h' m → News h₀ L h' ((D, baO (b.push v.toNat.toUInt8)) :: news) → Q .none { s with heap := h' }) :
    wpN (model prog w) A (call (.builtin "bytearray.append") [.ref D, .int v t]) Q E s := by
  obtain ⟨hD, hDL, hD0⟩ := N _ (.head _)
  refine wpN_call (n_ba_append hD h0 h1 hz fun h' hk hD' => hQ h' ?_ ?_)
  · obtain ⟨oL, a1, a2, hoL, a3⟩ := F₀.ns
    refine ⟨⟨oL, a1, a2, hk _ _ (Ne.symm hDL) hoL, a3⟩, fun c o e => hk c o ?_ (F₀.keep c o e), F₀.above⟩
    rintro rfl
    rw [hD0] at e
    cases e
  · intro p hp
    rcases List.mem_cons.mp hp with rfl | hp
    · exact ⟨hD', hDL, hD0⟩
    · have q := N p (.tail _ hp)
      exact ⟨hk _ _ (Nat.ne_of_lt (hlt p hp)) q.1, q.2⟩
end
end Mine
end
section
open PySem PySem.W PyProof.Rows PySem.Calls
set_option maxRecDepth 100000
namespace Mine
/-- what a turn leaves -/
def TurnEnd (h₀ : Heap) (L : Addr) (x d : Str) (m : Str → Option Value) (news : List (Addr × Obj)) (s s' : Shared) : Prop :=
  ∃ h' tk' m', s' = { s with heap := h', toks := tk' } ∧ Fr h₀ L h' m' ∧ News h₀ L h' news ∧ ∀ y, y ≠ x → y ≠ d → m' y = m y
theorem TurnEnd.intro {h₀ : Heap} {L : Addr} {x d : Str} {m m' : Str → Option Value} {news : List (Addr × Obj)} {s : Shared} {h' : Heap} {tk' : Nat} (F : Fr h₀ L h' m') (N : News h₀ L h' news) (hm : ∀ y, y ≠ x → y ≠ d → m' y = m y) :
    TurnEnd h₀ L x d m news s { s with heap := h', toks := tk' } := ⟨h', tk', m', rfl, F, N, hm⟩
section
variable {prog : Program} {w : World} {A : Around} {E : Value → Shared → Prop} {s : Shared} {R : Result → Shared → Prop} {env : Env} {h₀ : Heap} {x d : Str} {px : Pos} {body : List Stmt} {m : Str → Option Value} {D : Addr} {vs : List Value} {ns : List Int}
abbrev tupV (vs : List Value) : Obj := { cls := .type "tuple", data := .seq vs.toArray }
theorem fr_but {h h' : Heap} {L I : Addr} {m : Str → Option Value} (F : Fr h₀ L h m) (hk : ∀ b o, b ≠ I → h.get? b = some o → h'.get? b = some o) (hL : I ≠ L) (h0 : h₀.get? I = none) : Fr h₀ L h' m := by
  obtain ⟨oL, a1, a2, hoL, a3⟩ := F.ns
  refine ⟨⟨oL, a1, a2, hk _ _ (Ne.symm hL) hoL, a3⟩, fun c o e => hk c o ?_ (F.keep c o e), F.above⟩
  rintro rfl
  rw [h0] at e
  cases e
theorem n_ints (hi : IntsAre vs ns) (P : Int → Prop) (hP : ∀ n ∈ ns, P n) (hh : A.handled = none) (hx : env.kindOf x = some .local)
    (hp : (env.scope.kind == .class || (env.scope.kind == .module && env.locals != env.globals)) = false)
    (F : Fr h₀ env.locals s.heap m) (N : News h₀ env.locals s.heap [(D, tupV vs)])
    (turn : ∀ n t u I oI h tk, P n → Fr h₀ env.locals h (fun y => if y = x then some (.int n t) else if y = d then u else m y) → News h₀ env.locals h [(I, oI), (D, tupV vs)] → (@Ne Nat I D) →
      wpN (model prog w) A (execs body env) (fun f s' => match f with | .next => TurnEnd h₀ env.locals x d m [(I, oI), (D, tupV vs)] { s with heap := h, toks := tk } s' | _ => False) (fun _ _ => False) { s with heap := h, toks := tk })
    (done : ∀ h tk u u', Fr h₀ env.locals h (fun y => if y = x then u' else if y = d then u else m y) → R (.ok .next) { s with heap := h, toks := tk }) :
    wpAny (model prog w) A (pyIter (.ref D)) (fun it s₂ => codeN (model prog w) A (.forLoop (.Name x px) it body [] env) R s₂) E s := by
  have ht : s.heap.IsTuple D vs.toArray := ⟨_, (N _ (.head _)).1, rfl, _, rfl⟩
  refine wpAny_pyIter_tuple ht ?_
  have key : ∀ (rest pre : List Int) (vr vp : List Value), ns = pre ++ rest → vs = vp ++ vr → IntsAre vr rest → vp.length = pre.length → ∀ (h : Heap) (tk : Nat) (m' : Str → Option Value) (I : Addr) (oI : Obj), oI.cls = .type "tuple_iterator" → oI.data = .fields #[.ref D, .int vp.length 0] →
      Fr h₀ env.locals h m' → News h₀ env.locals h [(I, oI), (D, tupV vs)] → (@Ne Nat I D) → (∀ y, y ≠ x → y ≠ d → m' y = m y) → codeN (model prog w) A (.forLoop (.Name x px) (.ref I) body [] env) R { s with heap := h, toks := tk } := by
    intro rest
    induction rest with
    | nil =>
      intro pre vr vp e ev hr hl h tk m' I oI c1 c2 F' N' hID hm
      cases hr
      have hit : h.IsTupleIter I D vp.length := ⟨oI, (N' _ (.head _)).1, c1, c2⟩
      have ht' : h.IsTuple D vs.toArray := ⟨_, (N' _ (.tail _ (.head _))).1, rfl, _, rfl⟩
      refine n_forLoop (wpAny_pyNext_tuple_end hh hit ht' (by rw [ev]; simp) fun h' he => ?_)
      dsimp only
      have F₂ : Fr h₀ env.locals h' m' := fr_but F' (fun b o hb e => he b o hb e) (N' _ (.head _)).2.1 (N' _ (.head _)).2.2
      have em : (fun y => if y = x then m' x else if y = d then m' d else m y) = m' := by
        funext y
        by_cases h1 : y = x
        · rw [if_pos h1, h1]
        · rw [if_neg h1]
          by_cases h2 : y = d
          · rw [if_pos h2, h2]
          · rw [if_neg h2]; exact (hm y h1 h2).symm
      exact done h' tk _ _ (em ▸ F₂)
    | cons n rest ih =>
      intro pre vr vp e ev hr hl h tk m' I oI c1 c2 F' N' hID hm
      cases hr with
      | cons _ t hr =>
      rename_i vr'
      have hit : h.IsTupleIter I D vp.length := ⟨oI, (N' _ (.head _)).1, c1, c2⟩
      have ht' : h.IsTuple D vs.toArray := ⟨_, (N' _ (.tail _ (.head _))).1, rfl, _, rfl⟩
      refine n_forLoop (wpAny_pyNext_tuple_item (x := .int n t) hit ht' (by rw [ev]; simp) fun h' hit' hs => ?_)
      dsimp only
      obtain ⟨oI', hoI', c1', c2'⟩ := hit'
      have F₂ : Fr h₀ env.locals h' m' := fr_but F' (fun b o hb e => (hs.2 b hb).trans e) (N' _ (.head _)).2.1 (N' _ (.head _)).2.2
      refine wpAny_assign_Name (wpAny_storeName_local hx F₂.ns (fun h₂ hn₂ hs₂ => ?_) hp)
      have F₃ := F₂.set hn₂ hs₂
      have N₃ : News h₀ env.locals h₂ [(I, oI'), (D, tupV vs)] := fun p hp => by
        rcases List.mem_cons.mp hp with rfl | hp
        · exact ⟨(hs₂.2 _ (N' _ (.head _)).2.1).trans hoI', (N' _ (.head _)).2⟩
        · rcases List.mem_cons.mp hp with rfl | hp
          · exact ⟨(hs₂.2 _ (N' _ (.tail _ (.head _))).2.1).trans ((hs.2 _ (Ne.symm hID)).trans (N' _ (.tail _ (.head _))).1), (N' _ (.tail _ (.head _))).2⟩
          · cases hp
      have em : (fun y => if y = x then some (.int n t) else if y = d then m' d else m y) = fun y => if y = x then some (.int n t) else m' y := by
        funext y
        by_cases h1 : y = x
        · rw [if_pos h1, if_pos h1]
        · rw [if_neg h1, if_neg h1]
          by_cases h2 : y = d
          · rw [if_pos h2, h2]
          · rw [if_neg h2]; exact (hm y h1 h2).symm
      have hPn : P n := hP n (by rw [e]; simp)
      refine wpN_mono (turn n t (m' d) I oI' h₂ (tk + 1) hPn (em ▸ F₃) N₃ hID) (fun f s₃ h₃ => ?_) fun _ _ x => x
      cases f with
      | next =>
        obtain ⟨h₄, tk₄, m₄, rfl, F₄, N₄, hm₄⟩ := h₃
        exact ih (pre ++ [n]) vr' (vp ++ [.int n t]) (by rw [e]; simp) (by rw [ev]; simp) hr (by simp [hl]) h₄ tk₄ m₄ I oI' c1' (by rw [c2']; simp) F₄ N₄ hID hm₄
      | cont => exact h₃.elim
      | brk => exact h₃.elim
      | ret v => exact h₃.elim
  have hne : (@Ne Nat s.heap.objs.size D) := Nat.ne_of_gt (Heap.lt_size (N _ (.head _)).1)
  exact key ns [] vs [] rfl rfl hi rfl _ s.toks m s.heap.objs.size _ rfl rfl (F.push _) (News.push F N _) hne fun _ _ _ => rfl
end
end Mine
end
section
open PySem PySem.W PyProof.Rows PySem.Calls
set_option maxRecDepth 100000
namespace Mine
theorem n_full {prog : Program} {w : World} {A : Around} {R : Result → Shared → Prop} {s : Shared} {name : Str} {params : Arguments} {body : List Stmt} {scope : Scope}
    {dV kV pm cd doc : Value} {a : Addr} {o : Obj} {args : Args} {binds : List (Str × Value)}
    (hroom : A.depth < recursionLimit) (ho : s.heap.get? a = some o) (hdata : o.data = .func { docDef name params body scope pm cd doc with defaults := dV, kwdefaults := kV }) (hlim : s.heap.NoLimit) (hcd : s.heap.CodeRec cd name)
    (hbind : BindsTo s { docDef name params body scope pm cd doc with defaults := dV, kwdefaults := kV } args binds)
    (hloc : ∀ x ∈ binds, scope.names.lookup x.1 = some .local)
    (h : ∀ h₁, Fr s.heap s.heap.objs.size h₁ (fun x => binds.reverse.lookup x) → News s.heap s.heap.objs.size h₁ [] →
      wpN (model prog w) (A.deeper (envOf name scope s.heap.objs.size a cd)) (execs body (envOf name scope s.heap.objs.size a cd))
        (fun f s' => R (.ok (.ret (match f with | .ret v => v | _ => .none))) s') (fun _ _ => False)
        { s with heap := h₁, toks := s.toks + binds.length })
    (hco : scope.isCoroutine = false := by rfl) (hgen : scope.isGenerator = false := by rfl) (hk : scope.kind = .function := by rfl)
    (hcell : ∀ x ∈ scope.names, x.2 ≠ .cell := by decide) : codeN (model prog w) A (.call (.ref a) args) R s := by
  refine codeN_call_def (fd := { docDef name params body scope pm cd doc with defaults := dV, kwdefaults := kV }) (body := body) (binds := binds) hroom ho hdata hlim hcd rfl hbind hcell hloc (fun h₁ hns hk₁ => ?_) hco hgen hk
  exact h h₁ ⟨hns, hk₁, Nat.le_refl _⟩ (fun _ hp => nomatch hp)
end Mine
end
open PySem PySem.W PyProof.Rows PySem.Calls
set_option maxRecDepth 100000
namespace Mine
local macro_rules | `(tactic| walk_at $s:str) => `(tactic| k_extra $s)
theorem said1 : True := by
  k_with "storeName" => (k_here; (fail_if_success (have := (by assumption : (12321 : Nat) = 12321))); (rename _ = ScopeKind.function => k9); (try dsimp only); k_dflt (refine' storeX_L (by k_asm) (by k_asm) ?_ (by rfl) (by rfl); k_whole); intro _ F9 _; (try k_sweep); (refine' (let m9 : Str → Option Value := _; ?_)); rotate_left; (change Fr _ _ _ m9 at F9))
  trivial
theorem exc_meta : typeOf (.type "Exception") = pure (.type "type") := by kernel_rfl
theorem exc_found : findCls [] (.type "Exception") (.type "type") (Str.ofString "__init__") = some (.val (.builtin "Exception.__init__")) := by kernel_rfl
theorem exc_handed : handedIn (.builtin "Exception.__init__") = true := by kernel_rfl
theorem exc_method {prog : Program} {w : World} {A : Around} {E : Value → Shared → Prop} {s : Shared} {h₀ : Heap} {L : Addr} {m : Str → Option Value} {pl : Sem Bool} {Q : Value × List Value → Shared → Prop} (F : Fr h₀ L s.heap m)
    (h : Q (.builtin "Exception.__init__", []) { s with toks := s.toks + 1 }) : wpAny (model prog w) A (getMethod (.type "Exception") (Str.ofString "__init__") pl) Q E s :=
  method_type (K := []) (v := .builtin "Exception.__init__") F (fun _ _ e => nomatch e) exc_meta (by decide +kernel) exc_found exc_handed h
theorem said2 : True := by
  k_with "getMethod type:Exception" => (k_here; with_reducible refine exc_method (by k_asm) ?_)
  k_with "call builtin:Exception.__init__" => (k_here; k_dflt (refine' k_base_init ?baF ?baX ?baN ?bane ?_; (case baN => k_asm); (case baF => k_asm); (case baX => first | exact isExc31 (Frag.In.keeps (by assumption) (Fr.keep (by assumption))) | exact isExc51 (Frag.In.keeps (by assumption) (Fr.keep (by assumption)))); (case bane => assumption); k_whole); intro _ _ _ _)
  k_with "setAttr ref" => (k_here; k_dflt (refine' k_first_attr ?fiF ?fiX ?fiN ?fine ?fina ?fiB ?_; (case fiN => k_asm); (case fiF => k_asm); (case fiX => first | exact isExc31 (Frag.In.keeps (by assumption) (Fr.keep (by assumption))) | exact isExc51 (Frag.In.keeps (by assumption) (Fr.keep (by assumption)))); (case fine => assumption); (case fina => rfl); (case fiB => first | exact noExc_code | exact noExc_text); k_whole); intro _ _ _ _ _ _ _ _ _)
  k_with "setAttr ref" => (k_here; k_dflt (refine' k_next_attr (ns := [Str.ofString "code"]) ?neF ?neX ?neN ?nene ?nedx ?nedr ?neO ?neW ?nez ?nena ?neB ?_; (case neN => k_asm); (case neF => k_asm); (case neX => exact isExc31 (Frag.In.keeps (by assumption) (Fr.keep (by assumption)))); (case nene => assumption); (case nedx => assumption); (case nedr => assumption); (case neO => assumption); (case neW => (intro _; simp only []; split <;> simp_all)); (case nez => decide); (case nena => rfl); (case neB => exact noExc_text); k_whole); intro _ _ _ _ _ _)
  trivial
/-- what a raise asks of the value -/
def RaisableO (E : Value → Shared → Prop) (v : Value) (s₁ : Shared) : Prop :=
  ∃ e C t dx mN, v = .ref e ∧ IsExc s₁.heap C mN ∧ s₁.heap.get? e = some (excO C t (some dx)) ∧ E (.ref e) s₁
theorem raise_own {M : Model} {A : Around} {env : Env} {E : Value → Shared → Prop} {s : Shared} {ex : Expr} {pos : Pos} {Q : Flow → Shared → Prop} (hh : A.handled = none)
    (h : wpAny M A (eval ex env) (RaisableO E) E s) : wpAny M A (exec (.Raise (some ex) none pos) env) Q E s := by
  show wpAny M A (do standAt pos; raiseStmt env (some (do let v ← eval ex env; standAt pos; pure v)) none) Q E s
  refine wpAny_bind (wpAny_standAt ?_)
  unfold raiseStmt
  refine wpAny_bind (wpAny_bind (wpAny_mono h (fun v s₁ h₁ => wpAny_bind (wpAny_standAt (wpAny_pure ?_))) fun _ _ x => x))
  obtain ⟨e, C, t, dx, mN, rfl, ⟨⟨nm, q, N, bs, sn, sub, ab, col, dd, k0, k1, k2, k3, k5, hC, hn⟩, _, _, _, _, _⟩, he, hE⟩ := h₁
  have hcB : (Value.ref C :: bmE).contains (.type "BaseException") = true := by simp
  obtain ⟨hp, g, d, tk, os⟩ := s₁
  repeat (first | with_reducible refine wpAny_loadPart_at he ?_ | with_reducible refine wpAny_loadPart_at hC ?_ | (with_reducible refine wpAny_isSubtype_exc hC ?_; rw [hcB]) | wp_step)
  exact wpAny_raiseNew_none hh hE
theorem under_type_call {A : Around} {C : Addr} {rest : List Value} {env : List Env} (h : A.frames = some env) : (A.under (.builtin "type.__call__" ⟨.ref C :: rest, []⟩)).frames = some env := h
/-- QpackError(code, text), raised -/
abbrev CtrRaise (w : World) (mean : ExcName → Option Value) (mg mb : Str → Option Value) (f : Addr) (news : List (Addr × Obj)) (vs : List Value) (C : Addr) (mA : Tok → Tok → Str → Option Value) : Prop :=
  ∀ (dp un : Nat) (gd : Option (List Code)) (cn : Str) (cs : Scope) (a : Addr) (ccd : Value) (cl : List (Str × Addr)) (outer : List Env) (A₀ : Around) (base h₀ : Heap) (L : Addr) (m : Str → Option Value) (s : Shared) (E : Value → Shared → Prop),
    Below A₀ base outer h₀ → Fr h₀ L s.heap m → (Mine.hd.heap_39 w.params).In h₀ → News h₀ L s.heap news → Top Mine.hd.view_39 (looseW Mine.hd.view_39 [Str.ofString "GREATEST"]) mean mg mb h₀ → cs.kind = .function →
    dp + 10 < recursionLimit → un + 100 < cLine →
    (∀ e t dx od h' tk' u v, Fr h₀ L h' m → News h₀ L h' ((e, excO C t (some dx)) :: (dx, od) :: news) → (∀ p ∈ (dx, od) :: news, p.1 ≠ e) → NsObj od (mA u v) → E (.ref e) { s with heap := h', toks := tk' }) →
      wpAny (model PySem.Challenge.rw_no0059_01.row.prog w) (ktrTop dp un gd cn cs L a ccd cl outer) (call (.ref f) vs) (RaisableO E) E s
set_option maxRecDepth 100000 in
set_option maxHeartbeats 8000000 in
theorem c_qpack {w : World} {mean : ExcName → Option Value} {mg mb : Str → Option Value} (news : List (Addr × Obj)) (txt : Str) (tc tt : Tok) (ht : txt.length < 100) :
    CtrRaise w mean mg mb 31 news [.int 512 tc, .str txt tt] 31 (fun _ _ y => if y = Str.ofString "text" then some (.str txt tt) else if y = Str.ofString "code" then some (.int 512 tc) else none) := by
  dsimp only [CtrRaise]
  k_fill
  intro dp un gd cn cs a ccd cl outer A₀ base h₀ L m s E B F X N T hk hdp hun hret
  obtain ⟨hp, g, d, tk, os⟩ := s
  have X₁ := X.keeps F.keep
  refine wpAny_call_exc_init PySem.F.excBase_Exception (X₁ 31 _ (cls31 _)) (ns30 X₁) (fI := 28) (by rfl) (X₁ 28 _ rfl) rfl (fun h' e hm => ?_) (by rw [sizeLine_eq]; simp)
  obtain ⟨t, he, ht0, _⟩ := hm.there
  obtain ⟨z1, z2, z3⟩ := fresh_ne F N hm.new
  have N' : News h₀ L h' ((e, excO 31 t none) :: news) := fun p hp => by
    rcases List.mem_cons.mp hp with rfl | hp
    · exact ⟨he, z1, z2⟩
    · exact ⟨hm.keeps _ _ (N p hp).1, (N p hp).2⟩
  have F' := F.keeps hm.keeps
  clear N F he hm
  refine wpAny_call ?_
  k_dflt cell_enter
  k_steps
  all_goals exact ⟨e, 31, _, _, _, rfl, isExc31 (Frag.In.keeps (by assumption) (Fr.keep (by assumption))), (News.get (by assumption) (.head _)), hret e _ _ _ _ _ 0 0 (by assumption) (by assumption) (List.forall_mem_cons.mpr ⟨by assumption, z3⟩) (by assumption)⟩
set_option maxRecDepth 100000 in
set_option maxHeartbeats 8000000 in
theorem c_short {w : World} {mean : ExcName → Option Value} {mg mb : Str → Option Value} (news : List (Addr × Obj)) (txt : Str) (tt : Tok) (ht : txt.length < 100) :
    CtrRaise w mean mg mb 51 news [.str txt tt] 51 (fun _ _ y => if y = Str.ofString "text" then some (.str txt tt) else none) := by
  dsimp only [CtrRaise]
  k_fill
  intro dp un gd cn cs a ccd cl outer A₀ base h₀ L m s E B F X N T hk hdp hun hret
  obtain ⟨hp, g, d, tk, os⟩ := s
  have X₁ := X.keeps F.keep
  refine wpAny_call_exc_init PySem.F.excBase_Exception (X₁ 51 _ (cls51 _)) (ns50 X₁) (fI := 48) (by rfl) (X₁ 48 _ rfl) rfl (fun h' e hm => ?_) (by rw [sizeLine_eq]; simp)
  obtain ⟨t, he, ht0, _⟩ := hm.there
  obtain ⟨z1, z2, z3⟩ := fresh_ne F N hm.new
  have N' : News h₀ L h' ((e, excO 51 t none) :: news) := fun p hp => by
    rcases List.mem_cons.mp hp with rfl | hp
    · exact ⟨he, z1, z2⟩
    · exact ⟨hm.keeps _ _ (N p hp).1, (N p hp).2⟩
  have F' := F.keeps hm.keeps
  clear N F he hm
  refine wpAny_call ?_
  k_dflt cell_enter
  k_steps
  all_goals exact ⟨e, 51, _, _, _, rfl, isExc51 (Frag.In.keeps (by assumption) (Fr.keep (by assumption))), (News.get (by assumption) (.head _)), hret e _ _ _ _ _ 0 0 (by assumption) (by assumption) (List.forall_mem_cons.mpr ⟨by assumption, z3⟩) (by assumption)⟩
set_option maxHeartbeats 8000000 in
theorem c_most {w : World} {mean : ExcName → Option Value} {mg mb : Str → Option Value} (news : List (Addr × Obj)) (g r : Int) (tg : Tok) :
    Ctr 2 w mean mg mb 75 news (Int.fdiv g 32 = r) [.int g tg] (Ret news (fun t => .int r t)) := by
  dsimp only [Ctr, Ret]
  k_fill
  intros
  rename_i hpre hret
  subst hpre
  refine wpAny_call ?_
  k_dflt cell_enter
  k_steps
  all_goals exact hret _ _ _ (by k_asm) (by k_asm)
theorem said3 : True := by
  k_with "call ref" => (k_here; (with_reducible show wpAny _ _ (call (Value.ref 75) _) _ _ _); k_dflt (refine' Mine.c_most _ _ _ _ _ _ _ _ _ _ _ _ _ _ _ _ _ _ _ _ _ (by k_asm) (by k_asm) (by k_asm) (by k_asm) (by k_asm) (by first | exact rfl | assumption) (by ktr_room) (by ktr_units) (by assumption) ?_; k_whole); intro _ _ _ _ _; (try k_fold))
  trivial
/-- the rest of a count, as it is sent; r rows -/
def cutV (c r : Int) : Int := if c = 0 then 0 else Int.fmod c (2 * r) + 1
set_option maxHeartbeats 8000000 in
theorem c_cut {w : World} {mean : ExcName → Option Value} {mg mb : Str → Option Value} (news : List (Addr × Obj)) (c g r : Int) (tc tg : Tok) :
    Ctr 4 w mean mg mb 82 news (Int.fdiv g 32 = r ∧ 1 ≤ r ∧ r < 13 ∧ 0 ≤ c ∧ c < 1000) [.int c tc, .int g tg] (Ret news (fun t => .int (cutV c r) t)) := by
  dsimp only [Ctr, Ret]
  k_fill
  intros
  rename_i hpre hret
  obtain ⟨hg, hr1, hr2, hc1, hc2⟩ := hpre
  refine wpAny_call ?_
  k_dflt cell_enter
  k_steps
  · (have e : cutV c r = 0 := by simp_all [cutV])
    rw [e] at hret
    exact hret _ _ _ (by k_asm) (by k_asm)
  · (have e : cutV c r = Int.fmod c (2 * r) + 1 := by simp_all [cutV])
    rw [e] at hret
    exact hret _ _ _ (by k_asm) (by k_asm)
/-- what a count that was sent means, where it means one -/
def restN (s r i : Int) : Option Int :=
  if s = 0 then some 0 else if s > 2 * r then none else
  if Int.fdiv (i + r) (2 * r) * (2 * r) + s - 1 > i + r then
    (if Int.fdiv (i + r) (2 * r) * (2 * r) + s - 1 ≤ 2 * r then none else if Int.fdiv (i + r) (2 * r) * (2 * r) + s - 1 - 2 * r = 0 then none else some (Int.fdiv (i + r) (2 * r) * (2 * r) + s - 1 - 2 * r))
  else if Int.fdiv (i + r) (2 * r) * (2 * r) + s - 1 = 0 then none else some (Int.fdiv (i + r) (2 * r) * (2 * r) + s - 1)
/-- how a raise goes out of a def -/
abbrev Rz (C : Addr) (P : (Str → Option Value) → Prop) (base h₀ : Heap) (L : Addr) (m : Str → Option Value) (s : Shared) (env : Env) (outer : List Env) (news : List (Addr × Obj)) (E : Value → Shared → Prop) : Prop :=
  ∀ e dx od G h' tk' mA, Fr h₀ L G m → RaisedD base G (env :: outer) e C (some dx) ((dx, od) :: news) h' → G.UpToSlots h' → NsObj od mA → P mA → E (.ref e) { s with heap := h', toks := tk' }
abbrev Code512 (mA : Str → Option Value) : Prop := ∃ t, mA (Str.ofString "code") = some (.int 512 t)
/-- a contract of a def that may raise -/
abbrev CtrE (n : Nat) (w : World) (mean : ExcName → Option Value) (mg mb : Str → Option Value) (f : Addr) (news : List (Addr × Obj)) (vs : List Value)
    (R : Heap → Heap → Addr → (Str → Option Value) → Shared → Env → List Env → (Value → Shared → Prop) → (Value → Shared → Prop) → Prop) : Prop :=
  ∀ (dp un : Nat) (gd : Option (List Code)) (cn : Str) (cs : Scope) (a : Addr) (ccd : Value) (cl : List (Str × Addr)) (outer : List Env) (A₀ : Around) (base h₀ : Heap) (L : Addr) (m : Str → Option Value) (s : Shared) (Q E : Value → Shared → Prop),
    Below A₀ base outer h₀ → Fr h₀ L s.heap m → (Mine.hd.heap_39 w.params).In h₀ → News h₀ L s.heap news → Top Mine.hd.view_39 (looseW Mine.hd.view_39 [Str.ofString "GREATEST"]) mean mg mb h₀ → cs.kind = .function →
    dp + n < recursionLimit → un + 20 * n < cLine → R base h₀ L m s (envX cn cs L a ccd cl) outer Q E →
      wpAny (model PySem.Challenge.rw_no0059_01.row.prog w) (ktrTop dp un gd cn cs L a ccd cl outer) (call (.ref f) vs) Q E s
theorem said4 : True := by
  k_with "exec Raise some none" => (k_here; (with_reducible refine raise_own (by with_unfolding_all rfl) ?_))
  k_with "call ref" => (k_here; (with_reducible show wpAny _ _ (call (Value.ref 31) _) _ _ _); k_dflt (refine' Mine.c_qpack _ _ _ _ (by decide +kernel) _ _ _ _ _ _ _ _ _ _ _ _ _ _ _ _ (by k_asm) (by k_asm) (by k_asm) (by k_asm) (by k_asm) (by first | exact rfl | assumption) (by ktr_room) (by ktr_units) ?_; k_whole); intro _ _ _ _ _ _ _ _ _ _ _ _; (try k_fold))
  k_with "leaving ref" => (k_here; k_dflt (refine' leave_D (by assumption) (by assumption) (by assumption) (by assumption) ?_ (by exact rfl); k_whole); intro _ _ _; (try k_fold))
  trivial
set_option maxHeartbeats 8000000 in
theorem c_restore {w : World} {mean : ExcName → Option Value} {mg mb : Str → Option Value} (news : List (Addr × Obj)) (c g r i : Int) (tc tg ti : Tok) (hg : Int.fdiv g 32 = r) (hr1 : 1 ≤ r) (hr2 : r < 13) (hc1 : 0 ≤ c) (hc2 : c < 1000) (hi1 : 0 ≤ i) (hi2 : i < 1000) :
    CtrE 14 w mean mg mb 89 news [.int c tc, .int g tg, .int i ti] (fun base h₀ L m s env outer Q E => (∀ x, restN c r i = some x → Ret news (fun t => .int x t) h₀ L m s Q) ∧ (restN c r i = none → Rz 31 Code512 base h₀ L m s env outer news E)) := by
  dsimp only [CtrE, Ret, Rz]
  k_fill
  intros
  rename_i hret
  obtain ⟨hret, hE⟩ := hret
  refine wpAny_call ?_
  k_dflt cell_enter
  k_steps
  all_goals first
    | (refine hret _ ?_ _ _ _ (by k_asm) (by k_asm); unfold restN; (repeat' split) <;> first | rfl | (exfalso; omega))
    | (refine hE ?_ _ _ _ _ _ _ _ ?_ (by assumption) (by assumption) (by assumption) ⟨257, by dsimp only; rw [if_neg (by decide), if_pos rfl]⟩
       · unfold restN; (repeat' split) <;> first | rfl | (exfalso; omega)
       · assumption)
/-- a contract of a def that the law itself calls (no def's frame below the law's) -/
abbrev CtrL (n : Nat) (w : World) (mean : ExcName → Option Value) (mg mb : Str → Option Value) (f : Addr) (news : List (Addr × Obj)) (vs : List Value)
    (R : Heap → Addr → (Str → Option Value) → Shared → (Value → Shared → Prop) → Prop) : Prop :=
  ∀ (dp un : Nat) (gd : Option (List Code)) (cn : Str) (cs : Scope) (a : Addr) (ccd : Value) (A₀ : Around) (h₀ : Heap) (L : Addr) (m : Str → Option Value) (s : Shared) (Q E : Value → Shared → Prop),
    Below A₀ h₀ [] h₀ → Fr h₀ L s.heap m → (Mine.hd.heap_39 w.params).In h₀ → News h₀ L s.heap news → Top Mine.hd.view_39 (looseW Mine.hd.view_39 [Str.ofString "GREATEST"]) mean mg mb h₀ → cs.kind = .function →
    dp + n < recursionLimit → un + 20 * n < cLine → R h₀ L m s Q →
      wpAny (model PySem.Challenge.rw_no0059_01.row.prog w) (ktrTop dp un gd cn cs L a ccd [] []) (call (.ref f) vs) Q E s
theorem said5 : True := by
  k_with "call ref" => (k_here; (with_reducible show wpAny _ _ (call (Value.ref 89) _) _ _ _); k_dflt (refine' Mine.c_restore _ _ _ _ _ _ _ _ (by assumption) (by assumption) (by assumption) (by assumption) (by assumption) (by assumption) (by assumption) _ _ _ _ _ _ _ _ _ _ _ _ _ _ _ _ _ (by k_asm) (by k_asm) (by k_asm) (by k_asm) (by k_asm) (by first | exact rfl | assumption) (by ktr_room) (by ktr_units) ⟨fun _ hx9 _ h9 tk9 _ _ => ?_, fun hx9 _ _ _ _ h9 tk9 _ _ _ _ _ _ => ?_⟩; k_whole); (all_goals (try k_fold)))
  trivial
theorem k_code {prog : Program} {w : World} {A : Around} {E : Value → Shared → Prop} {s : Shared} {h₀ : Heap} {L e dx C : Addr} {m mN mA : Str → Option Value} {news : List (Addr × Obj)} {oe od : Obj} {vs : Array Value} {expr : Bool} {Q : Value → Shared → Prop}
    (N : News h₀ L s.heap ((e, oe) :: (dx, od) :: news)) (hc : oe.cls = .ref C) (hdd : oe.dict = some dx) (hdat : oe.data = .fields vs) (O : NsObj od mA) (P : Code512 mA) (X : IsExc s.heap C mN)
    (h : ∀ t, Q (.int 512 t) { s with toks := s.toks + 1 }) : wpAny (model prog w) A (getAttr (.ref e) (Str.ofString "code") expr) Q E s := by
  obtain ⟨t, ht⟩ := P
  obtain ⟨hp, g, d, tk, os⟩ := s
  exact code_attr X (N _ (.head _)).1 hc hdat hdd (N _ (.tail _ (.head _))).1 O ht rfl (h t)
theorem said6 : True := by
  k_with "getAttr ref" => (k_here; (with_reducible show wpAny _ _ (getAttr (Value.ref _) (Str.ofString "code") _) _ _ _); k_dflt (refine' k_code (by assumption) (by assumption) (by assumption) (by assumption) (by assumption) (by assumption) (by exact isExc31 (Frag.In.keeps (by assumption) (Fr.keep (by assumption)))) ?_; k_whole); intro _; (try k_fold))
  k_with "noteFrame ref" => (k_here; k_dflt (refine' land_D (by assumption) (by assumption) (by assumption) (by assumption) (by assumption) (by assumption) (by assumption) (by exact KtsTurn.refl) ?_; k_whole); intro _ _; (try k_fold))
  k_with "handleBy" => (k_here; (with_reducible rename Landed _ _ _ _ _ _ _ _ _ _ _ _ _ _ _ _ _ _ => rkY); k_dflt (refine' hit_as rkY (by k_is) (fun _ => isExc31) ?_; k_whole); intro _ _ _ _ _ _ _ _ _ _ _ K' _ _ _; (try k_lift K'); (try k_fold))
  trivial
set_option maxHeartbeats 8000000 in
theorem c_restored {w : World} {mean : ExcName → Option Value} {mg mb : Str → Option Value} (news : List (Addr × Obj)) (c g r i : Int) (tc tg ti : Tok) (hg : Int.fdiv g 32 = r) (hr1 : 1 ≤ r) (hr2 : r < 13) (hc1 : 0 ≤ c) (hc2 : c < 1000) (hi1 : 0 ≤ i) (hi2 : i < 1000) :
    CtrL 18 w mean mg mb 124 news [.int c tc, .int g tg, .int i ti] (fun h₀ L m s Q => Ret news (fun t => .int ((restN c r i).getD 512) t) h₀ L m s Q) := by
  dsimp only [CtrL, Ret]
  k_fill
  intro dp un gd cn cs a ccd A₀ h₀ L m s Q E B F X N T hk hdp hun hret
  refine wpAny_call ?_
  k_dflt (refine' code_defS0 ?k1 ?k2 ?k3 ?k4 ?k5 ?kA ?k6 ?k7 ?k8 ?k9 ?kB ?_ ?cK ?c2 ?c3 ?c4 ?c5; (case kA => exact rfl); (case k2 => k_asm); (case k1 => k_asm); (case k3 => k_asm); (case k4 => k_asm); (case k5 => k_asm); (case k6 => k_is); (case k7 => k_is); (case k8 => ktr_room); (case k9 => exact BindsTo.of_eq rfl); (case kB => exact locs rfl); (case cK => assumption); (case c2 => exact rfl); (case c3 => exact rfl); (case c4 => exact rfl); (case c5 => decide); k_whole; intro g' L' h' FG' F' N' B' X' T' D'; (try dsimp only); (try k_lift B'); (try k_fold))
  k_steps
  all_goals (try k_data)
  all_goals (
    (rename (restN c r i = _) => hx)
    rw [hx] at hret
    first | exact hret _ _ _ (by k_asm) (by k_asm) | exact hret _ _ _ (by k_asm) (cb_drop (by k_asm) (fun p hp => .tail _ (.tail _ hp))))
/-- the one count of the window that has the rest of what was sent -/
def dueV (c r i : Int) : Int :=
  if c > 2 * r then 512 else
  if i - r + 1 + Int.fmod (c - 1 - (i - r + 1)) (2 * r) > 0 then i - r + 1 + Int.fmod (c - 1 - (i - r + 1)) (2 * r) else 512
def dueG (c r : Int) : List Int → Int → List Int := fun l k => if Int.fmod k (2 * r) = c - 1 then l ++ [k] else l
theorem dueG_skip (c r : Int) : ∀ (l acc : List Int), (∀ k ∈ l, Int.fmod k (2 * r) ≠ c - 1) → l.foldl (dueG c r) acc = acc
  | [], _, _ => rfl
  | k :: l, acc, h => by
    rw [List.foldl_cons, dueG, if_neg (h k (.head _))]
    exact dueG_skip c r l acc fun k' hk' => h k' (.tail _ hk')
theorem rangeKs_split (a : Int) (k n : Nat) : rangeKs a (k + (1 + n)) = rangeKs a k ++ ((a + (k : Int)) :: rangeKs (a + k + 1) n) := by
  simp only [rangeKs, List.range_add, List.map_append, List.map_map]
  rw [List.append_cancel_left_eq]
  show List.map _ [0] ++ _ = _
  simp only [List.map_cons, List.map_nil, List.cons_append, List.nil_append, Function.comp]
  congr 1
  refine List.map_congr_left fun x _ => ?_
  simp only [Function.comp]
  omega
theorem fm {x m : Int} (h : 0 < m) : Int.fmod x m = x % m := Int.fmod_eq_emod_of_nonneg x (Int.le_of_lt h)
theorem fd {x m : Int} (h : 0 < m) : Int.fdiv x m = x / m := Int.fdiv_eq_ediv_of_nonneg x (Int.le_of_lt h)
/-- two numbers of one rest, less than the modulus apart -/
theorem one_rest {M x y : Int} (h : x % M = y % M) (h1 : x - y < M) (h2 : y - x < M) : x = y := by
  have hd : M ∣ x - y := Int.dvd_of_emod_eq_zero (Int.emod_eq_emod_iff_emod_sub_eq_zero.mp h)
  have := Int.eq_zero_of_dvd_of_natAbs_lt_natAbs hd (by omega)
  omega
theorem rest_add {M x k q : Int} (h0 : 0 ≤ k) (h1 : k < M) (e : x = k + M * q) : x % M = k := by
  rw [e, Int.add_mul_emod_self_left, Int.emod_eq_of_lt h0 h1]
theorem rest_spot {M a k : Int} (h0 : 0 ≤ k) (h1 : k < M) : (a + (k - a) % M) % M = k := by
  refine rest_add (q := -((k - a) / M)) h0 h1 ?_
  have := Int.emod_add_mul_ediv (k - a) M
  rw [Int.mul_neg]
  omega
theorem due_fold {c r i : Int} {n : Nat} (h1 : 1 ≤ r) (hc1 : 0 < c) (hc2 : c ≤ 2 * r) (hn : (n : Int) = 2 * r) :
    (rangeKs (i - r + 1) n).foldl (dueG c r) [] = [i - r + 1 + Int.fmod (c - 1 - (i - r + 1)) (2 * r)] := by
  have hM : (0 : Int) < 2 * r := by omega
  have a1 := Int.emod_nonneg (c - 1 - (i - r + 1)) (b := 2 * r) (by omega)
  have a2 := Int.emod_lt_of_pos (c - 1 - (i - r + 1)) hM
  have a3 := rest_spot (M := 2 * r) (a := i - r + 1) (k := c - 1) (by omega) (by omega)
  rw [fm hM]
  generalize (c - 1 - (i - r + 1)) % (2 * r) = d at a1 a2 a3
  obtain ⟨k, q, e, hk⟩ : ∃ k q : Nat, n = k + (1 + q) ∧ (k : Int) = d := ⟨d.toNat, n - 1 - d.toNat, by omega, by omega⟩
  rw [← hk, e, rangeKs_split, List.foldl_append, List.foldl_cons]
  rw [dueG_skip c r _ _ ?_, dueG_skip c r _ _ ?_]
  · rw [dueG, if_pos]
    · rfl
    · rw [fm hM, hk]; exact a3
  · intro x hx
    have b := mem_rangeKs hx
    rw [fm hM]
    intro e
    have := one_rest (e.trans a3.symm) (by omega) (by omega)
    omega
  · intro x hx
    have b := mem_rangeKs hx
    rw [fm hM]
    intro e
    have := one_rest (e.trans a3.symm) (by omega) (by omega)
    omega
theorem due_one {ys : List Value} {c r i : Int} {n : Nat} (h1 : 1 ≤ r) (h2 : r < 13) (hc1 : 0 < c) (hc2 : c ≤ 2 * r) (hn : (n : Int) = 2 * r)
    (h : IntsAre ys ((rangeKs (i - r + 1) n).foldl (dueG c r) [])) : ∃ t, ys = [.int (i - r + 1 + Int.fmod (c - 1 - (i - r + 1)) (2 * r)) t] := by
  rw [due_fold h1 hc1 hc2 hn] at h
  cases h with
  | cons n t h => cases h; exact ⟨t, rfl⟩
/-- what is sent means what is due -/
theorem rest_due {c r i : Int} (h1 : 1 ≤ r) (h2 : r < 13) (hi : 0 ≤ i) (hc : 0 < c) (hc2 : c ≤ 2 * r + 1) : (restN c r i).getD 512 = dueV c r i := by
  have hM : (0 : Int) < 2 * r := by omega
  unfold restN dueV
  rw [if_neg (by omega), fm hM, fd hM]
  by_cases hb : c > 2 * r
  · rw [if_pos hb, if_pos hb]; rfl
  · rw [if_neg hb, if_neg hb]
    have a1 := Int.emod_nonneg (c - 1 - (i - r + 1)) (b := 2 * r) (by omega)
    have a2 := Int.emod_lt_of_pos (c - 1 - (i - r + 1)) hM
    have a3 := rest_spot (M := 2 * r) (a := i - r + 1) (k := c - 1) (by omega) (by omega)
    have b1 := Int.emod_nonneg (i + r) (b := 2 * r) (by omega)
    have b2 := Int.emod_lt_of_pos (i + r) hM
    have b3 := Int.emod_add_mul_ediv (i + r) (2 * r)
    have b4 : 0 ≤ (i + r) / (2 * r) := Int.ediv_nonneg (by omega) (by omega)
    have f1 : ((i + r) / (2 * r) * (2 * r) + c - 1) % (2 * r) = c - 1 := rest_add (q := (i + r) / (2 * r)) (by omega) (by omega) (by rw [Int.mul_comm (2 * r)]; omega)
    have f2 : ((i + r) / (2 * r) * (2 * r) + c - 1 - 2 * r) % (2 * r) = c - 1 := rest_add (q := (i + r) / (2 * r) - 1) (by omega) (by omega) (by rw [Int.mul_sub, Int.mul_one, Int.mul_comm (2 * r)]; omega)
    rw [Int.mul_comm (2 * r)] at b3
    have b5 : 0 ≤ (i + r) / (2 * r) * (2 * r) := Int.mul_nonneg b4 (by omega)
    generalize (c - 1 - (i - r + 1)) % (2 * r) = d at a1 a2 a3
    generalize (i + r) / (2 * r) * (2 * r) = A at b3 b5 f1 f2
    generalize (i + r) % (2 * r) = e at b1 b2 b3
    by_cases hf : A + c - 1 > i + r
    · have ex := one_rest (a3.trans f2.symm) (by omega) (by omega)
      rw [if_pos hf]
      (repeat' split) <;> simp only [Option.getD_some, Option.getD_none] <;> first | rfl | (exfalso; omega) | omega
    · have ex := one_rest (a3.trans f1.symm) (by omega) (by omega)
      rw [if_neg hf]
      (repeat' split) <;> simp only [Option.getD_some, Option.getD_none] <;> first | rfl | (exfalso; omega) | omega
/-- what is sent of a count in the window means that count -/
theorem rest_cut {c r i : Int} (h1 : 1 ≤ r) (h2 : r < 13) (hi : 0 ≤ i) (hc : 1 ≤ c) (hlo : i - r + 1 ≤ c) (hhi : c ≤ i + r) : restN (cutV c r) r i = some c := by
  have hM : (0 : Int) < 2 * r := by omega
  have e : cutV c r = c % (2 * r) + 1 := by rw [cutV, if_neg (by omega), fm hM]
  have c1 := Int.emod_nonneg c (b := 2 * r) (by omega)
  have c2 := Int.emod_lt_of_pos c hM
  rw [e]
  unfold restN
  rw [fd hM, if_neg (by omega), if_neg (by omega)]
  have b1 := Int.emod_nonneg (i + r) (b := 2 * r) (by omega)
  have b2 := Int.emod_lt_of_pos (i + r) hM
  have b3 := Int.emod_add_mul_ediv (i + r) (2 * r)
  have c0 : c % (2 * r) % (2 * r) = c % (2 * r) := Int.emod_emod_of_dvd c (Int.dvd_refl _)
  have f1 : ((i + r) / (2 * r) * (2 * r) + (c % (2 * r) + 1) - 1) % (2 * r) = c % (2 * r) := rest_add (q := (i + r) / (2 * r)) c1 c2 (by rw [Int.mul_comm (2 * r)]; omega)
  have f2 : ((i + r) / (2 * r) * (2 * r) + (c % (2 * r) + 1) - 1 - 2 * r) % (2 * r) = c % (2 * r) := rest_add (q := (i + r) / (2 * r) - 1) c1 c2 (by rw [Int.mul_sub, Int.mul_one, Int.mul_comm (2 * r)]; omega)
  rw [Int.mul_comm (2 * r)] at b3
  generalize hA : (i + r) / (2 * r) * (2 * r) = A at b3 f1 f2 ⊢
  generalize (i + r) % (2 * r) = d at b1 b2 b3
  by_cases hf : A + (c % (2 * r) + 1) - 1 > i + r
  · have ex := one_rest f2 (by omega) (by omega)
    rw [if_pos hf, if_neg (by omega), if_neg (by omega), ex]
  · have ex := one_rest f1 (by omega) (by omega)
    rw [if_neg hf, if_neg (by omega), ex]
theorem rest_zero (r i : Int) : restN 0 r i = some 0 := rfl
theorem said7 : True := by
  k_with "CompSrcT" => (k_here; k_dflt (refine LCt.CompSrcT.range (by rfl) (by k_asm) (by k_asm) (by assumption) (by exact small_one (by l_bnd) (by l_bnd) (by l_bnd) (by l_bnd)) (by exact rangeSize_nat _ _) (by rw [PySem.sizeLine_eq]; omega) ?_; intro _; (refine' kci_range (dueG _ _) (fun _ _ _ _ _ _ _ _ _ _ _ _ _ _ _ _ _ _ _ _ off' _ => ?_) ?_ ?_); (all_goals (try (simp only [LCg.Off3, and_true] at off'))); (all_goals (try ((show KPfMark → _); intro _))); kcf_last))
  k_with "CompEnd" => (refine' LCg.CompEnd.intro (by assumption) (by assumption) _ (fun _ hp => hp) (by ((simp only [LCg.Off3, and_true]); assumption)) True.intro ?_)
  k_with "KCiEl" => exact kci_el (if_pos (by assumption)) rfl rfl
  k_with "KCiNo" => exact kci_no (if_neg (by assumption)) rfl
  trivial
theorem lst_at {h₀ h : Heap} {L D : Addr} {ys : List Value} {news : List (Addr × Obj)} (N : News h₀ L h ((D, LCg.lst ys) :: news)) : h.IsList D ys.toArray := ⟨_, (N _ (.head _)).1, rfl, _, rfl⟩
theorem due_item {prog : Program} {w : World} {A : Around} {E : Value → Shared → Prop} {s : Shared} {value slice : Expr} {h₀ : Heap} {L D : Addr} {ys : List Value} {news : List (Addr × Obj)} {c r i : Int} {n : Nat} {u : Tok} {Q : Value → Shared → Prop}
    (N : News h₀ L s.heap ((D, LCg.lst ys) :: news)) (hI : IntsAre ys ((rangeKs (i - r + 1) n).foldl (dueG c r) [])) (h1 : 1 ≤ r) (h2 : r < 13) (hc1 : 0 < c) (hc2 : c ≤ 2 * r) (hn : (n : Int) = 2 * r)
    (h : ∀ t, Q (.int (i - r + 1 + Int.fmod (c - 1 - (i - r + 1)) (2 * r)) t) s)
    (hs : subscripted slice false (.ref D) (.int 0 u) = operate [.ref D, .int 0 u] (getItem (.ref D) (.int 0 u)) := by with_unfolding_all rfl) (hg : ∀ r, letTemporaryGo value (.ref D) r = pure () := by intro _; with_unfolding_all rfl) :
    wpAny (model prog w) A (subscriptTail value slice (.ref D) (.int 0 u)) Q E s := by
  obtain ⟨t, rfl⟩ := due_one h1 h2 hc1 hc2 hn hI
  exact item_list (lst_at N) (by decide) (by decide) (by rfl) (h t) hs hg
theorem said8 : True := by
  k_with "subscriptTail" => (k_here; (with_reducible show wpAny _ _ (subscriptTail _ _ (Value.ref _) (Value.int _ _)) _ _ _); refine due_item (by assumption) (by assumption) (by assumption) (by assumption) (by assumption) (by omega) (by omega) ?_; intro _)
  k_with "KPfGrows" => ((show KPfGrows (dueG _ _)); intro _ _; unfold dueG; split <;> simp)
  trivial
set_option maxHeartbeats 8000000 in
theorem c_due {w : World} {mean : ExcName → Option Value} {mg mb : Str → Option Value} (news : List (Addr × Obj)) (c r i : Int) (tc tg ti : Tok) (hr1 : 1 ≤ r) (hr2 : r < 13) (hc1 : 0 < c) (hc2 : c < 1000) (hi1 : 0 ≤ i) (hi2 : i < 1000) :
    CtrL 18 w mean mg mb 136 news [.int c tc, .int r tg, .int i ti] (fun h₀ L m s Q => Ret news (fun t => .int (dueV c r i) t) h₀ L m s Q) := by
  dsimp only [CtrL, Ret]
  k_fill
  intro dp un gd cn cs a ccd A₀ h₀ L m s Q E B F X N T hk hdp hun hret
  refine wpAny_call ?_
  k_dflt (refine' code_defC ?k1 ?k2 ?k3 ?k4 ?k5 ?kA ?kF ?kK ?k6 ?k7 ?k8 ?k9 ?kB ?kD ?_ ?c2 ?c3 ?c4; (case kA => exact rfl); (case kF => exact rfl); (case kK => assumption); (case k1 => k_asm); (case k2 => k_asm); (case k3 => k_asm); (case k4 => k_asm); (case k5 => k_asm); (case k6 => k_is); (case k7 => k_is); (case k8 => ktr_room); (case k9 => exact BindsTo.of_eq rfl); (case kB => exact rfl); (case kD => decide +kernel); (case c2 => exact rfl); (case c3 => exact rfl); (case c4 => exact rfl); k_whole; intro g' L' h' tk' cells' FG' F' N' Y' B' X' T' l1; (try k_lt l1); k_cells Y'; (try simp only [List.cons_append, List.nil_append] at N'); (try dsimp only); (try k_lift B'); (try k_fold))
  k_steps
  · rename_i h; omega
  · have e : dueV c r i = 512 := by unfold dueV; rw [if_pos (by omega)]
    rw [e] at hret
    exact hret _ _ _ (by k_asm) (cb_drop (by k_asm) (fun p hp => .tail _ (.tail _ hp)))
  all_goals (
    unfold dueV at hret
    rw [if_neg (by omega)] at hret
    first
    | (rw [if_pos (by assumption)] at hret; exact hret _ _ _ (by k_asm) (cb_drop (by k_asm) (fun p hp => .tail _ (.tail _ (.tail _ hp)))))
    | (rw [if_neg (by omega)] at hret; exact hret _ _ _ (by k_asm) (cb_drop (by k_asm) (fun p hp => .tail _ (.tail _ (.tail _ hp)))))
    )
theorem t_len {prog : Program} {w : World} {A : Around} {E : Value → Shared → Prop} {s : Shared} {h₀ : Heap} {L X : Addr} {xs : List Value} {n : Nat} {news : List (Addr × Obj)} {Q : Value → Shared → Prop}
    (N : News h₀ L s.heap news) (hm : (X, listOf (List.toArray xs) n) ∈ news) (hz : xs.length ≤ 64) (h : Q (.int (xs.length : Int) (s.toks + 1)) { s with toks := s.toks + 1 + 1 }) :
    wpAny (model prog w) A (call (.builtin "len") [.ref X]) Q E s :=
  call_len_list (items := xs.toArray) ⟨_, (N _ hm).1, rfl, _, rfl⟩ (by rw [List.size_toArray]; omega) (by rw [List.size_toArray]; exact h)
theorem t_pop {prog : Program} {w : World} {A : Around} {E : Value → Shared → Prop} {s : Shared} {h₀ : Heap} {L X : Addr} {m : Str → Option Value} {y : Value} {xs : List Value} {n : Nat} {news news' : List (Addr × Obj)} {u : Tok} {Q : Value → Shared → Prop}
    (F : Fr h₀ L s.heap m) (N : News h₀ L s.heap news) (U : Upd X (listOf (List.toArray (y :: xs)) n) (listOf (List.toArray xs) (n + 1)) news news') (hz : (y :: xs).length ≤ 64)
    (h : ∀ h', Fr h₀ L h' m → News h₀ L h' news' → Q y { s with heap := h' }) :
    wpAny (model prog w) A (call (.builtin "list.pop") [.ref X, .int 0 u]) Q E s := by
  refine kl_popAt (p := []) (q := xs) (y := y) (k := 0) F N rfl ?_ rfl U ?_ h
  · rw [List.size_toArray]
    exact seqIndex_of (by decide) (by simp)
  · show (y :: xs).length ≤ sizeLine
    rw [PySem.sizeLine_eq]; omega
theorem said9 : True := by
  k_with "call builtin:len" => (k_here; (with_reducible show wpAny _ _ (call (Value.builtin "len") [Value.ref _]) _ _ _); k_dflt (refine' t_len (by k_asm) (by exact .tail _ (.head _)) (by assumption) ?_; k_whole); (try simp only [List.length_cons]))
  k_with "call builtin:list.pop" => (k_here; k_dflt (refine' t_pop (by k_asm) (by k_asm) (by exact .tail (by assumption) (.head (fun _ h => nomatch h))) (by assumption) ?_); (intro _ _ _))
  trivial
/-- the box of draws in the ledger -/
def Box (B X : Addr) (news : List (Addr × Obj)) : Prop :=
  ∃ (xs : List Value) (ns : List Int) (n : Nat) (st : Int) (t : Tok) (m1 : Nat), news = [(B, listOf #[.ref X, .int st t] m1), (X, listOf (List.toArray xs) n)] ∧ IntsAre xs ns ∧ xs.length ≤ 64 ∧ 0 ≤ st ∧ st < 2147483647 ∧ (@Ne Nat B X)
theorem fmod_in {x m : Int} (h : 0 < m) : 0 ≤ Int.fmod x m ∧ Int.fmod x m < m := by
  rw [fm h]
  exact ⟨Int.emod_nonneg x (by omega), Int.emod_lt_of_pos x h⟩
abbrev Took (B X : Addr) (wd : Int) (h₀ : Heap) (L : Addr) (m : Str → Option Value) (s : Shared) (Q : Value → Shared → Prop) : Prop :=
  ∀ (r : Int) t h' tk' news', 0 ≤ r → r < wd → Fr h₀ L h' m → News h₀ L h' news' → Box B X news' → Q (.int r t) { s with heap := h', toks := tk' }
set_option maxHeartbeats 8000000 in
theorem c_take1 {w : World} {mean : ExcName → Option Value} {mg mb : Str → Option Value} (B X : Addr) (st wd : Int) (t tw : Tok) (k : Int) (tk0 : Tok) (xs : List Value) (ns : List Int) (n m1 : Nat) (hBX : @Ne Nat B X) (hst : 0 ≤ st) (hst2 : st < 2147483647) (hw : 0 < wd) (hn : (.int k tk0 :: xs : List Value).length ≤ 64) (hlen : (0 : Int) < (xs.length : Int) + 1) (hI : IntsAre xs ns) :
    CtrL 18 w mean mg mb 110 [(B, listOf #[.ref X, .int st t] m1), (X, listOf (List.toArray (.int k tk0 :: xs)) n)] [.ref B, .int wd tw] (fun h₀ L m s Q => Took B X wd h₀ L m s Q) := by
  dsimp only [CtrL, Took]
  k_fill
  intro dp un gd cn cs a ccd A₀ h₀ L m s Q E hB F X N T hk hdp hun hret
  refine wpAny_call ?_
  k_dflt cell_enter
  k_steps
  exact hret _ _ _ _ _ (fmod_in hw).1 (fmod_in hw).2 (by k_asm) (by k_asm) ⟨_, _, _, _, _, _, rfl, hI, (by simp only [List.length_cons] at hn; omega), hst, hst2, hBX⟩
set_option maxHeartbeats 8000000 in
theorem c_take0 {w : World} {mean : ExcName → Option Value} {mg mb : Str → Option Value} (B X : Addr) (st wd : Int) (t tw : Tok)  (n m1 : Nat) (hBX : @Ne Nat B X) (hst : 0 ≤ st) (hst2 : st < 2147483647) (hw : 0 < wd) (hn : ([] : List Value).length ≤ 64)  :
    CtrL 18 w mean mg mb 110 [(B, listOf #[.ref X, .int st t] m1), (X, listOf (List.toArray ([])) n)] [.ref B, .int wd tw] (fun h₀ L m s Q => Took B X wd h₀ L m s Q) := by
  dsimp only [CtrL, Took]
  k_fill
  intro dp un gd cn cs a ccd A₀ h₀ L m s Q E hB F X N T hk hdp hun hret
  refine wpAny_call ?_
  k_dflt cell_enter
  k_steps
  exact hret _ _ _ _ _ (fmod_in hw).1 (fmod_in hw).2 (by k_asm) (by k_asm) ⟨_, _, _, _, _, _, rfl, .nil, by decide, (fmod_in (by decide)).1, (fmod_in (by decide)).2, hBX⟩
theorem c_take {w : World} {mean : ExcName → Option Value} {mg mb : Str → Option Value} (B X : Addr) (wd : Int) (tw : Tok) (news : List (Addr × Obj)) (hw : 0 < wd) (hb : Box B X news) :
    CtrL 18 w mean mg mb 110 news [.ref B, .int wd tw] (fun h₀ L m s Q => Took B X wd h₀ L m s Q) := by
  obtain ⟨xs, ns, n, st, t, m1, rfl, hI, hz, h1, h2, hne⟩ := hb
  cases hI with
  | nil => exact c_take0 B X st wd t tw n m1 hne h1 h2 hw hz
  | cons k t0 hI => exact c_take1 B X st wd t tw k t0 _ _ n m1 hne h1 h2 hw hz (by omega) hI
theorem box_end {h₀ h : Heap} {L l D : Addr} {xs : List Value} {ns : List Int} {n m1 : Nat} {st : Int} {t : Tok} {rest : List (Addr × Obj)} {P : Prop}
    (N : News h₀ L h ((l, listOf #[.ref D, .int st t] m1) :: (D, listOf (List.toArray xs) n) :: rest)) (hI : IntsAre xs ns) (hz : xs.length ≤ 64) (h1 : 0 ≤ st) (h2 : st < 2147483647) (hne : (@Ne Nat l D))
    (k : ∀ news', News h₀ L h news' → Box l D news' → P) : P :=
  k [(l, listOf #[.ref D, .int st t] m1), (D, listOf (List.toArray xs) n)] (cb_drop N (fun p hp => by
    rcases List.mem_cons.mp hp with rfl | hp
    · exact .head _
    · rcases List.mem_cons.mp hp with rfl | hp
      · exact .tail _ (.head _)
      · cases hp)) ⟨_, _, _, _, _, _, rfl, hI, hz, h1, h2, hne⟩
set_option maxHeartbeats 8000000 in
theorem c_box {w : World} {mean : ExcName → Option Value} {mg mb : Str → Option Value} (a₁ : Addr) (vs : List Value) (ns : List Int) (hI : IntsAre vs ns) (hz : vs.length ≤ 63) (hlay : PyData.layable0 (.list (ns.map .int)) = true) :
    CtrL 18 w mean mg mb 117 [] [.ref a₁] (fun h₀ L m s Q => h₀.IsList a₁ vs.toArray ∧
      ∀ (B X : Addr) h' tk' news', Fr h₀ L h' m → News h₀ L h' news' → Box B X news' → Q (.ref B) { s with heap := h', toks := tk' }) := by
  dsimp only [CtrL]
  k_fill
  intro dp un gd cn cs a ccd A₀ h₀ L m s Q E hB F X N T hk hdp hun hret
  obtain ⟨hl, hret⟩ := hret
  refine wpAny_call ?_
  k_dflt cell_enter
  have nofold : (12321 : Nat) = 12321 := rfl
  k_with "pyIter ref" => k_state (fun pre a => 0 ≤ a ∧ a < 2147483647) "stirred"
  k_with "state" => exact ⟨(fmod_in (by decide)).1, (fmod_in (by decide)).2⟩
  k_steps
  have hz9 : (ns.take 24).length ≤ 24 := by rw [List.length_take]; omega
  (with_reducible rename News _ _ _ _ => hN9)
  refine box_end hN9 (by assumption) ?_ (by assumption) (by assumption) ?_ fun news' N' Bx' => hret _ _ _ _ _ (by k_asm) N' Bx'
  · (have e := IntsAre.length (by assumption : IntsAre _ (List.take 24 ns))); omega
  · omega
section
variable {prog : Program} {w : World} {A : Around} {E : Value → Shared → Prop} {s : Shared} {a b n : Int} {t u : Tok} {Q : Value → Shared → Prop}
theorem and127 (hb : b = 127) (h : Q (.int (a % 128) s.toks) { s with toks := s.toks + 1 }) : wpAny (model prog w) A (binaryOp .BitAnd (.int a t) (.int b u)) Q E s := by
  subst hb
  exact and_int (by rw [bitAnd_m7]; exact h)
theorem and255 (hb : b = 255) (h0 : 0 ≤ a) (h1 : a < 256) (h : Q (.int a s.toks) { s with toks := s.toks + 1 }) : wpAny (model prog w) A (binaryOp .BitAnd (.int a t) (.int b u)) Q E s := by
  subst hb
  refine and_int ?_
  rw [bitAnd_m8, Int.emod_eq_of_lt h0 h1]
  exact h
theorem shl0 (hn : n = 0) (ha : a.natAbs < 2 ^ 64) (h : Q (.int a s.toks) { s with toks := s.toks + 1 }) : wpAny (model prog w) A (binaryOp .LShift (.int a t) (.int n u)) Q E s := by
  subst hn
  exact lshift_int_small (by decide) (by decide) ha (by rw [show (a * 2 ^ (0 : Int).toNat) = a by simp]; exact h)
theorem shl7 (hn : n = 7) (ha : a.natAbs < 2 ^ 64) (h : Q (.int (a * 128) s.toks) { s with toks := s.toks + 1 }) : wpAny (model prog w) A (binaryOp .LShift (.int a t) (.int n u)) Q E s := by
  subst hn
  exact lshift_int_small (by decide) (by decide) ha (by rw [show (a * 2 ^ (7 : Int).toNat) = a * 128 by rfl]; exact h)
theorem shl17 (hn : n = 7) (h : Q (.int 128 s.toks) { s with toks := s.toks + 1 }) : wpAny (model prog w) A (binaryOp .LShift (.int 1 t) (.int n u)) Q E s := shl7 hn (by decide) h
theorem shl18 (hn : n = 8) (h : Q (.int 256 s.toks) { s with toks := s.toks + 1 }) : wpAny (model prog w) A (binaryOp .LShift (.int 1 t) (.int n u)) Q E s := by
  subst hn
  exact lshift_int_small (by decide) (by decide) (by decide) (by rw [show ((1 : Int) * 2 ^ (8 : Int).toNat) = 256 by rfl]; exact h)
end
theorem said10 : True := by
  k_with "binaryOp BitAnd int int" => (k_here; first | (refine and127 (by omega) ?_) | (refine and255 (by omega) (by omega) (by omega) ?_))
  k_with "binaryOp LShift int int" => (k_here; first | (refine shl17 (by omega) ?_) | (refine shl18 (by omega) ?_) | (refine shl0 (by omega) (by omega) ?_) | (refine shl7 (by omega) (by omega) ?_))
  trivial
abbrev tupO (xs : Array Value) : Obj := { cls := .type "tuple", data := .seq xs }
/-- a pair of ints comes back -/
abbrev RetT (v a : Int) (news : List (Addr × Obj)) (h₀ : Heap) (L : Addr) (m : Str → Option Value) (s : Shared) (Q : Value → Shared → Prop) : Prop :=
  ∀ (D : Addr) (v' a' : Int) (t1 t2 : Tok) h' tk', v' = v → a' = a → Fr h₀ L h' m → News h₀ L h' ((D, tupO #[.int v' t1, .int a' t2]) :: news) → (∀ p ∈ news, p.1 < D) → Q (.ref D) { s with heap := h', toks := tk' }
theorem sub_head {α : Type} {x : α} {l m : List α} (h : ∀ p ∈ l, p ∈ m) : ∀ p ∈ x :: l, p ∈ x :: m := fun p hp => by
  rcases List.mem_cons.mp hp with rfl | hp
  · exact .head _
  · exact .tail _ (h p hp)
theorem all_lt {d : Addr} : ∀ {l : List (Addr × Obj)}, AllLt d l → ∀ p ∈ l, p.1 < d
  | [], _, _, h => nomatch h
  | _ :: _, h, _, hp => by
    rcases List.mem_cons.mp hp with rfl | hp
    · exact h.1
    · exact all_lt h.2 _ hp
theorem RaisedD.drop {base G : Heap} {l : List Env} {e C : Addr} {dd : Option Addr} {news news' : List (Addr × Obj)} {h : Heap} (R : RaisedD base G l e C dd news h) (hs : ∀ p ∈ news', p ∈ news) : RaisedD base G l e C dd news' h := by
  obtain ⟨B, a0, h1, h2, h3, h4, h5⟩ := R
  exact ⟨B, a0, h1, h2, fun q hq => h3 q (hs q hq), h4, h5⟩
theorem said11 : True := by
  k_with "ite" => (k_here; first | (refine ite_pos (by (rw [decide_eq_true_eq]; omega)) ?_; walk_say "DECIDED") | (refine ite_neg (by (rw [decide_eq_true_eq]; omega)) ?_; walk_say "DECIDED"))
  trivial
abbrev NoCode (_ : Str → Option Value) : Prop := True
theorem said12 : True := by
  k_with "call builtin:len" => (k_here; (with_reducible show wpAny _ _ (call (Value.builtin "len") [Value.bytes _ _]) _ _ _); (refine KBw.len_K (by assumption) (by (simp only [List.length_cons, List.length_nil]; omega)) ?_); (try simp only [List.length_cons, List.length_nil]))
  k_with "subscriptTail" => (k_here; (with_reducible show wpAny _ _ (subscriptTail _ _ (Value.bytes _ _) (Value.int _ _)) _ _ _); (refine KBw.item_K (by assumption) (by (simp only [List.length_cons, List.length_nil]; omega)) (by omega) (by (simp only [List.length_cons, List.length_nil]; omega)) ?_); (try simp only [Int.reduceAdd, Int.reduceSub, Int.reduceToNat, List.getD_cons_succ, List.getD_cons_zero]); intro _ _ _ _)
  k_with "call ref" => (k_here; (with_reducible show wpAny _ _ (call (Value.ref 51) _) _ _ _); k_dflt (refine' Mine.c_short _ _ _ (by decide +kernel) _ _ _ _ _ _ _ _ _ _ _ _ _ _ _ _ (by k_asm) (by k_asm) (by k_asm) (by k_asm) (by k_asm) (by first | exact rfl | assumption) (by ktr_room) (by ktr_units) ?_; k_whole); intro _ _ _ _ _ _ _ _ _ _ _ _; (try k_fold))
  trivial
set_option maxHeartbeats 8000000 in
theorem g_8 {w : World} {mean : ExcName → Option Value} {mg mb : Str → Option Value} (news : List (Addr × Obj)) (b : Array UInt8) (tb ta tc : Tok) (k0 : Int) (rest : List Int) (hb : KBw.bInts b = k0 :: rest) (h0 : 0 ≤ k0) (h1 : k0 < 255) (hr : rest.length ≤ 8) :
    CtrE 14 w mean mg mb 68 news [.bytes b tb, .int 0 ta, .int 8 tc] (fun base h₀ L m s env outer Q E => RetT k0 1 news h₀ L m s Q) := by
  dsimp only [CtrE, RetT, Rz]
  k_fill
  intros
  rename_i hret
  refine wpAny_call ?_
  k_dflt cell_enter
  k_steps
  all_goals first
    | (refine hret _ _ _ _ _ _ _ ?e1 ?e2 (by k_asm) (cb_drop (by k_asm) (sub_head fun p hp => .tail _ hp)) (all_lt (by assumption : _ ∧ AllLt _ news).2) <;> omega)
    | (refine hret _ _ _ _ _ _ _ ?e1 ?e2 (by k_asm) (cb_drop (by k_asm) (sub_head fun p hp => .tail _ (.tail _ hp))) (all_lt (by assumption : _ ∧ _ ∧ AllLt _ news).2.2) <;> omega)
    | (refine hret _ _ _ _ _ _ _ ?e1 ?e2 (by k_asm) (cb_drop (by k_asm) (sub_head fun p hp => .tail _ (.tail _ (.tail _ hp)))) (all_lt (by assumption : _ ∧ _ ∧ _ ∧ AllLt _ news).2.2.2) <;> omega)
set_option maxHeartbeats 8000000 in
theorem g_s0 {w : World} {mean : ExcName → Option Value} {mg mb : Str → Option Value} (news : List (Addr × Obj)) (b : Array UInt8) (tb ta tc : Tok) (k0 : Int) (hb : KBw.bInts b = [k0])  :
    CtrE 14 w mean mg mb 68 news [.bytes b tb, .int 1 ta, .int 7 tc] (fun base h₀ L m s env outer Q E => Rz 51 NoCode base h₀ L m s env outer news E) := by
  dsimp only [CtrE, RetT, Rz]
  k_fill
  intros
  rename_i hret
  refine wpAny_call ?_
  k_dflt cell_enter
  k_steps
  all_goals first
    | exact hret _ _ _ _ _ _ _ (by assumption) (by assumption) (by assumption) (by assumption) trivial
    | exact hret _ _ _ _ _ _ _ (by assumption) (RaisedD.drop (by assumption) (sub_head fun p hp => .tail _ hp)) (by assumption) (by assumption) trivial
    | exact hret _ _ _ _ _ _ _ (by assumption) (RaisedD.drop (by assumption) (sub_head fun p hp => .tail _ (.tail _ hp))) (by assumption) (by assumption) trivial
    | exact hret _ _ _ _ _ _ _ (by assumption) (RaisedD.drop (by assumption) (sub_head fun p hp => .tail _ (.tail _ (.tail _ hp)))) (by assumption) (by assumption) trivial
set_option maxHeartbeats 8000000 in
theorem g_1 {w : World} {mean : ExcName → Option Value} {mg mb : Str → Option Value} (news : List (Addr × Obj)) (b : Array UInt8) (tb ta tc : Tok) (k0 x : Int) (rest : List Int) (hb : KBw.bInts b = k0 :: x :: rest) (hx : x % 128 < 127) (hr : rest.length ≤ 4) :
    CtrE 14 w mean mg mb 68 news [.bytes b tb, .int 1 ta, .int 7 tc] (fun base h₀ L m s env outer Q E => RetT (x % 128) 2 news h₀ L m s Q) := by
  dsimp only [CtrE, RetT, Rz]
  k_fill
  intros
  rename_i hret
  refine wpAny_call ?_
  k_dflt cell_enter
  k_steps
  all_goals first
    | (refine hret _ _ _ _ _ _ _ ?e1 ?e2 (by k_asm) (cb_drop (by k_asm) (sub_head fun p hp => .tail _ hp)) (all_lt (by assumption : _ ∧ AllLt _ news).2) <;> omega)
    | (refine hret _ _ _ _ _ _ _ ?e1 ?e2 (by k_asm) (cb_drop (by k_asm) (sub_head fun p hp => .tail _ (.tail _ hp))) (all_lt (by assumption : _ ∧ _ ∧ AllLt _ news).2.2) <;> omega)
    | (refine hret _ _ _ _ _ _ _ ?e1 ?e2 (by k_asm) (cb_drop (by k_asm) (sub_head fun p hp => .tail _ (.tail _ (.tail _ hp)))) (all_lt (by assumption : _ ∧ _ ∧ _ ∧ AllLt _ news).2.2.2) <;> omega)
set_option maxHeartbeats 8000000 in
theorem g_s1 {w : World} {mean : ExcName → Option Value} {mg mb : Str → Option Value} (news : List (Addr × Obj)) (b : Array UInt8) (tb ta tc : Tok) (k0 : Int) (hb : KBw.bInts b = [k0, 127])  :
    CtrE 14 w mean mg mb 68 news [.bytes b tb, .int 1 ta, .int 7 tc] (fun base h₀ L m s env outer Q E => Rz 51 NoCode base h₀ L m s env outer news E) := by
  dsimp only [CtrE, RetT, Rz]
  k_fill
  intros
  rename_i hret
  refine wpAny_call ?_
  k_dflt cell_enter
  k_steps
  all_goals first
    | exact hret _ _ _ _ _ _ _ (by assumption) (by assumption) (by assumption) (by assumption) trivial
    | exact hret _ _ _ _ _ _ _ (by assumption) (RaisedD.drop (by assumption) (sub_head fun p hp => .tail _ hp)) (by assumption) (by assumption) trivial
    | exact hret _ _ _ _ _ _ _ (by assumption) (RaisedD.drop (by assumption) (sub_head fun p hp => .tail _ (.tail _ hp))) (by assumption) (by assumption) trivial
    | exact hret _ _ _ _ _ _ _ (by assumption) (RaisedD.drop (by assumption) (sub_head fun p hp => .tail _ (.tail _ (.tail _ hp)))) (by assumption) (by assumption) trivial
set_option maxHeartbeats 8000000 in
theorem g_2 {w : World} {mean : ExcName → Option Value} {mg mb : Str → Option Value} (news : List (Addr × Obj)) (b : Array UInt8) (tb ta tc : Tok) (k0 y : Int) (rest : List Int) (hb : KBw.bInts b = k0 :: 127 :: y :: rest) (h1 : 0 ≤ y) (hx : y < 128) (hr : rest.length ≤ 4) :
    CtrE 14 w mean mg mb 68 news [.bytes b tb, .int 1 ta, .int 7 tc] (fun base h₀ L m s env outer Q E => RetT (127 + y) 3 news h₀ L m s Q) := by
  dsimp only [CtrE, RetT, Rz]
  k_fill
  intros
  rename_i hret
  refine wpAny_call ?_
  k_dflt cell_enter
  k_steps
  all_goals first
    | (refine hret _ _ _ _ _ _ _ ?e1 ?e2 (by k_asm) (cb_drop (by k_asm) (sub_head fun p hp => .tail _ hp)) (all_lt (by assumption : _ ∧ AllLt _ news).2) <;> omega)
    | (refine hret _ _ _ _ _ _ _ ?e1 ?e2 (by k_asm) (cb_drop (by k_asm) (sub_head fun p hp => .tail _ (.tail _ hp))) (all_lt (by assumption : _ ∧ _ ∧ AllLt _ news).2.2) <;> omega)
    | (refine hret _ _ _ _ _ _ _ ?e1 ?e2 (by k_asm) (cb_drop (by k_asm) (sub_head fun p hp => .tail _ (.tail _ (.tail _ hp)))) (all_lt (by assumption : _ ∧ _ ∧ _ ∧ AllLt _ news).2.2.2) <;> omega)
set_option maxHeartbeats 8000000 in
theorem g_s2 {w : World} {mean : ExcName → Option Value} {mg mb : Str → Option Value} (news : List (Addr × Obj)) (b : Array UInt8) (tb ta tc : Tok) (k0 y : Int) (hb : KBw.bInts b = [k0, 127, y]) (h1 : 128 ≤ y) (h2 : y < 256) :
    CtrE 14 w mean mg mb 68 news [.bytes b tb, .int 1 ta, .int 7 tc] (fun base h₀ L m s env outer Q E => Rz 51 NoCode base h₀ L m s env outer news E) := by
  dsimp only [CtrE, RetT, Rz]
  k_fill
  intros
  rename_i hret
  refine wpAny_call ?_
  k_dflt cell_enter
  k_steps
  all_goals first
    | exact hret _ _ _ _ _ _ _ (by assumption) (by assumption) (by assumption) (by assumption) trivial
    | exact hret _ _ _ _ _ _ _ (by assumption) (RaisedD.drop (by assumption) (sub_head fun p hp => .tail _ hp)) (by assumption) (by assumption) trivial
    | exact hret _ _ _ _ _ _ _ (by assumption) (RaisedD.drop (by assumption) (sub_head fun p hp => .tail _ (.tail _ hp))) (by assumption) (by assumption) trivial
    | exact hret _ _ _ _ _ _ _ (by assumption) (RaisedD.drop (by assumption) (sub_head fun p hp => .tail _ (.tail _ (.tail _ hp)))) (by assumption) (by assumption) trivial
set_option maxHeartbeats 8000000 in
theorem g_3 {w : World} {mean : ExcName → Option Value} {mg mb : Str → Option Value} (news : List (Addr × Obj)) (b : Array UInt8) (tb ta tc : Tok) (k0 y : Int) (rest : List Int) (hb : KBw.bInts b = k0 :: 127 :: y :: 1 :: rest) (h1 : 128 ≤ y) (h2 : y < 256) (hr : rest.length ≤ 4) :
    CtrE 14 w mean mg mb 68 news [.bytes b tb, .int 1 ta, .int 7 tc] (fun base h₀ L m s env outer Q E => RetT (127 + y) 4 news h₀ L m s Q) := by
  dsimp only [CtrE, RetT, Rz]
  k_fill
  intros
  rename_i hret
  refine wpAny_call ?_
  k_dflt cell_enter
  k_steps
  all_goals first
    | (refine hret _ _ _ _ _ _ _ ?e1 ?e2 (by k_asm) (cb_drop (by k_asm) (sub_head fun p hp => .tail _ hp)) (all_lt (by assumption : _ ∧ AllLt _ news).2) <;> omega)
    | (refine hret _ _ _ _ _ _ _ ?e1 ?e2 (by k_asm) (cb_drop (by k_asm) (sub_head fun p hp => .tail _ (.tail _ hp))) (all_lt (by assumption : _ ∧ _ ∧ AllLt _ news).2.2) <;> omega)
    | (refine hret _ _ _ _ _ _ _ ?e1 ?e2 (by k_asm) (cb_drop (by k_asm) (sub_head fun p hp => .tail _ (.tail _ (.tail _ hp)))) (all_lt (by assumption : _ ∧ _ ∧ _ ∧ AllLt _ news).2.2.2) <;> omega)
abbrev RetT3 (v c a : Int) (news : List (Addr × Obj)) (h₀ : Heap) (L : Addr) (m : Str → Option Value) (s : Shared) (Q : Value → Shared → Prop) : Prop :=
  ∀ (D : Addr) (v' c' a' : Int) (t1 t2 t3 : Tok) h' tk', v' = v → c' = c → a' = a → Fr h₀ L h' m → News h₀ L h' ((D, tupO #[.int v' t1, .int c' t2, .int a' t3]) :: news) → (∀ p ∈ news, p.1 < D) → Q (.ref D) { s with heap := h', toks := tk' }
theorem said13 : True := by
  k_with "leaving ref" => (k_here; k_dflt (refine' leaves_D (by assumption) (by assumption) (by assumption) (by assumption) ?_; k_whole); intro _ _ _; (try k_fold))
  k_with "call ref" => (k_here; (with_reducible show wpAny _ _ (call (Value.ref 89) _) _ _ _); (rename restN _ _ _ = some _ => hR9); k_dflt (refine' Mine.c_restore _ _ _ _ _ _ _ _ (by assumption) (by assumption) (by assumption) (by first | assumption | omega) (by first | assumption | omega) (by assumption) (by assumption) _ _ _ _ _ _ _ _ _ _ _ _ _ _ _ _ _ (by k_asm) (by k_asm) (by k_asm) (by k_asm) (by k_asm) (by first | exact rfl | assumption) (by ktr_room) (by ktr_units) ⟨fun _ hx9 _ h9 tk9 _ _ => ?_, fun hx9 e9 _ _ _ h9 tk9 _ _ _ _ _ _ => (Option.some_ne_none _ (hR9.symm.trans hx9)).elim⟩; k_whole); (have e9 := Option.some.inj (hR9.symm.trans hx9)); subst e9; clear hx9; (try k_fold))
  k_with "call ref" => (k_here; (with_reducible show wpAny _ _ (call (Value.ref 68) [_, _, Value.int 8 _]) _ _ _); k_dflt (refine' Mine.g_8 _ _ _ _ _ _ _ (by assumption) (by assumption) (by assumption) (by ((try simp only [List.length_cons, List.length_nil]); omega)) _ _ _ _ _ _ _ _ _ _ _ _ _ _ _ _ _ (by k_asm) (by k_asm) (by k_asm) (by k_asm) (by k_asm) (by first | exact rfl | assumption) (by ktr_room) (by ktr_units) (fun _ _ _ _ _ _ _ hv9 ha9 _ _ l9 => ?_); k_whole); subst hv9 ha9; (try k_lt l9); (try k_fold))
  k_with "call ref" => (k_here; (with_reducible show wpAny _ _ (call (Value.ref 68) [_, _, Value.int 7 _]) _ _ _); k_dflt (refine' Mine.g_s0 _ _ _ _ _ _ (by assumption) _ _ _ _ _ _ _ _ _ _ _ _ _ _ _ _ _ (by k_asm) (by k_asm) (by k_asm) (by k_asm) (by k_asm) (by first | exact rfl | assumption) (by ktr_room) (by ktr_units) (fun _ _ _ _ _ _ _ _ _ _ _ _ => ?_); k_whole); (try k_fold))
  k_with "call ref" => (k_here; (with_reducible show wpAny _ _ (call (Value.ref 68) [_, _, Value.int 7 _]) _ _ _); k_dflt (refine' Mine.g_1 _ _ _ _ _ _ _ _ (by assumption) (by assumption) (by ((try simp only [List.length_cons, List.length_nil]); omega)) _ _ _ _ _ _ _ _ _ _ _ _ _ _ _ _ _ (by k_asm) (by k_asm) (by k_asm) (by k_asm) (by k_asm) (by first | exact rfl | assumption) (by ktr_room) (by ktr_units) (fun _ _ _ _ _ _ _ hv9 ha9 _ _ l9 => ?_); k_whole); subst hv9 ha9; (try k_lt l9); (try k_fold))
  k_with "call ref" => (k_here; (with_reducible show wpAny _ _ (call (Value.ref 68) [_, _, Value.int 7 _]) _ _ _); k_dflt (refine' Mine.g_s1 _ _ _ _ _ _ (by assumption) _ _ _ _ _ _ _ _ _ _ _ _ _ _ _ _ _ (by k_asm) (by k_asm) (by k_asm) (by k_asm) (by k_asm) (by first | exact rfl | assumption) (by ktr_room) (by ktr_units) (fun _ _ _ _ _ _ _ _ _ _ _ _ => ?_); k_whole); (try k_fold))
  k_with "call ref" => (k_here; (with_reducible show wpAny _ _ (call (Value.ref 68) [_, _, Value.int 7 _]) _ _ _); k_dflt (refine' Mine.g_2 _ _ _ _ _ _ _ _ (by assumption) (by assumption) (by assumption) (by ((try simp only [List.length_cons, List.length_nil]); omega)) _ _ _ _ _ _ _ _ _ _ _ _ _ _ _ _ _ (by k_asm) (by k_asm) (by k_asm) (by k_asm) (by k_asm) (by first | exact rfl | assumption) (by ktr_room) (by ktr_units) (fun _ _ _ _ _ _ _ hv9 ha9 _ _ l9 => ?_); k_whole); subst hv9 ha9; (try k_lt l9); (try k_fold))
  k_with "call ref" => (k_here; (with_reducible show wpAny _ _ (call (Value.ref 68) [_, _, Value.int 7 _]) _ _ _); k_dflt (refine' Mine.g_s2 _ _ _ _ _ _ _ (by assumption) (by assumption) (by assumption) _ _ _ _ _ _ _ _ _ _ _ _ _ _ _ _ _ (by k_asm) (by k_asm) (by k_asm) (by k_asm) (by k_asm) (by first | exact rfl | assumption) (by ktr_room) (by ktr_units) (fun _ _ _ _ _ _ _ _ _ _ _ _ => ?_); k_whole); (try k_fold))
  k_with "call ref" => (k_here; (with_reducible show wpAny _ _ (call (Value.ref 68) [_, _, Value.int 7 _]) _ _ _); k_dflt (refine' Mine.g_3 _ _ _ _ _ _ _ _ (by assumption) (by assumption) (by assumption) (by ((try simp only [List.length_cons, List.length_nil]); omega)) _ _ _ _ _ _ _ _ _ _ _ _ _ _ _ _ _ (by k_asm) (by k_asm) (by k_asm) (by k_asm) (by k_asm) (by first | exact rfl | assumption) (by ktr_room) (by ktr_units) (fun _ _ _ _ _ _ _ hv9 ha9 _ _ l9 => ?_); k_whole); subst hv9 ha9; (try k_lt l9); (try k_fold))
  trivial
set_option maxHeartbeats 8000000 in
theorem h_1 {w : World} {mean : ExcName → Option Value} {mg mb : Str → Option Value} (news : List (Addr × Obj)) (b : Array UInt8) (tb tg ti : Tok) (k0 g r i c : Int) (x : Int) (rest : List Int) (hb : KBw.bInts b = k0 :: x :: rest) (h0 : 0 ≤ k0) (h1 : k0 < 255) (hg : Int.fdiv g 32 = r) (hr1 : 1 ≤ r) (hr2 : r < 13) (hi1 : 0 ≤ i) (hi2 : i < 1000) (hR : restN k0 r i = some c) (hc : 0 ≤ c) (hx : x % 128 < 127) (h128 : x < 128) (hr : rest.length ≤ 4) :
    CtrE 32 w mean mg mb 103 news [.bytes b tb, .int g tg, .int i ti] (fun base h₀ L m s env outer Q E => RetT3 c (c + x % 128) 2 news h₀ L m s Q) := by
  dsimp only [CtrE, RetT3, Rz]
  k_fill
  intros
  rename_i hret
  refine wpAny_call ?_
  k_dflt cell_enter
  k_steps
  all_goals first
    | (refine hret _ _ _ _ _ _ _ _ _ ?e1 ?e2 ?e3 (by k_asm) (cb_drop (by k_asm) (sub_head fun p hp => .tail _ hp)) (all_lt (by assumption : _ ∧ AllLt _ news).2) <;> omega)
    | (refine hret _ _ _ _ _ _ _ _ _ ?e1 ?e2 ?e3 (by k_asm) (cb_drop (by k_asm) (sub_head fun p hp => .tail _ (.tail _ hp))) (all_lt (by assumption : _ ∧ _ ∧ AllLt _ news).2.2) <;> omega)
    | (refine hret _ _ _ _ _ _ _ _ _ ?e1 ?e2 ?e3 (by k_asm) (cb_drop (by k_asm) (sub_head fun p hp => .tail _ (.tail _ (.tail _ hp)))) (all_lt (by assumption : _ ∧ _ ∧ _ ∧ AllLt _ news).2.2.2) <;> omega)
set_option maxHeartbeats 8000000 in
theorem h_1n {w : World} {mean : ExcName → Option Value} {mg mb : Str → Option Value} (news : List (Addr × Obj)) (b : Array UInt8) (tb tg ti : Tok) (k0 g r i c : Int) (x : Int) (rest : List Int) (hb : KBw.bInts b = k0 :: x :: rest) (h0 : 0 ≤ k0) (h1 : k0 < 255) (hg : Int.fdiv g 32 = r) (hr1 : 1 ≤ r) (hr2 : r < 13) (hi1 : 0 ≤ i) (hi2 : i < 1000) (hR : restN k0 r i = some c) (hc : 0 ≤ c) (hx : x % 128 < 127) (h128 : 128 ≤ x) (hr : rest.length ≤ 4) (hlo : 0 ≤ c - x % 128 - 1) :
    CtrE 32 w mean mg mb 103 news [.bytes b tb, .int g tg, .int i ti] (fun base h₀ L m s env outer Q E => RetT3 c (c - x % 128 - 1) 2 news h₀ L m s Q) := by
  dsimp only [CtrE, RetT3, Rz]
  k_fill
  intros
  rename_i hret
  refine wpAny_call ?_
  k_dflt cell_enter
  k_steps
  all_goals first
    | (refine hret _ _ _ _ _ _ _ _ _ ?e1 ?e2 ?e3 (by k_asm) (cb_drop (by k_asm) (sub_head fun p hp => .tail _ hp)) (all_lt (by assumption : _ ∧ AllLt _ news).2) <;> omega)
    | (refine hret _ _ _ _ _ _ _ _ _ ?e1 ?e2 ?e3 (by k_asm) (cb_drop (by k_asm) (sub_head fun p hp => .tail _ (.tail _ hp))) (all_lt (by assumption : _ ∧ _ ∧ AllLt _ news).2.2) <;> omega)
    | (refine hret _ _ _ _ _ _ _ _ _ ?e1 ?e2 ?e3 (by k_asm) (cb_drop (by k_asm) (sub_head fun p hp => .tail _ (.tail _ (.tail _ hp)))) (all_lt (by assumption : _ ∧ _ ∧ _ ∧ AllLt _ news).2.2.2) <;> omega)
set_option maxHeartbeats 8000000 in
theorem h_1b {w : World} {mean : ExcName → Option Value} {mg mb : Str → Option Value} (news : List (Addr × Obj)) (b : Array UInt8) (tb tg ti : Tok) (k0 g r i c : Int) (x : Int) (rest : List Int) (hb : KBw.bInts b = k0 :: x :: rest) (h0 : 0 ≤ k0) (h1 : k0 < 255) (hg : Int.fdiv g 32 = r) (hr1 : 1 ≤ r) (hr2 : r < 13) (hi1 : 0 ≤ i) (hi2 : i < 1000) (hR : restN k0 r i = some c) (hc : 0 ≤ c) (hx : x % 128 < 127) (h128 : 128 ≤ x) (hr : rest.length ≤ 4) (hlo : c - x % 128 - 1 < 0) :
    CtrE 32 w mean mg mb 103 news [.bytes b tb, .int g tg, .int i ti] (fun base h₀ L m s env outer Q E => Rz 31 Code512 base h₀ L m s env outer news E) := by
  dsimp only [CtrE, RetT3, Rz]
  k_fill
  intros
  rename_i hret
  refine wpAny_call ?_
  k_dflt cell_enter
  k_steps
  all_goals first
    | exact hret _ _ _ _ _ _ _ (by assumption) (RaisedD.drop (by assumption) (sub_head fun p hp => hp)) (by assumption) (by assumption) ⟨257, by dsimp only; rw [if_neg (by decide), if_pos rfl]⟩
    | exact hret _ _ _ _ _ _ _ (by assumption) (RaisedD.drop (by assumption) (sub_head fun p hp => .tail _ hp)) (by assumption) (by assumption) ⟨257, by dsimp only; rw [if_neg (by decide), if_pos rfl]⟩
    | exact hret _ _ _ _ _ _ _ (by assumption) (RaisedD.drop (by assumption) (sub_head fun p hp => .tail _ (.tail _ hp))) (by assumption) (by assumption) ⟨257, by dsimp only; rw [if_neg (by decide), if_pos rfl]⟩
    | exact hret _ _ _ _ _ _ _ (by assumption) (RaisedD.drop (by assumption) (sub_head fun p hp => .tail _ (.tail _ (.tail _ hp)))) (by assumption) (by assumption) ⟨257, by dsimp only; rw [if_neg (by decide), if_pos rfl]⟩
set_option maxHeartbeats 8000000 in
theorem h_2 {w : World} {mean : ExcName → Option Value} {mg mb : Str → Option Value} (news : List (Addr × Obj)) (b : Array UInt8) (tb tg ti : Tok) (k0 g r i c : Int) (y : Int) (rest : List Int) (hb : KBw.bInts b = k0 :: 127 :: y :: rest) (h0 : 0 ≤ k0) (h1 : k0 < 255) (hg : Int.fdiv g 32 = r) (hr1 : 1 ≤ r) (hr2 : r < 13) (hi1 : 0 ≤ i) (hi2 : i < 1000) (hR : restN k0 r i = some c) (hc : 0 ≤ c) (hy1 : 0 ≤ y) (hy2 : y < 128) (hr : rest.length ≤ 4) :
    CtrE 32 w mean mg mb 103 news [.bytes b tb, .int g tg, .int i ti] (fun base h₀ L m s env outer Q E => RetT3 c (c + (127 + y)) 3 news h₀ L m s Q) := by
  dsimp only [CtrE, RetT3, Rz]
  k_fill
  intros
  rename_i hret
  refine wpAny_call ?_
  k_dflt cell_enter
  k_steps
  all_goals first
    | (refine hret _ _ _ _ _ _ _ _ _ ?e1 ?e2 ?e3 (by k_asm) (cb_drop (by k_asm) (sub_head fun p hp => .tail _ hp)) (all_lt (by assumption : _ ∧ AllLt _ news).2) <;> omega)
    | (refine hret _ _ _ _ _ _ _ _ _ ?e1 ?e2 ?e3 (by k_asm) (cb_drop (by k_asm) (sub_head fun p hp => .tail _ (.tail _ hp))) (all_lt (by assumption : _ ∧ _ ∧ AllLt _ news).2.2) <;> omega)
    | (refine hret _ _ _ _ _ _ _ _ _ ?e1 ?e2 ?e3 (by k_asm) (cb_drop (by k_asm) (sub_head fun p hp => .tail _ (.tail _ (.tail _ hp)))) (all_lt (by assumption : _ ∧ _ ∧ _ ∧ AllLt _ news).2.2.2) <;> omega)
set_option maxHeartbeats 8000000 in
theorem h_3 {w : World} {mean : ExcName → Option Value} {mg mb : Str → Option Value} (news : List (Addr × Obj)) (b : Array UInt8) (tb tg ti : Tok) (k0 g r i c : Int) (y : Int) (rest : List Int) (hb : KBw.bInts b = k0 :: 127 :: y :: 1 :: rest) (h0 : 0 ≤ k0) (h1 : k0 < 255) (hg : Int.fdiv g 32 = r) (hr1 : 1 ≤ r) (hr2 : r < 13) (hi1 : 0 ≤ i) (hi2 : i < 1000) (hR : restN k0 r i = some c) (hc : 0 ≤ c) (hy1 : 128 ≤ y) (hy2 : y < 256) (hr : rest.length ≤ 4) :
    CtrE 32 w mean mg mb 103 news [.bytes b tb, .int g tg, .int i ti] (fun base h₀ L m s env outer Q E => RetT3 c (c + (127 + y)) 4 news h₀ L m s Q) := by
  dsimp only [CtrE, RetT3, Rz]
  k_fill
  intros
  rename_i hret
  refine wpAny_call ?_
  k_dflt cell_enter
  k_steps
  all_goals first
    | (refine hret _ _ _ _ _ _ _ _ _ ?e1 ?e2 ?e3 (by k_asm) (cb_drop (by k_asm) (sub_head fun p hp => .tail _ hp)) (all_lt (by assumption : _ ∧ AllLt _ news).2) <;> omega)
    | (refine hret _ _ _ _ _ _ _ _ _ ?e1 ?e2 ?e3 (by k_asm) (cb_drop (by k_asm) (sub_head fun p hp => .tail _ (.tail _ hp))) (all_lt (by assumption : _ ∧ _ ∧ AllLt _ news).2.2) <;> omega)
    | (refine hret _ _ _ _ _ _ _ _ _ ?e1 ?e2 ?e3 (by k_asm) (cb_drop (by k_asm) (sub_head fun p hp => .tail _ (.tail _ (.tail _ hp)))) (all_lt (by assumption : _ ∧ _ ∧ _ ∧ AllLt _ news).2.2.2) <;> omega)
set_option maxHeartbeats 8000000 in
theorem h_s0 {w : World} {mean : ExcName → Option Value} {mg mb : Str → Option Value} (news : List (Addr × Obj)) (b : Array UInt8) (tb tg ti : Tok) (k0 g r i c : Int)  (hb : KBw.bInts b = [k0]) (h0 : 0 ≤ k0) (h1 : k0 < 255) (hg : Int.fdiv g 32 = r) (hr1 : 1 ≤ r) (hr2 : r < 13) (hi1 : 0 ≤ i) (hi2 : i < 1000) (hR : restN k0 r i = some c) (hc : 0 ≤ c)  :
    CtrE 32 w mean mg mb 103 news [.bytes b tb, .int g tg, .int i ti] (fun base h₀ L m s env outer Q E => Rz 51 NoCode base h₀ L m s env outer news E) := by
  dsimp only [CtrE, RetT3, Rz]
  k_fill
  intros
  rename_i hret
  refine wpAny_call ?_
  k_dflt cell_enter
  k_steps
  all_goals first
    | exact hret _ _ _ _ _ _ _ (by assumption) (RaisedD.drop (by assumption) (sub_head fun p hp => hp)) (by assumption) (by assumption) trivial
    | exact hret _ _ _ _ _ _ _ (by assumption) (RaisedD.drop (by assumption) (sub_head fun p hp => .tail _ hp)) (by assumption) (by assumption) trivial
    | exact hret _ _ _ _ _ _ _ (by assumption) (RaisedD.drop (by assumption) (sub_head fun p hp => .tail _ (.tail _ hp))) (by assumption) (by assumption) trivial
    | exact hret _ _ _ _ _ _ _ (by assumption) (RaisedD.drop (by assumption) (sub_head fun p hp => .tail _ (.tail _ (.tail _ hp)))) (by assumption) (by assumption) trivial
set_option maxHeartbeats 8000000 in
theorem h_s1 {w : World} {mean : ExcName → Option Value} {mg mb : Str → Option Value} (news : List (Addr × Obj)) (b : Array UInt8) (tb tg ti : Tok) (k0 g r i c : Int)  (hb : KBw.bInts b = [k0, 127]) (h0 : 0 ≤ k0) (h1 : k0 < 255) (hg : Int.fdiv g 32 = r) (hr1 : 1 ≤ r) (hr2 : r < 13) (hi1 : 0 ≤ i) (hi2 : i < 1000) (hR : restN k0 r i = some c) (hc : 0 ≤ c)  :
    CtrE 32 w mean mg mb 103 news [.bytes b tb, .int g tg, .int i ti] (fun base h₀ L m s env outer Q E => Rz 51 NoCode base h₀ L m s env outer news E) := by
  dsimp only [CtrE, RetT3, Rz]
  k_fill
  intros
  rename_i hret
  refine wpAny_call ?_
  k_dflt cell_enter
  k_steps
  all_goals first
    | exact hret _ _ _ _ _ _ _ (by assumption) (RaisedD.drop (by assumption) (sub_head fun p hp => hp)) (by assumption) (by assumption) trivial
    | exact hret _ _ _ _ _ _ _ (by assumption) (RaisedD.drop (by assumption) (sub_head fun p hp => .tail _ hp)) (by assumption) (by assumption) trivial
    | exact hret _ _ _ _ _ _ _ (by assumption) (RaisedD.drop (by assumption) (sub_head fun p hp => .tail _ (.tail _ hp))) (by assumption) (by assumption) trivial
    | exact hret _ _ _ _ _ _ _ (by assumption) (RaisedD.drop (by assumption) (sub_head fun p hp => .tail _ (.tail _ (.tail _ hp)))) (by assumption) (by assumption) trivial
set_option maxHeartbeats 8000000 in
theorem h_s2 {w : World} {mean : ExcName → Option Value} {mg mb : Str → Option Value} (news : List (Addr × Obj)) (b : Array UInt8) (tb tg ti : Tok) (k0 g r i c : Int) (y : Int) (hb : KBw.bInts b = [k0, 127, y]) (h0 : 0 ≤ k0) (h1 : k0 < 255) (hg : Int.fdiv g 32 = r) (hr1 : 1 ≤ r) (hr2 : r < 13) (hi1 : 0 ≤ i) (hi2 : i < 1000) (hR : restN k0 r i = some c) (hc : 0 ≤ c) (hy1 : 128 ≤ y) (hy2 : y < 256) :
    CtrE 32 w mean mg mb 103 news [.bytes b tb, .int g tg, .int i ti] (fun base h₀ L m s env outer Q E => Rz 51 NoCode base h₀ L m s env outer news E) := by
  dsimp only [CtrE, RetT3, Rz]
  k_fill
  intros
  rename_i hret
  refine wpAny_call ?_
  k_dflt cell_enter
  k_steps
  all_goals first
    | exact hret _ _ _ _ _ _ _ (by assumption) (RaisedD.drop (by assumption) (sub_head fun p hp => hp)) (by assumption) (by assumption) trivial
    | exact hret _ _ _ _ _ _ _ (by assumption) (RaisedD.drop (by assumption) (sub_head fun p hp => .tail _ hp)) (by assumption) (by assumption) trivial
    | exact hret _ _ _ _ _ _ _ (by assumption) (RaisedD.drop (by assumption) (sub_head fun p hp => .tail _ (.tail _ hp))) (by assumption) (by assumption) trivial
    | exact hret _ _ _ _ _ _ _ (by assumption) (RaisedD.drop (by assumption) (sub_head fun p hp => .tail _ (.tail _ (.tail _ hp)))) (by assumption) (by assumption) trivial
/-- what get_head does with these arguments -/
def GetC (_ : Bool) (w : World) (mean : ExcName → Option Value) (mg mb : Str → Option Value) (news : List (Addr × Obj)) (vs : List Value)
    (R : Heap → Heap → Addr → (Str → Option Value) → Shared → Env → List Env → (Value → Shared → Prop) → (Value → Shared → Prop) → Prop) : Prop := CtrE 32 w mean mg mb 103 news vs R
theorem said14 : True := by
  k_with "handleBy" => (k_here; (with_reducible rename Landed _ _ _ _ _ _ _ 31 _ _ _ _ _ _ _ _ _ _ => rkY); k_dflt (refine' miss_D rkY (by k_is) (fun _ => isExc31) (fun _ => isExc51) (by decide) ?_; k_whole); (try k_fold))
  k_with "handleBy" => (k_here; (with_reducible rename Landed _ _ _ _ _ _ _ 31 _ _ _ _ _ _ _ _ _ _ => rkY); k_dflt (refine' hit_as rkY (by k_is) (fun _ => isExc31) ?_; k_whole); intro _ _ _ _ _ _ _ _ _ _ _ K' _ _ _; (try k_lift K'); (try k_fold))
  k_with "handleBy" => (k_here; (with_reducible rename Landed _ _ _ _ _ _ _ 51 _ _ _ _ _ _ _ _ _ _ => rkY); k_dflt (refine' hit_0 rkY (by k_is) (fun _ => isExc51) ?_; k_whole); intro _ _ _ _ _ K' _ _ _; (try k_lift K'); (try k_fold))
  k_with "call ref" => (k_here; (with_reducible show wpAny _ _ (call (Value.ref 103) _) _ _ _); (with_reducible rename GetC true _ _ _ _ _ _ _ => hG9); k_dflt (refine' hG9 _ _ _ _ _ _ _ _ _ _ _ _ _ _ _ _ _ (by k_asm) (by k_asm) (by k_asm) (by k_asm) (by k_asm) (by first | exact rfl | assumption) (by ktr_room) (by ktr_units) (fun _ _ _ _ _ _ _ _ _ _ _ _ _ _ l9 => ?_); k_whole); (try k_lt l9); (try k_fold))
  k_with "call ref" => (k_here; (with_reducible show wpAny _ _ (call (Value.ref 103) _) _ _ _); (with_reducible rename GetC false _ _ _ _ _ _ _ => hG9); k_dflt (refine' hG9 _ _ _ _ _ _ _ _ _ _ _ _ _ _ _ _ _ (by k_asm) (by k_asm) (by k_asm) (by k_asm) (by k_asm) (by first | exact rfl | assumption) (by ktr_room) (by ktr_units) (fun _ _ _ _ _ _ _ _ _ _ _ _ => ?_); k_whole); (try k_fold))
  trivial
set_option maxHeartbeats 8000000 in
theorem j_ret {w : World} {mean : ExcName → Option Value} {mg mb : Str → Option Value} (news : List (Addr × Obj)) (b : Array UInt8) (tb tg ti : Tok) (g i : Int) (v c a : Int)
    (hget : GetC true w mean mg mb news [.bytes b tb, .int g tg, .int i ti] (fun base h₀ L m s env outer Q E => RetT3 v c a news h₀ L m s Q)) :
    CtrL 38 w mean mg mb 131 news [.bytes b tb, .int g tg, .int i ti] (fun h₀ L m s Q => RetT3 v c a news h₀ L m s Q) := by
  dsimp only [CtrL, RetT3, Rz, Ret] at hget ⊢
  k_fill
  intro dp un gd cn cs a ccd A₀ h₀ L m s Q E B F X N T hk hdp hun hret
  refine wpAny_call ?_
  k_dflt (refine' code_defS0 ?k1 ?k2 ?k3 ?k4 ?k5 ?kA ?k6 ?k7 ?k8 ?k9 ?kB ?_ ?cK ?c2 ?c3 ?c4 ?c5; (case kA => exact rfl); (case k2 => k_asm); (case k1 => k_asm); (case k3 => k_asm); (case k4 => k_asm); (case k5 => k_asm); (case k6 => k_is); (case k7 => k_is); (case k8 => ktr_room); (case k9 => exact BindsTo.of_eq rfl); (case kB => exact locs rfl); (case cK => assumption); (case c2 => exact rfl); (case c3 => exact rfl); (case c4 => exact rfl); (case c5 => decide); k_whole; intro g' L' h' FG' F' N' B' X' T' D'; (try dsimp only); (try k_lift B'); (try k_fold))
  k_steps
  all_goals (try k_data)
  all_goals first
    | exact hret _ _ _ _ _ _ _ _ _ (by assumption) (by assumption) (by assumption) (by k_asm) (by k_asm) (by assumption)
set_option maxHeartbeats 8000000 in
theorem j_short {w : World} {mean : ExcName → Option Value} {mg mb : Str → Option Value} (news : List (Addr × Obj)) (b : Array UInt8) (tb tg ti : Tok) (g i : Int) 
    (hget : GetC false w mean mg mb news [.bytes b tb, .int g tg, .int i ti] (fun base h₀ L m s env outer Q E => Rz 51 NoCode base h₀ L m s env outer news E)) :
    CtrL 38 w mean mg mb 131 news [.bytes b tb, .int g tg, .int i ti] (fun h₀ L m s Q => Ret news (fun t => .str (Str.ofString "short") t) h₀ L m s Q) := by
  dsimp only [CtrL, RetT3, Rz, Ret] at hget ⊢
  k_fill
  intro dp un gd cn cs a ccd A₀ h₀ L m s Q E B F X N T hk hdp hun hret
  refine wpAny_call ?_
  k_dflt (refine' code_defS0 ?k1 ?k2 ?k3 ?k4 ?k5 ?kA ?k6 ?k7 ?k8 ?k9 ?kB ?_ ?cK ?c2 ?c3 ?c4 ?c5; (case kA => exact rfl); (case k2 => k_asm); (case k1 => k_asm); (case k3 => k_asm); (case k4 => k_asm); (case k5 => k_asm); (case k6 => k_is); (case k7 => k_is); (case k8 => ktr_room); (case k9 => exact BindsTo.of_eq rfl); (case kB => exact locs rfl); (case cK => assumption); (case c2 => exact rfl); (case c3 => exact rfl); (case c4 => exact rfl); (case c5 => decide); k_whole; intro g' L' h' FG' F' N' B' X' T' D'; (try dsimp only); (try k_lift B'); (try k_fold))
  k_steps
  all_goals (try k_data)
  all_goals first
    | exact hret _ _ _ (by k_asm) (cb_drop (by k_asm) (fun p hp => .tail _ hp))
set_option maxHeartbeats 8000000 in
theorem j_512 {w : World} {mean : ExcName → Option Value} {mg mb : Str → Option Value} (news : List (Addr × Obj)) (b : Array UInt8) (tb tg ti : Tok) (g i : Int) 
    (hget : GetC false w mean mg mb news [.bytes b tb, .int g tg, .int i ti] (fun base h₀ L m s env outer Q E => Rz 31 Code512 base h₀ L m s env outer news E)) :
    CtrL 38 w mean mg mb 131 news [.bytes b tb, .int g tg, .int i ti] (fun h₀ L m s Q => Ret news (fun t => .int 512 t) h₀ L m s Q) := by
  dsimp only [CtrL, RetT3, Rz, Ret] at hget ⊢
  k_fill
  intro dp un gd cn cs a ccd A₀ h₀ L m s Q E B F X N T hk hdp hun hret
  refine wpAny_call ?_
  k_dflt (refine' code_defS0 ?k1 ?k2 ?k3 ?k4 ?k5 ?kA ?k6 ?k7 ?k8 ?k9 ?kB ?_ ?cK ?c2 ?c3 ?c4 ?c5; (case kA => exact rfl); (case k2 => k_asm); (case k1 => k_asm); (case k3 => k_asm); (case k4 => k_asm); (case k5 => k_asm); (case k6 => k_is); (case k7 => k_is); (case k8 => ktr_room); (case k9 => exact BindsTo.of_eq rfl); (case kB => exact locs rfl); (case cK => assumption); (case c2 => exact rfl); (case c3 => exact rfl); (case c4 => exact rfl); (case c5 => decide); k_whole; intro g' L' h' FG' F' N' B' X' T' D'; (try dsimp only); (try k_lift B'); (try k_fold))
  k_steps
  all_goals (try k_data)
  all_goals first
    | exact hret _ _ _ (by k_asm) (cb_drop (by k_asm) (fun p hp => .tail _ (.tail _ hp)))
section
variable {prog : Program} {w : World} {A : Around} {E : Value → Shared → Prop} {s : Shared} {a b n : Int} {t u : Tok} {Q : Value → Shared → Prop}
theorem and128_small : ∀ k : Fin 128, Builtin.bitAnd 128 (k.val : Int) = 0 := by decide
theorem and0 (x : Int) (h : 0 ≤ x) : Builtin.bitAnd 0 x = 0 := by
  unfold Builtin.bitAnd
  simp [h]
theorem or0 (ha : a = 0) (hb : 0 ≤ b) (h : Q (.int b s.toks) { s with toks := s.toks + 1 }) : wpAny (model prog w) A (binaryOp .BitOr (.int a t) (.int b u)) Q E s := by
  subst ha
  refine or_int ?_
  rw [bitOr_and, and0 b hb]
  simpa using h
theorem or128 (ha : a = 128) (hb : 0 ≤ b) (hb2 : b < 128) (h : Q (.int (128 + b) s.toks) { s with toks := s.toks + 1 }) : wpAny (model prog w) A (binaryOp .BitOr (.int a t) (.int b u)) Q E s := by
  subst ha
  refine or_int ?_
  have e := and128_small ⟨b.toNat, by omega⟩
  simp only [Int.toNat_of_nonneg hb] at e
  rw [bitOr_and, e]
  simpa using h
end
theorem said15 : True := by
  k_with "binaryOp BitOr int int" => (k_here; first | (refine or0 (by omega) (by omega) ?_) | (refine or128 (by omega) (by omega) (by omega) ?_))
  trivial
theorem in_one {v : Int} (h0 : 0 ≤ v) (h1 : v < 256) : KBa.In [v] := by
  intro n hn
  rcases List.mem_cons.mp hn with rfl | hn
  · exact ⟨h0, h1⟩
  · cases hn
theorem b_one {c : UInt8} {v : Int} (h : (c.toNat : Int) = v) : KBw.bInts #[c] = [v] := by
  subst h
  rfl
/-- bytes with these ints come back -/
abbrev RetB (ks : List Int) (news : List (Addr × Obj)) (h₀ : Heap) (L : Addr) (m : Str → Option Value) (s : Shared) (Q : Value → Shared → Prop) : Prop :=
  ∀ b t h' tk', KBw.bInts b = ks → Fr h₀ L h' m → News h₀ L h' news → Q (.bytes b t) { s with heap := h', toks := tk' }
set_option maxHeartbeats 8000000 in
theorem q_8 {w : World} {mean : ExcName → Option Value} {mg mb : Str → Option Value} (news : List (Addr × Obj)) (n : Int) (tn tb th : Tok) :
    Ctr 4 w mean mg mb 61 news (0 ≤ n ∧ n < 255) [.int n tn, .int 8 tb, .int 0 th] (RetB [n] news) := by
  dsimp only [Ctr, RetB]
  k_fill
  intros
  rename_i hpre hret
  obtain ⟨hn1, hn2⟩ := hpre
  refine wpAny_call ?_
  k_dflt cell_enter
  k_steps
  all_goals first
    | exact hret _ _ _ _ (b_one (by assumption)) (by k_asm) (cb_drop (by k_asm) fun p hp => .tail _ hp)
set_option maxHeartbeats 8000000 in
theorem q_7 {w : World} {mean : ExcName → Option Value} {mg mb : Str → Option Value} (news : List (Addr × Obj)) (n : Int) (tn tb th : Tok) :
    Ctr 4 w mean mg mb 61 news (0 ≤ n ∧ n < 127) [.int n tn, .int 7 tb, .int 0 th] (RetB [n] news) := by
  dsimp only [Ctr, RetB]
  k_fill
  intros
  rename_i hpre hret
  obtain ⟨hn1, hn2⟩ := hpre
  refine wpAny_call ?_
  k_dflt cell_enter
  k_steps
  all_goals first
    | exact hret _ _ _ _ (b_one (by assumption)) (by k_asm) (cb_drop (by k_asm) fun p hp => .tail _ hp)
set_option maxHeartbeats 8000000 in
theorem q_7n {w : World} {mean : ExcName → Option Value} {mg mb : Str → Option Value} (news : List (Addr × Obj)) (n : Int) (tn tb th : Tok) :
    Ctr 4 w mean mg mb 61 news (0 ≤ n ∧ n < 127) [.int n tn, .int 7 tb, .int 128 th] (RetB [128 + n] news) := by
  dsimp only [Ctr, RetB]
  k_fill
  intros
  rename_i hpre hret
  obtain ⟨hn1, hn2⟩ := hpre
  refine wpAny_call ?_
  k_dflt cell_enter
  k_steps
  all_goals first
    | exact hret _ _ _ _ (b_one (by assumption)) (by k_asm) (cb_drop (by k_asm) fun p hp => .tail _ hp)
theorem cutV_in {c r : Int} (h1 : 1 ≤ r) (h2 : r < 13) : 0 ≤ cutV c r ∧ cutV c r < 26 := by
  unfold cutV
  split
  · omega
  · have := fmod_lo c (n := 2 * r) (by omega)
    have := fmod_hi c (n := 2 * r) (by omega)
    omega
theorem said16 : True := by
  k_with "call ref" => (k_here; (with_reducible show wpAny _ _ (call (Value.ref 82) _) _ _ _); k_dflt (refine' Mine.c_cut _ _ _ _ _ _ _ _ _ _ _ _ _ _ _ _ _ _ _ _ _ _ _ (by k_asm) (by k_asm) (by k_asm) (by k_asm) (by k_asm) (by first | exact rfl | assumption) (by ktr_room) (by ktr_units) ⟨(by assumption), (by assumption), (by assumption), (by assumption), (by assumption)⟩ ?_; k_whole); intro _ _ _ _ _; (try k_fold))
  k_with "call ref" => (k_here; (with_reducible show wpAny _ _ (call (Value.ref 61) [_, Value.int 8 _, _]) _ _ _); k_dflt (refine' Mine.q_8 _ _ _ _ _ _ _ _ _ _ _ _ _ _ _ _ _ _ _ _ _ _ (by k_asm) (by k_asm) (by k_asm) (by k_asm) (by k_asm) (by first | exact rfl | assumption) (by ktr_room) (by ktr_units) ⟨(by omega), (by omega)⟩ ?_; k_whole); intro _ _ _ _ _ _ _; (try k_fold))
  k_with "call ref" => (k_here; (with_reducible show wpAny _ _ (call (Value.ref 61) [_, Value.int 7 _, Value.int 0 _]) _ _ _); k_dflt (refine' Mine.q_7 _ _ _ _ _ _ _ _ _ _ _ _ _ _ _ _ _ _ _ _ _ _ (by k_asm) (by k_asm) (by k_asm) (by k_asm) (by k_asm) (by first | exact rfl | assumption) (by ktr_room) (by ktr_units) ⟨(by omega), (by omega)⟩ ?_; k_whole); intro _ _ _ _ _ _ _; (try k_fold))
  k_with "call ref" => (k_here; (with_reducible show wpAny _ _ (call (Value.ref 61) [_, Value.int 7 _, Value.int 128 _]) _ _ _); k_dflt (refine' Mine.q_7n _ _ _ _ _ _ _ _ _ _ _ _ _ _ _ _ _ _ _ _ _ _ (by k_asm) (by k_asm) (by k_asm) (by k_asm) (by k_asm) (by first | exact rfl | assumption) (by ktr_room) (by ktr_units) ⟨(by omega), (by omega)⟩ ?_; k_whole); intro _ _ _ _ _ _ _; (try k_fold))
  trivial
/-- the head of a section, where the second number is short -/
def headS (c base r : Int) : List Int := [cutV c r, if base ≥ c then base - c else 128 + (c - base - 1)]
set_option maxHeartbeats 8000000 in
theorem r_short {w : World} {mean : ExcName → Option Value} {mg mb : Str → Option Value} (news : List (Addr × Obj)) (c base g r : Int) (tc tb tg : Tok) (hg : Int.fdiv g 32 = r) (hr1 : 1 ≤ r) (hr2 : r < 13) (hc1 : 0 ≤ c) (hc2 : c < 1000) (hb1 : base - c < 127) (hb2 : c - base - 1 < 127) :
    Ctr 10 w mean mg mb 96 news True [.int c tc, .int base tb, .int g tg] (RetB (headS c base r) news) := by
  dsimp only [Ctr, RetB]
  k_fill
  intros
  rename_i hpre hret
  have hcv := cutV_in (c := c) hr1 hr2
  refine wpAny_call ?_
  k_dflt cell_enter
  k_steps
  all_goals first
    | (refine hret _ _ _ _ ?_ (by k_asm) (by k_asm); simp only [headS]; first | (rw [if_pos (by assumption)]; assumption) | (rw [if_neg (by assumption)]; assumption))
abbrev CtrN (n : Nat) (w : World) (mean : ExcName → Option Value) (mg mb : Str → Option Value) (f : Addr) (news : List (Addr × Obj)) (vs : List Value)
    (R : Heap → Addr → (Str → Option Value) → Shared → (Value → Shared → Prop) → Prop) : Prop :=
  ∀ (dp un : Nat) (gd : Option (List Code)) (cn : Str) (cs : Scope) (a : Addr) (ccd : Value) (cl : List (Str × Addr)) (outer : List Env) (A₀ : Around) (base h₀ : Heap) (L : Addr) (m : Str → Option Value) (s : Shared) (Q E : Value → Shared → Prop),
    Below A₀ base outer h₀ → Fr h₀ L s.heap m → (Mine.hd.heap_39 w.params).In h₀ → News h₀ L s.heap news → Top Mine.hd.view_39 (looseW Mine.hd.view_39 [Str.ofString "GREATEST"]) mean mg mb h₀ → cs.kind = .function →
    dp + n < recursionLimit → un + 20 * n < cLine → R h₀ L m s Q →
      wpN (model PySem.Challenge.rw_no0059_01.row.prog w) (ktrTop dp un gd cn cs L a ccd cl outer) (call (.ref f) vs) Q E s
/-- a number that does not fit into seven bits, as it is put -/
def longB (n : Int) : List Int := if n - 127 < 128 then [127, n - 127] else [127, 128 + Int.fmod (n - 127) 128, Int.fdiv (n - 127) 128]
theorem said17 : True := by
  k_with "call type:bytes" => (k_here; (with_reducible show wpAny _ _ (call (Value.type "bytes") [Value.ref _]) _ _ _); (with_reducible rename News _ _ _ _ => n9); k_dflt (refine' ba_bytes (n9 _ (List.Mem.head _)).1 (by exact Nat.le_of_ble_eq_true rfl) ?_); intro _ _)
  trivial
theorem b_toNat {v : Int} (h0 : 0 ≤ v) (h1 : v < 256) : ((v.toNat.toUInt8.toNat : Nat) : Int) = v := by
  have h : (v.toNat.toUInt8).toNat = v.toNat := by
    first
      | (show (UInt8.ofNat v.toNat).toNat = v.toNat; rw [UInt8.toNat_ofNat']; omega)
      | (simp; omega)
  rw [h]
  omega
theorem b_two {x y : Int} (h0 : 0 ≤ x) (h1 : x < 256) (h2 : 0 ≤ y) (h3 : y < 256) : KBw.bInts (#[x.toNat.toUInt8].push y.toNat.toUInt8) = [x, y] := by
  show [((x.toNat.toUInt8.toNat : Nat) : Int), ((y.toNat.toUInt8.toNat : Nat) : Int)] = [x, y]
  rw [b_toNat h0 h1, b_toNat h2 h3]
theorem b_three {x y z : Int} (h0 : 0 ≤ x) (h1 : x < 256) (h2 : 0 ≤ y) (h3 : y < 256) (h4 : 0 ≤ z) (h5 : z < 256) : KBw.bInts ((#[x.toNat.toUInt8].push y.toNat.toUInt8).push z.toNat.toUInt8) = [x, y, z] := by
  show [((x.toNat.toUInt8.toNat : Nat) : Int), ((y.toNat.toUInt8.toNat : Nat) : Int), ((z.toNat.toUInt8.toNat : Nat) : Int)] = [x, y, z]
  rw [b_toNat h0 h1, b_toNat h2 h3, b_toNat h4 h5]
set_option maxHeartbeats 8000000 in
theorem q_long {w : World} {mean : ExcName → Option Value} {mg mb : Str → Option Value} (news : List (Addr × Obj)) (n : Int) (tn tb th : Tok) (hn1 : 127 ≤ n) (hn2 : n < 383) :
    CtrN 4 w mean mg mb 61 news [.int n tn, .int 7 tb, .int 0 th] (fun h₀ L m s Q => RetB (longB n) news h₀ L m s Q) := by
  dsimp only [CtrN, RetB]
  k_fill
  intros
  rename_i hret
  have nofold : (12321 : Nat) = 12321 := rfl
  refine wpN_call ?_
  k_dflt (refine' n_def ?k1 ?k2 ?k3 ?k4 ?k5 ?kA ?kF ?kK ?k6 ?k7 ?k8 ?k9 ?kB ?_ ?c2 ?c3 ?c4 ?c5; (case kA => exact rfl); (case kF => exact rfl); (case kK => assumption); (case k1 => k_asm); (case k2 => k_asm); (case k3 => k_asm); (case k4 => k_asm); (case k5 => k_asm); (case k6 => k_is); (case k7 => k_is); (case k8 => ktr_room); (case k9 => exact BindsTo.of_eq rfl); (case c5 => decide); (case kB => exact locs rfl); (case c2 => exact rfl); (case c3 => exact rfl); (case c4 => exact rfl); k_whole; intro g' L' h' FG' F' N' B' X' T'; (try dsimp only); (try k_lift B'))
  refine wpN_execs_append (l := [_, _]) (wpN_of ?_)
  k_fold
  k_steps
  refine wpN_execs_cons (n_Assign_Tuple_swapped (n_Tuple (n_Call ?_)))
  k_fold
  k_steps
  refine n_callWith_type ?_
  k_fold
  k_steps
  rename_i Fz Nz _
  refine n_bytearray (by assumption) (by assumption) (News.isList (by assumption) (.head _)) (by omega) (by omega) fun D h9 F9 N9 l9 => ?_
  k_fold
  k_steps
  rename_i D' _ _ _ l1' h11 F11 N11
  have l12 : ∀ p ∈ news, p.1 < D := fun p hp => l9 p (.tail _ hp)
  have N12 := cb_drop (news := (D, baO #[(128 - 1 : Int).toNat.toUInt8]) :: news) N11 (fun p hp => .tail _ (by
    rcases List.mem_cons.mp hp with rfl | hp
    · exact .head _
    · exact .tail _ (.tail _ hp)))
  clear N11 l9
  rcases (by omega : n - 127 < 128 ∨ 128 ≤ n - 127) with hc | hc
  · refine wpN_execs_cons (n_While (n_whileLoop ?_))
    k_fold
    k_steps
    refine wpN_execs_cons (n_Expr (n_Call_append ?_))
    k_fold
    k_steps
    refine And.intro ⟨_, _, rfl, (N12 _ (.head _)).1⟩ (n_callWith_builtin ?_)
    k_fold
    k_steps
    refine n_append (by assumption) N12 l12 (by omega) (by omega) (by decide) fun h13 F13 N13 => ?_
    (try dsimp only)
    clear N12 F11
    refine wpN_of ?_
    k_fold
    k_steps
    (try dsimp only)
    refine' hret _ _ _ _ ?hb ?hf ?hn
    (case hf => k_asm)
    (case hn => exact cb_drop (by k_asm) fun p hp => .tail _ hp)
    unfold longB
    rw [if_pos hc]
    exact b_two (by decide) (by decide) (by omega) (by omega)
  · refine wpN_execs_cons (n_While (n_whileLoop ?_))
    k_fold
    k_steps
    refine wpN_execs_cons (n_Expr (n_Call_append ?_))
    k_fold
    k_steps
    refine And.intro ⟨_, _, rfl, (N12 _ (.head _)).1⟩ (n_callWith_builtin ?_)
    k_fold
    k_steps
    have hm := fmod_in (x := n - (128 - 1)) (m := 128) (by decide)
    have hd : Int.fdiv (n - (128 - 1)) 128 = 1 := by rw [fd (by decide)]; omega
    refine n_append (by assumption) N12 l12 (by omega) (by omega) (by decide) fun h13 F13 N13 => ?_
    (try dsimp only)
    clear N12 F11
    refine wpN_of ?_
    k_fold
    k_steps
    refine n_whileLoop ?_
    k_fold
    k_steps
    refine wpN_execs_cons (n_Expr (n_Call_append ?_))
    k_fold
    k_steps
    (with_reducible rename News _ _ _ _ => N14)
    refine And.intro ⟨_, _, rfl, (N14 _ (.head _)).1⟩ (n_callWith_builtin ?_)
    k_fold
    k_steps
    refine n_append (by assumption) N14 l12 (by omega) (by omega) (Nat.le_of_ble_eq_true rfl) fun h15 F15 N15 => ?_
    (try dsimp only)
    clear N14
    refine wpN_of ?_
    k_fold
    k_steps
    (try dsimp only)
    refine' hret _ _ _ _ ?hb2 ?hf2 ?hn2
    (case hf2 => k_asm)
    (case hn2 => exact cb_drop (by k_asm) fun p hp => .tail _ hp)
    unfold longB
    rw [if_neg (by omega)]
    exact b_three (by decide) (by decide) (by omega) (by omega) (by omega) (by omega)
/-- a head whose second number is long -/
def headL (c base r : Int) : List Int := cutV c r :: longB (base - c)
theorem longB_len (n : Int) : (longB n).length ≤ 3 := by
  unfold longB
  split <;> simp
set_option maxHeartbeats 8000000 in
theorem r_long {w : World} {mean : ExcName → Option Value} {mg mb : Str → Option Value} (news : List (Addr × Obj)) (c base g r : Int) (tc tb tg : Tok) (hg : Int.fdiv g 32 = r) (hr1 : 1 ≤ r) (hr2 : r < 13) (hc1 : 0 ≤ c) (hc2 : c < 1000) (hb1 : 127 ≤ base - c) (hb2 : base - c < 383) :
    CtrN 10 w mean mg mb 96 news [.int c tc, .int base tb, .int g tg] (fun h₀ L m s Q => RetB (headL c base r) news h₀ L m s Q) := by
  dsimp only [CtrN, RetB]
  k_fill
  intros
  rename_i hret
  have hcv := cutV_in (c := c) hr1 hr2
  have hll := longB_len (base - c)
  refine wpN_call ?_
  k_dflt (refine' n_def ?k1 ?k2 ?k3 ?k4 ?k5 ?kA ?kF ?kK ?k6 ?k7 ?k8 ?k9 ?kB ?_ ?c2 ?c3 ?c4 ?c5; (case kA => exact rfl); (case kF => exact rfl); (case kK => assumption); (case k1 => k_asm); (case k2 => k_asm); (case k3 => k_asm); (case k4 => k_asm); (case k5 => k_asm); (case k6 => k_is); (case k7 => k_is); (case k8 => ktr_room); (case k9 => exact BindsTo.of_eq rfl); (case c5 => decide); (case kB => exact locs rfl); (case c2 => exact rfl); (case c3 => exact rfl); (case c4 => exact rfl); k_whole; intro g' L' h' FG' F' N' B' X' T'; (try dsimp only); (try k_lift B'))
  refine wpN_execs_append (l := [_]) (wpN_of ?_)
  k_fold
  k_steps
  refine wpN_execs_cons (wpN_If ?_)
  k_fold
  k_steps
  refine wpN_execs_cons (wpN_Return (wpN_BinOp (wpN_of ?_)))
  k_fold
  k_steps
  refine n_Call ?_
  k_fold
  k_steps
  refine n_callWith_K (K := Mine.hd.heap_39 w.params) (by k_dflt k_is) ?_
  k_fold
  k_steps
  k_dflt (refine' q_long _ _ _ _ _ ?p1 ?p2 _ _ _ _ _ _ _ _ _ _ _ _ _ _ _ _ _ ?B ?F ?X ?N ?T ?K ?d ?u ?_; (case p1 => omega); (case p2 => omega); (case B => k_asm); (case F => k_asm); (case X => k_asm); (case N => k_asm); (case T => k_asm); (case K => first | exact rfl | assumption); (case d => ktr_room); (case u => ktr_units); k_whole)
  intro b9 t9 h9 tk9 hb9 F9 N9
  refine wpN_of ?_
  k_fold
  k_steps
  refine' hret _ _ _ _ ?hb ?hf ?hn
  (case hf => k_asm)
  (case hn => k_asm)
  exact (by assumption : KBw.bInts _ = [cutV c r] ++ longB (base - c))
theorem c_rest_cut {w : World} {mean : ExcName → Option Value} {mg mb : Str → Option Value} (news : List (Addr × Obj)) (c g r i : Int) (tc tg ti : Tok) (hg : Int.fdiv g 32 = r) (hr1 : 1 ≤ r) (hr2 : r < 13) (hi1 : 0 ≤ i) (hi2 : i < 1000) (hc : 1 ≤ c) (hlo : i - r + 1 ≤ c) (hhi : c ≤ i + r) :
    CtrL 18 w mean mg mb 124 news [.int (cutV c r) tc, .int g tg, .int i ti] (fun h₀ L m s Q => Ret news (fun t => .int c t) h₀ L m s Q) := by
  have h := c_restored (w := w) (mean := mean) (mg := mg) (mb := mb) news (cutV c r) g r i tc tg ti hg hr1 hr2 (cutV_in hr1 hr2).1 (Int.lt_trans (cutV_in (c := c) hr1 hr2).2 (by decide)) hi1 hi2
  rw [rest_cut hr1 hr2 hi1 hc hlo hhi] at h
  exact h
theorem c_rest_zero {w : World} {mean : ExcName → Option Value} {mg mb : Str → Option Value} (news : List (Addr × Obj)) (c g r i : Int) (tc tg ti : Tok) (hc : c = 0) (hg : Int.fdiv g 32 = r) (hr1 : 1 ≤ r) (hr2 : r < 13) (hi1 : 0 ≤ i) (hi2 : i < 1000) :
    CtrL 18 w mean mg mb 124 news [.int c tc, .int g tg, .int i ti] (fun h₀ L m s Q => Ret news (fun t => .int 0 t) h₀ L m s Q) := by
  subst hc
  exact c_restored (w := w) (mean := mean) (mg := mg) (mb := mb) news 0 g r i tc tg ti hg hr1 hr2 (by decide) (by decide) hi1 hi2
/-- the value that is due for anything sent -/
def dueF (c r i : Int) : Int := if c > 0 then dueV c r i else 0
theorem c_rest_due {w : World} {mean : ExcName → Option Value} {mg mb : Str → Option Value} (news : List (Addr × Obj)) (c g r i : Int) (tc tg ti : Tok) (hg : Int.fdiv g 32 = r) (hr1 : 1 ≤ r) (hr2 : r < 13) (hi1 : 0 ≤ i) (hi2 : i < 1000) (hc : 0 < c) (hc2 : c ≤ 2 * r + 1) :
    CtrL 18 w mean mg mb 124 news [.int c tc, .int g tg, .int i ti] (fun h₀ L m s Q => Ret news (fun t => .int (dueV c r i) t) h₀ L m s Q) := by
  have h := c_restored (w := w) (mean := mean) (mg := mg) (mb := mb) news c g r i tc tg ti hg hr1 hr2 (by omega) (by omega) hi1 hi2
  rw [rest_due hr1 hr2 hi1 hc hc2] at h
  exact h
theorem r_lt {w : World} {mean : ExcName → Option Value} {mg mb : Str → Option Value} (news : List (Addr × Obj)) (c base g r : Int) (tc tb tg : Tok) (hg : Int.fdiv g 32 = r) (hr1 : 1 ≤ r) (hr2 : r < 13) (hc1 : 0 ≤ c) (hc2 : c < 1000) (hb1 : base < c) (hb2 : c - base - 1 < 127) :
    Ctr 10 w mean mg mb 96 news True [.int c tc, .int base tb, .int g tg] (RetB [cutV c r, 128 + (c - base - 1)] news) := by
  have h := r_short (w := w) (mean := mean) (mg := mg) (mb := mb) news c base g r tc tb tg hg hr1 hr2 hc1 hc2 (by omega) hb2
  rw [headS, if_neg (by omega)] at h
  exact h
theorem r_ge {w : World} {mean : ExcName → Option Value} {mg mb : Str → Option Value} (news : List (Addr × Obj)) (c base g r : Int) (tc tb tg : Tok) (hg : Int.fdiv g 32 = r) (hr1 : 1 ≤ r) (hr2 : r < 13) (hc1 : 0 ≤ c) (hc2 : c < 1000) (hb1 : c ≤ base) (hb2 : base - c < 127) :
    Ctr 10 w mean mg mb 96 news True [.int c tc, .int base tb, .int g tg] (RetB [cutV c r, base - c] news) := by
  have h := r_short (w := w) (mean := mean) (mg := mg) (mb := mb) news c base g r tc tb tg hg hr1 hr2 hc1 hc2 hb2 (by omega)
  rw [headS, if_pos (by omega)] at h
  exact h
theorem r_l2 {w : World} {mean : ExcName → Option Value} {mg mb : Str → Option Value} (news : List (Addr × Obj)) (c base g r : Int) (tc tb tg : Tok) (hg : Int.fdiv g 32 = r) (hr1 : 1 ≤ r) (hr2 : r < 13) (hc1 : 0 ≤ c) (hc2 : c < 1000) (hb1 : 127 ≤ base - c) (hb2 : base - c < 255) :
    CtrN 10 w mean mg mb 96 news [.int c tc, .int base tb, .int g tg] (fun h₀ L m s Q => RetB [cutV c r, 127, base - c - 127] news h₀ L m s Q) := by
  have h := r_long (w := w) (mean := mean) (mg := mg) (mb := mb) news c base g r tc tb tg hg hr1 hr2 hc1 hc2 hb1 (by omega)
  rw [headL, longB, if_pos (by omega)] at h
  exact h
theorem r_l3 {w : World} {mean : ExcName → Option Value} {mg mb : Str → Option Value} (news : List (Addr × Obj)) (c base g r : Int) (tc tb tg : Tok) (hg : Int.fdiv g 32 = r) (hr1 : 1 ≤ r) (hr2 : r < 13) (hc1 : 0 ≤ c) (hc2 : c < 1000) (hb1 : 255 ≤ base - c) (hb2 : base - c < 383) :
    CtrN 10 w mean mg mb 96 news [.int c tc, .int base tb, .int g tg] (fun h₀ L m s Q => RetB [cutV c r, 127, base - c - 127, 1] news h₀ L m s Q) := by
  have h := r_long (w := w) (mean := mean) (mg := mg) (mb := mb) news c base g r tc tb tg hg hr1 hr2 hc1 hc2 (by omega) hb2
  have e1 : Int.fdiv (base - c - 127) 128 = 1 := by rw [fd (by decide)]; omega
  have e2 : 128 + Int.fmod (base - c - 127) 128 = base - c - 127 := by rw [fm (by decide)]; omega
  rw [headL, longB, if_neg (by omega), e1, e2] at h
  exact h
theorem useL {n : Nat} {w : World} {mean : ExcName → Option Value} {mg mb : Str → Option Value} {f : Addr} {news : List (Addr × Obj)} {vs : List Value} {R : Heap → Addr → (Str → Option Value) → Shared → (Value → Shared → Prop) → Prop}
    {dp un : Nat} {gd : Option (List Code)} {cn : Str} {cs : Scope} {a : Addr} {ccd : Value} {A₀ : Around} {h₀ : Heap} {L : Addr} {m : Str → Option Value} {s : Shared} {Q E : Value → Shared → Prop}
    (B : Below A₀ h₀ [] h₀) (F : Fr h₀ L s.heap m) (X : (Mine.hd.heap_39 w.params).In h₀) (N : News h₀ L s.heap news) (T : Top Mine.hd.view_39 (looseW Mine.hd.view_39 [Str.ofString "GREATEST"]) mean mg mb h₀) (K : cs.kind = .function)
    (d : dp + n < recursionLimit) (u : un + 20 * n < cLine) (c : CtrL n w mean mg mb f news vs R) (h : R h₀ L m s Q) :
    wpAny (model PySem.Challenge.rw_no0059_01.row.prog w) (ktrTop dp un gd cn cs L a ccd [] []) (call (.ref f) vs) Q E s :=
  c _ _ _ _ _ _ _ _ _ _ _ _ _ _ B F X N T K d u h
theorem useC {n : Nat} {w : World} {mean : ExcName → Option Value} {mg mb : Str → Option Value} {f : Addr} {news : List (Addr × Obj)} {pre : Prop} {vs : List Value} {R : Heap → Addr → (Str → Option Value) → Shared → (Value → Shared → Prop) → Prop}
    {dp un : Nat} {gd : Option (List Code)} {cn : Str} {cs : Scope} {a : Addr} {ccd : Value} {cl : List (Str × Addr)} {outer : List Env} {A₀ : Around} {base h₀ : Heap} {L : Addr} {m : Str → Option Value} {s : Shared} {Q E : Value → Shared → Prop}
    (B : Below A₀ base outer h₀) (F : Fr h₀ L s.heap m) (X : (Mine.hd.heap_39 w.params).In h₀) (N : News h₀ L s.heap news) (T : Top Mine.hd.view_39 (looseW Mine.hd.view_39 [Str.ofString "GREATEST"]) mean mg mb h₀) (K : cs.kind = .function)
    (d : dp + n < recursionLimit) (u : un + 20 * n < cLine) (c : Ctr n w mean mg mb f news pre vs R) (p : pre) (h : R h₀ L m s Q) :
    wpAny (model PySem.Challenge.rw_no0059_01.row.prog w) (ktrTop dp un gd cn cs L a ccd cl outer) (call (.ref f) vs) Q E s :=
  c _ _ _ _ _ _ _ _ _ _ _ _ _ _ _ _ _ B F X N T K d u p h
theorem said18 : True := by
  k_with "call ref" => (k_here; (with_reducible show wpAny _ _ (call (Value.ref 117) _) _ _ _); k_dflt (refine' useL (by k_asm) (by k_asm) (by k_asm) (by k_asm) (by k_asm) (by first | exact rfl | assumption) (by ktr_room) (by ktr_units) (Mine.c_box _ _ _ (by assumption) (by (have e := IntsAre.length (by assumption)); omega) (by assumption)) ⟨(by assumption), fun _ _ _ _ _ _ _ _ => ?_⟩; k_whole); (try k_fold))
  k_with "call ref" => (k_here; (with_reducible show wpAny _ _ (call (Value.ref 110) _) _ _ _); k_dflt (refine' useL (by k_asm) (by k_asm) (by k_asm) (by k_asm) (by k_asm) (by first | exact rfl | assumption) (by ktr_room) (by ktr_units) (Mine.c_take _ _ _ _ _ (by omega) (by assumption)) (fun _ _ _ _ _ _ _ _ _ _ => ?_); k_whole); (try k_fold))
  trivial
theorem ne_self9 {a : Int} : ¬ ((a != a) = true) := by simp
theorem cutV_zero (r : Int) : cutV 0 r = 0 := rfl
theorem said19 : True := by
  k_with "ite" => (k_here; first | (refine ite_pos (by (rw [decide_eq_true_eq]; omega)) ?_; walk_say "DECIDED") | (refine ite_neg (by (rw [decide_eq_true_eq]; omega)) ?_; walk_say "DECIDED") | (refine ite_neg ne_self9 ?_; walk_say "SAME"))
  k_with "call ref" => (k_here; (with_reducible show wpAny _ _ (call (Value.ref 82) _) _ _ _); k_dflt (refine' Mine.c_cut _ _ _ _ _ _ _ _ _ _ _ _ _ _ _ _ _ _ _ _ _ _ _ (by k_asm) (by k_asm) (by k_asm) (by k_asm) (by k_asm) (by first | exact rfl | assumption) (by ktr_room) (by ktr_units) ⟨(by assumption), (by assumption), (by assumption), (by omega), (by omega)⟩ ?_; k_whole); intro _ _ _ _ _; (try simp only [cutV_zero]); (try k_fold))
  k_with "call ref" => (k_here; (with_reducible show wpAny _ _ (call (Value.ref 124) _) _ _ _); k_dflt (refine' useL (by k_asm) (by k_asm) (by k_asm) (by k_asm) (by k_asm) (by first | exact rfl | assumption) (by ktr_room) (by ktr_units) (Mine.c_rest_due _ _ _ _ _ _ _ _ (by assumption) (by assumption) (by assumption) (by assumption) (by assumption) (by omega) (by omega)) ?_; k_whole); intro _ _ _ _ _; (try k_fold))
  k_with "call ref" => (k_here; (with_reducible show wpAny _ _ (call (Value.ref 124) _) _ _ _); k_dflt (refine' useL (by k_asm) (by k_asm) (by k_asm) (by k_asm) (by k_asm) (by first | exact rfl | assumption) (by ktr_room) (by ktr_units) (Mine.c_rest_zero _ _ _ _ _ _ _ _ (by omega) (by assumption) (by assumption) (by assumption) (by assumption) (by assumption)) ?_; k_whole); intro _ _ _ _ _; (try k_fold))
  k_with "call ref" => (k_here; (with_reducible show wpAny _ _ (call (Value.ref 124) [Value.int (cutV _ _) _, _, _]) _ _ _); k_dflt (refine' useL (by k_asm) (by k_asm) (by k_asm) (by k_asm) (by k_asm) (by first | exact rfl | assumption) (by ktr_room) (by ktr_units) (Mine.c_rest_cut _ _ _ _ _ _ _ _ (by assumption) (by assumption) (by assumption) (by assumption) (by assumption) (by omega) (by omega) (by omega)) ?_; k_whole); intro _ _ _ _ _; (try k_fold))
  k_with "call ref" => (k_here; (with_reducible show wpAny _ _ (call (Value.ref 136) _) _ _ _); k_dflt (refine' useL (by k_asm) (by k_asm) (by k_asm) (by k_asm) (by k_asm) (by first | exact rfl | assumption) (by ktr_room) (by ktr_units) (Mine.c_due _ _ _ _ _ _ _ (by assumption) (by assumption) (by omega) (by omega) (by assumption) (by assumption)) ?_; k_whole); intro _ _ _ _ _; (try k_fold))
  k_with "call ref" => (k_here; (with_reducible show wpAny _ _ (call (Value.ref 131) _) _ _ _); k_dflt (refine' useL (by k_asm) (by k_asm) (by k_asm) (by k_asm) (by k_asm) (by first | exact rfl | assumption) (by ktr_room) (by ktr_units) (Mine.j_512 _ _ _ _ _ _ _ (Mine.h_1b _ _ _ _ _ _ _ _ _ _ _ _ (by assumption) (by assumption) (by assumption) (by assumption) (by assumption) (by assumption) (by assumption) (by assumption) (by assumption) (by omega) (by omega) (by omega) (by first | decide | exact Nat.le_of_ble_eq_true rfl | (simp; done)) (by omega))) ?_; k_whole); intro _ _ _ _ _; (try k_fold))
  k_with "call ref" => (k_here; (with_reducible show wpAny _ _ (call (Value.ref 131) _) _ _ _); k_dflt (refine' useL (by k_asm) (by k_asm) (by k_asm) (by k_asm) (by k_asm) (by first | exact rfl | assumption) (by ktr_room) (by ktr_units) (Mine.j_short _ _ _ _ _ _ _ (Mine.h_s2 _ _ _ _ _ _ _ _ _ _ _ (by assumption) (by assumption) (by assumption) (by assumption) (by assumption) (by assumption) (by assumption) (by assumption) (by assumption) (by omega) (by omega) (by omega))) ?_; k_whole); intro _ _ _ _ _; (try k_fold))
  k_with "call ref" => (k_here; (with_reducible show wpAny _ _ (call (Value.ref 131) _) _ _ _); k_dflt (refine' useL (by k_asm) (by k_asm) (by k_asm) (by k_asm) (by k_asm) (by first | exact rfl | assumption) (by ktr_room) (by ktr_units) (Mine.j_short _ _ _ _ _ _ _ (Mine.h_s1 _ _ _ _ _ _ _ _ _ _ (by assumption) (by assumption) (by assumption) (by assumption) (by assumption) (by assumption) (by assumption) (by assumption) (by assumption) (by omega) )) ?_; k_whole); intro _ _ _ _ _; (try k_fold))
  k_with "call ref" => (k_here; (with_reducible show wpAny _ _ (call (Value.ref 131) _) _ _ _); k_dflt (refine' useL (by k_asm) (by k_asm) (by k_asm) (by k_asm) (by k_asm) (by first | exact rfl | assumption) (by ktr_room) (by ktr_units) (Mine.j_short _ _ _ _ _ _ _ (Mine.h_s0 _ _ _ _ _ _ _ _ _ _ (by assumption) (by assumption) (by assumption) (by assumption) (by assumption) (by assumption) (by assumption) (by assumption) (by assumption) (by omega) )) ?_; k_whole); intro _ _ _ _ _; (try k_fold))
  k_with "call ref" => (k_here; (with_reducible show wpAny _ _ (call (Value.ref 131) _) _ _ _); k_dflt (refine' useL (by k_asm) (by k_asm) (by k_asm) (by k_asm) (by k_asm) (by first | exact rfl | assumption) (by ktr_room) (by ktr_units) (Mine.j_ret _ _ _ _ _ _ _ _ _ _ (Mine.h_3 _ _ _ _ _ _ _ _ _ _ _ _ (by assumption) (by assumption) (by assumption) (by assumption) (by assumption) (by assumption) (by assumption) (by assumption) (by assumption) (by omega) (by omega) (by omega) (by first | decide | exact Nat.le_of_ble_eq_true rfl | (simp; done)))) ?_; k_whole); intro _ _ _ _ _ _ _ _ _ hv9 hc9 ha9 _ _ l9; subst hv9 hc9 ha9; (try k_lt l9); (try k_fold))
  k_with "call ref" => (k_here; (with_reducible show wpAny _ _ (call (Value.ref 131) _) _ _ _); k_dflt (refine' useL (by k_asm) (by k_asm) (by k_asm) (by k_asm) (by k_asm) (by first | exact rfl | assumption) (by ktr_room) (by ktr_units) (Mine.j_ret _ _ _ _ _ _ _ _ _ _ (Mine.h_2 _ _ _ _ _ _ _ _ _ _ _ _ (by assumption) (by assumption) (by assumption) (by assumption) (by assumption) (by assumption) (by assumption) (by assumption) (by assumption) (by omega) (by omega) (by omega) (by first | decide | exact Nat.le_of_ble_eq_true rfl | (simp; done)))) ?_; k_whole); intro _ _ _ _ _ _ _ _ _ hv9 hc9 ha9 _ _ l9; subst hv9 hc9 ha9; (try k_lt l9); (try k_fold))
  k_with "call ref" => (k_here; (with_reducible show wpAny _ _ (call (Value.ref 131) _) _ _ _); k_dflt (refine' useL (by k_asm) (by k_asm) (by k_asm) (by k_asm) (by k_asm) (by first | exact rfl | assumption) (by ktr_room) (by ktr_units) (Mine.j_ret _ _ _ _ _ _ _ _ _ _ (Mine.h_1n _ _ _ _ _ _ _ _ _ _ _ _ (by assumption) (by assumption) (by assumption) (by assumption) (by assumption) (by assumption) (by assumption) (by assumption) (by assumption) (by omega) (by omega) (by omega) (by first | decide | exact Nat.le_of_ble_eq_true rfl | (simp; done)) (by omega))) ?_; k_whole); intro _ _ _ _ _ _ _ _ _ hv9 hc9 ha9 _ _ l9; subst hv9 hc9 ha9; (try k_lt l9); (try k_fold))
  k_with "call ref" => (k_here; (with_reducible show wpAny _ _ (call (Value.ref 131) _) _ _ _); k_dflt (refine' useL (by k_asm) (by k_asm) (by k_asm) (by k_asm) (by k_asm) (by first | exact rfl | assumption) (by ktr_room) (by ktr_units) (Mine.j_ret _ _ _ _ _ _ _ _ _ _ (Mine.h_1 _ _ _ _ _ _ _ _ _ _ _ _ (by assumption) (by assumption) (by assumption) (by assumption) (by assumption) (by assumption) (by assumption) (by assumption) (by assumption) (by omega) (by omega) (by omega) (by first | decide | exact Nat.le_of_ble_eq_true rfl | (simp; done)))) ?_; k_whole); intro _ _ _ _ _ _ _ _ _ hv9 hc9 ha9 _ _ l9; subst hv9 hc9 ha9; (try k_lt l9); (try k_fold))
  k_with "call ref" => (k_here; (with_reducible show wpAny _ _ (call (Value.ref 96) _) _ _ _); k_dflt (refine' useC (by k_asm) (by k_asm) (by k_asm) (by k_asm) (by k_asm) (by first | exact rfl | assumption) (by ktr_room) (by ktr_units) (Mine.r_lt _ _ _ _ _ _ _ _ (by assumption) (by assumption) (by assumption) (by omega) (by omega) (by omega) (by omega)) trivial ?_; k_whole); intro _ _ _ _ _ _ _; (try k_fold))
  k_with "call ref" => (k_here; (with_reducible show wpAny _ _ (call (Value.ref 96) _) _ _ _); k_dflt (refine' useC (by k_asm) (by k_asm) (by k_asm) (by k_asm) (by k_asm) (by first | exact rfl | assumption) (by ktr_room) (by ktr_units) (Mine.r_ge _ _ _ _ _ _ _ _ (by assumption) (by assumption) (by assumption) (by omega) (by omega) (by omega) (by omega)) trivial ?_; k_whole); intro _ _ _ _ _ _ _; (try k_fold))
  trivial
set_option maxHeartbeats 16000000 in
theorem walk : PySem.Challenge.rw_no0059_01.Holds := by
  refine hd ?_
  k_fill
  intro w s₀ s₁ mg mb G Y fa o pm cd doc dV kV ho hd hcd hD hmg hg args vals as hpre hlay hrd hwl hlo
  have KX := kIn_of Y
  have X := (Ground.X G).1
  refine Ground.open G ?_
  intro T B D TE TW
  try (refine guard_noD D (by decide +kernel) ?_; clear D)
  obtain ⟨_, _, M⟩ := bmod_of_top T
  have TA := at_of_top T
  try (obtain ⟨_, _, he, B0⟩ := based_of_top T rfl hmg ho hd; have he' : cd = _ := he; subst he'; clear he)
  clear hmg
  wrow_args hpre hlay hrd hwl hlo
  have he := Dflts.none hD rfl
  subst he
  refine wpN_call (n_full (by decide) ho hd (Top.nolimit T) hcd (BindsTo.of_eq rfl) (locs rfl) fun h₁ F N => ?_)
  have K0 := below_caller s₁.heap
  clear hd hcd ho hD B TE TW M TA B0 X G Y
  refine wpN_execs_append (l := [_, _, _]) (wpN_of ?_)
  k_fold
  k_steps
  rename_i B X h_1 k_1 n_1 bx_1 h_2 tk_1 a ta h_3 k_3 n_3 alo ahi bx_3 q1 e1 b tb h_4 k_4 n_4 blo bhi bx_4 q2 e2 i ti h_5 k_5 n_5 ilo ihi bx D h_6 l1 h_7 h_8 h_9 h_10 F N
  clear qk ek q2 e2 q1 e1
  replace N := cb_drop (news := n_5) N (fun p hp => .tail _ hp)
  clear l1 bx_1 bx_3 bx_4
  have hr0 : Int.fdiv (32 * (1 + a) + b) 32 = 1 + a := by rw [fd (by decide)]; omega
  generalize hgd : 32 * (1 + a) + b = g at F hr0
  generalize hgr : Int.fdiv g 32 = r at F hr0
  have hr1 : 1 ≤ r := by omega
  have hr2 : r < 13 := by omega
  have hi2 : i < 1000 := by omega
  refine wpN_execs_append (l := [_]) (wpN_of ?_)
  k_fold
  k_steps
  clear N F
  rename_i tk9 _ _ _ _ _ _ _ h_11 _ F N
  refine wpN_execs_append (l := [_]) (wpN_of ?_)
  k_with "pyIter ref" => k_search (fun pre => True)
  k_fold
  k_steps
  refine wpN_execs_append (l := [_]) (wpN_of ?_)
  k_with "pyIter ref" => k_search (fun pre => True)
  k_fold
  k_steps
  refine wpN_execs_append (l := [_, _]) (wpN_of ?_)
  k_fold
  k_steps
  rename_i x tx h_20 k_20 n_20 xlo xhi bx2 h_21 F N
  have hcx : ∃ c, (if i - r + 1 > 1 then i - r + 1 else 1) + x = c ∧ 1 ≤ c ∧ i - r + 1 ≤ c ∧ c ≤ i + r := ⟨_, rfl, by omega, by omega, by omega⟩
  obtain ⟨c, hcd, hc1, hc2, hc3⟩ := hcx
  rw [hcd] at F
  clear xlo xhi hcd
  have hR : restN (cutV c r) r i = some c := rest_cut hr1 hr2 ilo hc1 hc2 hc3
  have hcv0 := (cutV_in (c := c) hr1 hr2).1
  have hcv1 : cutV c r < 255 := Int.lt_trans (cutV_in (c := c) hr1 hr2).2 (by decide)
  have hi60 : i < 60 := ihi
  refine' (let m1 : Str → Option Value := _; ?_)
  rotate_left
  change Fr _ _ _ m1 at F
  refine wpN_execs_cons (n_For ?_)
  k_fold
  k_steps
  rename_i y ty h_30 k_30 n_30 ylo yhi bx3 D3 h_31 F3 N3 l3
  have N4 := cb_drop (news := [_]) N3 (fun p hp => by rcases List.mem_cons.mp hp with rfl | hp; exact .head _; cases hp)
  clear N3 bx bx2 bx3 l3
  refine n_ints (d := Str.ofString "data") (vs := [_, _, _, _]) (.cons _ _ (.cons _ _ (.cons _ _ (.cons _ _ .nil)))) (fun n => 0 ≤ n ∧ (n = 0 ∨ n = c - 1 ∨ (c ≤ n ∧ n < c + 300))) ?hP rfl rfl rfl F3 N4 ?turn ?done
  case hP =>
    intro n hn
    simp only [List.mem_cons, List.not_mem_nil, or_false] at hn
    rcases hn with rfl | rfl | rfl | rfl <;> ((try dsimp only); omega)
  case turn =>
    clear N4 F3
    intro n t u I oI h tk2 hP F N hID
    obtain ⟨hn0, hPn⟩ := hP
    rcases (by omega : n < c ∨ (c ≤ n ∧ n - c < 127) ∨ (127 ≤ n - c ∧ n - c < 255) ∨ (255 ≤ n - c ∧ n - c < 300)) with hk | hk | hk | hk
    · refine wpN_of ?_
      k_fold
      k_steps
      all_goals first
        | exact TurnEnd.intro (by k_asm) (cb_drop (by k_asm) fun p hp => .tail _ (.tail _ hp)) (fun y h1 h2 => (if_neg h2).trans ((if_neg h1).trans (if_neg h2)))
        | exact TurnEnd.intro (by k_asm) (cb_drop (by k_asm) fun p hp => .tail _ (.tail _ hp)) (fun y h1 h2 => by simp only [if_neg h2, if_neg h1])
        | (refine TurnEnd.intro (by k_asm) (cb_drop (by k_asm) fun p hp => .tail _ (.tail _ hp)) (fun y h1 h2 => ?_); (try dsimp only); (simp only [h1, h2, if_false]; done))
        | (exfalso; (rename (_ && _) = false => ha9); simp only [Bool.and_eq_false_iff, beq_eq_false_iff_ne, ne_eq, List.length_cons, List.length_nil] at ha9; omega)
    · refine wpN_of ?_
      k_fold
      k_steps
      all_goals first
        | exact TurnEnd.intro (by k_asm) (cb_drop (by k_asm) fun p hp => .tail _ (.tail _ hp)) (fun y h1 h2 => (if_neg h2).trans ((if_neg h1).trans (if_neg h2)))
        | exact TurnEnd.intro (by k_asm) (cb_drop (by k_asm) fun p hp => .tail _ (.tail _ hp)) (fun y h1 h2 => by simp only [if_neg h2, if_neg h1])
        | (refine TurnEnd.intro (by k_asm) (cb_drop (by k_asm) fun p hp => .tail _ (.tail _ hp)) (fun y h1 h2 => ?_); (try dsimp only); (simp only [h1, h2, if_false]; done))
        | (exfalso; (rename (_ && _) = false => ha9); simp only [Bool.and_eq_false_iff, beq_eq_false_iff_ne, ne_eq, List.length_cons, List.length_nil] at ha9; omega)
    · refine wpN_execs_cons (wpN_Assign_Name (n_Call ?_) rfl)
      k_fold
      k_steps
      refine n_callWith_K (K := Mine.hd.heap_39 w.params) (by k_dflt k_is) ?_
      k_fold
      k_steps
      k_dflt (refine' r_l2 _ _ _ _ _ _ _ _ hgr hr1 hr2 ?pa1 ?pa2 ?pa3 ?pa4 _ _ _ _ _ _ _ _ _ _ _ _ _ _ _ _ _ ?Ba ?Fa ?Xa ?Na ?Ta ?Ka ?da ?ua ?_; (case pa1 => omega); (case pa2 => omega); (case pa3 => omega); (case pa4 => omega); (case Ba => k_asm); (case Fa => k_asm); (case Xa => k_asm); (case Na => k_asm); (case Ta => k_asm); (case Ka => exact rfl); (case da => ktr_room); (case ua => ktr_units); k_whole)
      intro b9 t9 h9 tk9 hb9 F9 N9
      k_fold
      k_steps
      refine wpN_of ?_
      k_fold
      k_steps
      all_goals first
        | exact TurnEnd.intro (by k_asm) (cb_drop (by k_asm) fun p hp => .tail _ (.tail _ hp)) (fun y h1 h2 => (if_neg h2).trans ((if_neg h1).trans (if_neg h2)))
        | exact TurnEnd.intro (by k_asm) (cb_drop (by k_asm) fun p hp => .tail _ (.tail _ hp)) (fun y h1 h2 => by simp only [if_neg h2, if_neg h1])
        | (refine TurnEnd.intro (by k_asm) (cb_drop (by k_asm) fun p hp => .tail _ (.tail _ hp)) (fun y h1 h2 => ?_); (try dsimp only); (simp only [h1, h2, if_false]; done))
        | (exfalso; (rename (_ && _) = false => ha9); simp only [Bool.and_eq_false_iff, beq_eq_false_iff_ne, ne_eq, List.length_cons, List.length_nil] at ha9; omega)
    · refine wpN_execs_cons (wpN_Assign_Name (n_Call ?_) rfl)
      k_fold
      k_steps
      refine n_callWith_K (K := Mine.hd.heap_39 w.params) (by k_dflt k_is) ?_
      k_fold
      k_steps
      k_dflt (refine' r_l3 _ _ _ _ _ _ _ _ hgr hr1 hr2 ?pb1 ?pb2 ?pb3 ?pb4 _ _ _ _ _ _ _ _ _ _ _ _ _ _ _ _ _ ?Bb ?Fb ?Xb ?Nb ?Tb ?Kb ?db ?ub ?_; (case pb1 => omega); (case pb2 => omega); (case pb3 => omega); (case pb4 => omega); (case Bb => k_asm); (case Fb => k_asm); (case Xb => k_asm); (case Nb => k_asm); (case Tb => k_asm); (case Kb => exact rfl); (case db => ktr_room); (case ub => ktr_units); k_whole)
      intro b9 t9 h9 tk9 hb9 F9 N9
      k_fold
      k_steps
      refine wpN_of ?_
      k_fold
      k_steps
      all_goals first
        | exact TurnEnd.intro (by k_asm) (cb_drop (by k_asm) fun p hp => .tail _ (.tail _ hp)) (fun y h1 h2 => (if_neg h2).trans ((if_neg h1).trans (if_neg h2)))
        | exact TurnEnd.intro (by k_asm) (cb_drop (by k_asm) fun p hp => .tail _ (.tail _ hp)) (fun y h1 h2 => by simp only [if_neg h2, if_neg h1])
        | (refine TurnEnd.intro (by k_asm) (cb_drop (by k_asm) fun p hp => .tail _ (.tail _ hp)) (fun y h1 h2 => ?_); (try dsimp only); (simp only [h1, h2, if_false]; done))
        | (exfalso; (rename (_ && _) = false => ha9); simp only [Bool.and_eq_false_iff, beq_eq_false_iff_ne, ne_eq, List.length_cons, List.length_nil] at ha9; omega)
  case done =>
    intro h tk2 u1 u2 F
    have N : News s₁.heap s₁.heap.objs.size h [] := fun _ hp => nomatch hp
    clear N4 F3
    dsimp only
    refine wpN_of ?_
    k_fold
    repeat (first | (k_unfold; (try dsimp only)) | ((fail_if_success (with_reducible show wpAny _ _ (call (Value.ref 131) _) _ _ _)); first | walk1 | (dsimp only; walk1)))
    (rename KBw.bInts (_ ++ _) = _ => hka)
    (rename ((UInt8.toNat _ : Nat) : Int) = _ => hkb)
    simp only [List.map_cons, List.map_nil, hkb] at hka
    k_steps
    refine GoodW.toG ?_
    wrow_close
end Mine
theorem PySem.Challenge.cw_no0059_01_holds : PySem.Challenge.rw_no0059_01.Holds :=
  Mine.walk
