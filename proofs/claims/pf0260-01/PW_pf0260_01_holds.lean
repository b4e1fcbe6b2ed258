import PyProof.Rows.All
import Wide.All
import OpenK.AllK
import Wide.FinOn
import PyProof.ExcInit
import PyProof.ExcBaseAll.Exception
import KE.BytesMake
import PyProof.FactsAll.tuple_3
import PyProof.Rows.BitMore
import Lean
import PySem.Challenge.RW_pf0260_01
open PySem PySem.Spec PySem.Calls PySem.W PyProof.Rows
set_option Elab.async false
set_option maxRecDepth 100000
set_option rowWalk.seconds 0
namespace Mine
abbrev Val := PySem.Value
abbrev PStr := PySem.Str
abbrev Led := List (Addr × Obj)

-- part X1
/-- a decoder that may hold a bytearray -/
def decC : Code → Bool
  | .builtin id _ => Builtin.Bytes.decodersThatHold.contains id
  | _ => false
def Clean (l : List (Code × PySem.Pos)) : Prop := ∀ x ∈ l, decC x.1 = false
/-- within A, and no decoder runs -/
structure GIn (Γ : PySem.Ctx) (A : Around) : Prop where
  inn : Γ.In A
  code : decC Γ.code = false
  below : Clean Γ.below
def wpC {α : Type} (M : Model) (A : Around) (t : Sem α) (Q : α → Shared → Prop) (E : Val → Shared → Prop) (s : Shared) : Prop :=
  ∀ Γ p, GIn Γ A → Sem.wp M Γ t (fun a _ s' => Q a s') (fun e _ s' => E e s') p s
def codeC (M : Model) (A : Around) (c : Code) (R : Result → Shared → Prop) (s : Shared) : Prop :=
  ∀ Γ p, Γ.code = c → Γ.Below A → Clean Γ.below → wpCode M Γ R p s
section
variable {α β : Type} {M : Model} {A : Around} {E : Val → Shared → Prop} {s : Shared} {env : Env}
theorem of_any {t : Sem α} {Q : α → Shared → Prop} (h : wpAny M A t Q E s) : wpC M A t Q E s := fun Γ p g => h Γ p g.inn
theorem code_of_any {c : Code} {R : Result → Shared → Prop} (h : codeAny M A c R s) : codeC M A c R s := fun Γ p e b _ => h Γ p e b
theorem wpC_pure {a : α} {Q : α → Shared → Prop} (h : Q a s) : wpC M A (pure a) Q E s := fun _ _ _ => h
theorem wpC_mono {t : Sem α} {Q Q' : α → Shared → Prop} {E' : Val → Shared → Prop} (h : wpC M A t Q E s) (hQ : ∀ a s, Q a s → Q' a s) (hE : ∀ e s, E e s → E' e s) : wpC M A t Q' E' s :=
  fun Γ p g => Sem.wp_mono M Γ t (fun a _ s => hQ a s) (fun e _ s => hE e s) p s (h Γ p g)
theorem wpC_bind {m : Sem α} {f : α → Sem β} {Q : β → Shared → Prop} (h : wpC M A m (fun a s' => wpC M A (f a) Q E s') E s) : wpC M A (m >>= f) Q E s := fun Γ p g => by
  rw [Sem.wp_bind']
  exact Sem.wp_mono M Γ m (fun a p' s' h' => h' Γ p' g) (fun _ _ _ h' => h') p s (h Γ p g)
theorem wpC_onRaise {m : Sem α} {k : Val → Sem Unit} {Q : α → Shared → Prop} (h : wpC M A m Q (fun e s' => wpAny M A (k e) (fun _ s'' => E e s'') E s') s) : wpC M A (m.onRaise k) Q E s := fun Γ p g => by
  rw [Sem.wp_onRaise]
  exact Sem.wp_mono M Γ m (fun _ _ _ h' => h') (fun e p' s' h' => h' Γ p' g.inn) p s (h Γ p g)
theorem wpC_holding {vs : List Val} {m : Sem α} {Q : α → Shared → Prop} (h : wpC M A m Q E s) : wpC M A (holding vs m) Q E s := fun Γ p g => by
  rw [Sem.wp_holding]; exact h Γ p g
theorem wpC_keep {vs : List Val} {m : Sem α} {Q : α → Shared → Prop} (h : wpC M A m Q E s) : wpC M A (m.keep vs) Q E s := fun Γ p g => by
  rw [Sem.wp_keep]; exact h Γ p g
theorem clean_cons {c : Code} {p : PySem.Pos} {l : List (Code × PySem.Pos)} (h : decC c = false) (hl : Clean l) : Clean ((c, p) :: l) := fun x hx => by
  rcases List.mem_cons.mp hx with rfl | hx
  · exact h
  · exact hl x hx
theorem wpC_run {c : Code} {h : Option Val} {Q : Flow → Shared → Prop}
    (hc : codeC M (A.mark h) c (fun r s' => match r with | .ok f => Q f s' | .error e => E e s') s) (hnb : h ≠ some byPass := by intro x; cases x) : wpC M A (run c h) Q E s :=
  fun Γ p g => by rw [Sem.wp_run]; exact hc _ p rfl (g.inn.enter c h p hnb) (clean_cons g.code g.below)
theorem wpC_runValue {c : Code} {Q : Val → Shared → Prop}
    (hc : codeC M A c (fun r s' => match r with | .ok (.ret v) => Q v s' | .ok _ => False | .error e => E e s') s) : wpC M A (runValue c) Q E s :=
  fun Γ p g => by rw [Sem.wp_runValue]; exact hc _ p rfl (g.inn.enter c none p (by intro x; cases x)) (clean_cons g.code g.below)
theorem wpC_call {f : Val} {pos : List Val} {kw : List (PStr × Val)} {Q : Val → Shared → Prop}
    (hc : codeC M A (.call f ⟨pos, kw⟩) (fun r s' => match r with | .ok (.ret v) => Q v s' | .ok _ => False | .error e => E e s') s) : wpC M A (call f pos kw) Q E s := wpC_runValue hc
theorem codeC_of_tree {c : Code} {R : Result → Shared → Prop} (hd : decC c = false)
    (h : wpC M (A.under c) (M.den c) (fun fin s' => match fin with | .done f => R (.ok f) s' | .again c' => c'.quiet = true ∧ codeC M A c' R s') (fun e s' => R (.error e) s') s) : codeC M A c R s := fun Γ p hc hΓ hb => by
  rw [wpCode_iff_wp, hc]
  refine Sem.wp_mono M Γ _ (fun fin p' s' h' => ?_) (fun _ _ _ h' => h') p s (h Γ p ⟨hc ▸ hΓ.in, hc ▸ hd, hb⟩)
  cases fin with
  | done f => exact h'
  | again c' => exact ⟨h'.1, h'.2 (Γ.goto c') p' rfl (hΓ.goto c') hb⟩
-- statements and expressions
theorem execsC_cons {st : Stmt} {rest : List Stmt} {Q : Flow → Shared → Prop}
    (h : wpC M A (exec st env) (fun f s' => match f with | .next => wpC M A (execs rest env) Q E s' | f => Q f s') E s) : wpC M A (execs (st :: rest) env) Q E s := fun Γ p g => by
  rw [execs_cons, Sem.wp_bind']
  refine Sem.wp_mono M Γ _ (fun f p' s' h' => ?_) (fun _ _ _ h' => h') _ _ (h Γ p g)
  cases f <;> first | exact h' Γ p' g | exact h'
theorem ReturnC {e : PySem.Expr} {pos : PySem.Pos} {Q : Flow → Shared → Prop} (h : wpC M A (eval e env) (fun v => Q (.ret v)) E s) : wpC M A (exec (.Return (some e) pos) env) Q E s := fun Γ p g => by
  simp only [exec_Return_some, Sem.wp_bind', Sem.wp_cmd_standAt, Sem.wp_pure']; exact h Γ _ g
theorem BinOpC {l r : PySem.Expr} {op : Operator} {pos : PySem.Pos} {Q : Val → Shared → Prop}
    (h : wpC M A (eval l env) (fun a s₁ => wpC M A (eval r env) (fun b s₂ => wpAny M A (binaryOp op a b) Q E s₂) E s₁) E s) : wpC M A (eval (.BinOp l op r pos) env) Q E s := fun Γ p g => by
  simp only [eval_BinOp, Sem.wp_bind', Sem.wp_holding, Sem.wp_cmd_standAt, Sem.wp_operate]
  exact Sem.wp_mono M Γ _ (fun a p₁ s₁ h₁ => Sem.wp_mono M Γ _ (fun b _ s₂ h₂ => h₂ Γ _ g.inn) (fun _ _ _ h' => h') _ _ (h₁ Γ p₁ g)) (fun _ _ _ h' => h') _ _ (h Γ p g)
theorem CompareC {l r : PySem.Expr} {op : CmpOp} {pos : PySem.Pos} {whole : Sem Val} {Q : Bool → Shared → Prop}
    (h : wpC M A (eval l env) (fun a s₁ => wpAny M A (eval r env) (fun b s₂ => wpAny M A (compareOp op a b) (fun c s₃ => wpAny M A (truthy c) Q E s₃) E s₂) E s₁) E s)
    (hm : behindInMarks op r = false := by with_unfolding_all rfl) : wpC M A (isTrue (.Compare l [op] [r] pos) env whole) Q E s := fun Γ p g => by
  simp only [isTrue_Compare1, markedBehindIn_of_false hm, Sem.wp_bind', Sem.wp_holding, Sem.wp_cmd_standAt, Sem.wp_operate]
  exact Sem.wp_mono M Γ _ (fun a p₁ s₁ h₁ => Sem.wp_mono M Γ _ (fun b _ s₂ h₂ => Sem.wp_mono M Γ _ (fun c p₃ s₃ h₃ => h₃ Γ p₃ g.inn)
    (fun _ _ _ h' => h') _ _ (h₂ Γ _ g.inn)) (fun _ _ _ h' => h') _ _ (h₁ Γ p₁ g.inn)) (fun _ _ _ h' => h') _ _ (h Γ p g)
theorem IfC {test : PySem.Expr} {body orelse : List Stmt} {pos : PySem.Pos} {Q : Flow → Shared → Prop}
    (h : wpC M A (isTrue test env (eval test env)) (fun b s₂ => if b then wpC M A (execs body env) Q E s₂ else wpC M A (execs orelse env) Q E s₂) E s) : wpC M A (exec (.If test body orelse pos) env) Q E s := fun Γ p g => by
  simp only [exec_If, Sem.wp_bind', Sem.wp_cmd_standAt]
  refine Sem.wp_mono M Γ _ (fun b p₂ s₂ h₂ => ?_) (fun _ _ _ h' => h') _ _ (h Γ _ g)
  cases b <;> exact h₂ Γ p₂ g
theorem AssignC {x : PStr} {pos' pos : PySem.Pos} {value : PySem.Expr} {Q : Flow → Shared → Prop}
    (h : wpC M A (eval value env) (fun v s₁ => wpAny M A (storeName env x v) (fun _ => Q .next) E s₁) E s)
    (hs : swapsWith value (some (.Name x pos')) pos.line env = pure false := by rfl) : wpC M A (exec (.Assign [.Name x pos'] value pos) env) Q E s := fun Γ p g => by
  simp only [exec_Assign_Name env x pos' value pos hs, Sem.wp_bind', Sem.wp_cmd_standAt, Sem.wp_bindName, Sem.wp_pure']
  exact Sem.wp_mono M Γ _ (fun v _ s₁ h₁ => h₁ Γ _ g.inn) (fun _ _ _ h' => h') _ _ (h Γ _ g)
theorem BoolOpC {op : BoolOp} {values : List PySem.Expr} {pos : PySem.Pos} {whole : Sem Val} {Q : Bool → Shared → Prop} (h : wpC M A (allTrue op values env) Q E s) : wpC M A (isTrue (.BoolOp op values pos) env whole) Q E s := by
  rw [arm_isTrue_BoolOp]; exact h
theorem AndC {x : PySem.Expr} {rest : List PySem.Expr} {Q : Bool → Shared → Prop}
    (h : wpC M A (isTrue x env (eval x env)) (fun b s₁ => if b then wpC M A (allTrue .And rest env) Q E s₁ else Q false s₁) E s) : wpC M A (allTrue .And (x :: rest) env) Q E s := by
  show wpC M A (do match BoolOp.And, ← isTrue x env (eval x env) with | .And, false => pure false | .Or, true => pure true | _, _ => allTrue .And rest env) Q E s
  refine wpC_bind (wpC_mono h (fun b s₁ h₁ => ?_) fun _ _ x => x)
  cases b
  · exact wpC_pure h₁
  · exact h₁
theorem OrC {x : PySem.Expr} {rest : List PySem.Expr} {Q : Bool → Shared → Prop}
    (h : wpC M A (isTrue x env (eval x env)) (fun b s₁ => if b then Q true s₁ else wpC M A (allTrue .Or rest env) Q E s₁) E s) : wpC M A (allTrue .Or (x :: rest) env) Q E s := by
  show wpC M A (do match BoolOp.Or, ← isTrue x env (eval x env) with | .And, false => pure false | .Or, true => pure true | _, _ => allTrue .Or rest env) Q E s
  refine wpC_bind (wpC_mono h (fun b s₁ h₁ => ?_) fun _ _ x => x)
  cases b
  · exact h₁
  · exact wpC_pure h₁
theorem CallC {x : PStr} {np pos : PySem.Pos} {args : List PySem.Expr} {keywords : List Keyword} {Q : Val → Shared → Prop}
    (h : wpAny M A (eval (.Name x np) env) (fun f s₁ => wpC M A (callWith pos f [] (backTo pos (starEach args env)) (backToKw pos (keywordEach keywords env))) Q E s₁) E s) : wpC M A (eval (.Call (.Name x np) args keywords pos) env) Q E s := by
  show wpC M A (do callWith pos (← eval (.Name x np) env) [] (backTo pos (starEach args env)) (backToKw pos (keywordEach keywords env))) Q E s
  exact wpC_bind (of_any h)
theorem splicedC_nil {Q : List Val → Shared → Prop} (h : Q [] s) : wpC M A (spliced []) Q E s := wpC_pure h
theorem splicedC_cons {x : Sem Val} {rest : List (Bool × Sem Val)} {Q : List Val → Shared → Prop}
    (h : wpC M A x (fun v s₁ => wpC M A (spliced rest) (fun vs s₂ => Q (v :: vs) s₂) E s₁) E s) : wpC M A (spliced ((false, x) :: rest)) Q E s := by
  rw [spliced]
  refine wpC_bind (wpC_mono h (fun v s₁ h₁ => wpC_bind (wpC_pure (wpC_bind (wpC_holding (wpC_mono h₁ (fun vs s₂ h₂ => wpC_pure h₂) fun _ _ x => x))))) fun _ _ x => x)
theorem evalArgsC {f : Val} {x : Sem Val} {rest : List (Bool × Sem Val)} {Q : Args → Shared → Prop}
    (h : wpC M A (spliced ((false, x) :: rest)) (fun vs s' => Q ⟨vs, []⟩ s') E s) : wpC M A (evalArgs f true ((false, x) :: rest) []) Q E s := by
  unfold evalArgs
  show wpC M A (spliced ((false, x) :: rest) >>= _) Q E s
  refine wpC_bind (wpC_mono h (fun vs s' h' => ?_) fun _ _ x => x)
  refine wpC_holding ?_
  exact wpC_bind (wpC_pure (wpC_bind (wpC_pure (wpC_pure h'))))
theorem callWithG {P : Heap → Prop} {f : Val} {first : List Val} {pos : PySem.Pos} {e : PySem.Expr} {rest : List PySem.Expr} {Q : Val → Shared → Prop} (hk : ∀ h, P h → ∃ k, (k = Keeper.frame ∨ k = Keeper.machine ∨ k = Keeper.boundFrame) ∧ Looks M h (keeperOf f) k)
    (h : wpC M A (spliced (backTo pos (starEach (e :: rest) env))) (fun vs s₁ => P s₁.heap ∧ wpC M A (call f (first ++ vs)) Q E s₁) E s)
    (he : starEach (e :: rest) env = (false, eval e env) :: starEach rest env := by rfl) (hplain : (backTo pos (starEach rest env)).any (·.1) = false := by rfl) :
    wpC M A (callWith pos f first (backTo pos (starEach (e :: rest) env)) []) Q E s := by
  rw [he] at h ⊢
  have hp : ((backTo pos ((false, eval e env) :: starEach rest env)).any (·.1) || ([] : List (Option PStr × Sem Val)).any (·.1.isNone)) = false := by
    show ((false || (backTo pos (starEach rest env)).any (·.1)) || false) = false
    rw [hplain]; rfl
  have h2 : wpC M A (evalArgs f true (backTo pos ((false, eval e env) :: starEach rest env)) []) (fun a s₁ => P s₁.heap ∧ wpC M A (call f (first ++ a.pos) a.kw) Q E s₁) E s := evalArgsC (Q := fun a s₁ => P s₁.heap ∧ wpC M A (call f (first ++ a.pos) a.kw) Q E s₁) h
  unfold callWith
  refine wpC_bind (wpC_holding (wpC_mono h2 (fun a s₁ h₁ => wpC_bind (of_any (wpAny_standAt ?_))) fun _ _ x => x))
  obtain ⟨k, hk', L⟩ := hk _ h₁.1
  simp only [hp]
  refine wpC_bind (of_any (L.here ?_))
  have tail : ∀ {t : Sem Val}, wpC M A t Q E s₁ → wpC M A (t >>= fun r => holding [r] point >>= fun _ => pure r) Q E s₁ :=
    fun ht => wpC_bind (wpC_mono ht (fun r s₂ hr => wpC_bind (wpC_holding (of_any (wpAny_point (wpC_pure hr))))) fun _ _ x => x)
  have marked (mk : Val) : wpC M A (callMarked mk f (first ++ a.pos) a.kw) Q E s₁ := by unfold callMarked; exact wpC_keep h₁.2
  rcases hk' with rfl | rfl | rfl <;> dsimp only <;> first | exact tail h₁.2 | (split <;> first | exact tail h₁.2 | exact tail (marked _))
theorem callWithC {K : Frag} {f : Val} {first : List Val} {pos : PySem.Pos} {e : PySem.Expr} {rest : List PySem.Expr} {Q : Val → Shared → Prop} (hk : keepIn K f = true)
    (h : wpC M A (spliced (backTo pos (starEach (e :: rest) env))) (fun vs s₁ => K.In s₁.heap ∧ wpC M A (call f (first ++ vs)) Q E s₁) E s)
    (he : starEach (e :: rest) env = (false, eval e env) :: starEach rest env := by rfl) (hplain : (backTo pos (starEach rest env)).any (·.1) = false := by rfl) :
    wpC M A (callWith pos f first (backTo pos (starEach (e :: rest) env)) []) Q E s := callWithG (P := K.In) (keeps_K hk) h he hplain
theorem keeper_ba {h : Heap} : Looks M h (keeperOf (.type "bytearray")) Keeper.machine := Looks.of_pure (by kernel_rfl)
theorem callWithB {first : List Val} {pos : PySem.Pos} {e : PySem.Expr} {rest : List PySem.Expr} {Q : Val → Shared → Prop}
    (h : wpC M A (spliced (backTo pos (starEach (e :: rest) env))) (fun vs s₁ => True ∧ wpC M A (call (.type "bytearray") (first ++ vs)) Q E s₁) E s)
    (he : starEach (e :: rest) env = (false, eval e env) :: starEach rest env := by rfl) (hplain : (backTo pos (starEach rest env)).any (·.1) = false := by rfl) :
    wpC M A (callWith pos (.type "bytearray") first (backTo pos (starEach (e :: rest) env)) []) Q E s := callWithG (P := fun _ => True) (fun _ _ => ⟨_, .inr (.inl rfl), keeper_ba⟩) h he hplain
end

-- part HC3
theorem caller_clean : GIn (⟨.builtin "claim.caller" {}, none, none, [], none⟩ : PySem.Ctx) callerA := ⟨caller_in, rfl, fun _ h => nomatch h⟩
theorem ends_C {prog : Program} {w : World} {t : Sem PySem.Fin} {s : Shared} {R : Result → Shared → Prop} (hreg : s.asleep)
    (h : wpC (model prog w) callerA t (fun fin s' => ∃ f, fin = .done f ∧ (R (.ok f) s' ∧ leftWithCleanup s'.gens = false)) (fun e s' => R (.error e) s' ∧ leftWithCleanup s'.gens = false) s) :
    ∃ n r s' s'', runN (denote table) prog w n s ⟨t, .builtin "claim.caller" {}, default, []⟩ = .halted (outcomeOf r) s' ∧
      schedN (denote table) prog w n (.single s ⟨t, .builtin "claim.caller" {}, default, []⟩) = .halted (outcomeOf r) s' ∧ s'.forget = s''.forget ∧ R r s'' := by
  obtain ⟨n, r, s₁, s₂, hs, hn, hfo, hR⟩ := wp_halts_full (M := model prog w) (R := R) hreg (p := default) (c := .builtin "claim.caller" {}) (t := t)
    (Sem.wp_mono (model prog w) _ t (fun fin p' s' h' => by
      obtain ⟨f, rfl, hf⟩ := h'
      exact hf) (fun _ _ _ h' => h') default s (h _ default caller_clean))
  exact ⟨n, r, s₂, s₁, hn, hs, hfo, hR⟩
abbrev WalkC (q : Program) (loose : List PStr) (XP : (PStr → Option Val) → Heap → Prop) (YP : World → Heap → Prop) (r : RowW) (d : DefRec) (kwd : List (PStr × PySem.Expr)) : Prop :=
  ∀ (w : World) (s₀ s₁ : Shared) (mg mb : PStr → Option Val), Ground q loose r.records XP w s₀ mg mb s₁.heap → YP w s₁.heap → ∀ (a : Addr) (o : Obj) (pm cd doc dV kV : Val), s₁.heap.get? a = some o →
    o.data = .func { docDef d.name d.params d.body d.scope pm cd doc with defaults := dV, kwdefaults := kV } → s₁.heap.CodeRec cd d.name → Dflts mg s₁.heap d.params kwd dV kV → mg d.name = some (.ref a) → s₁.gens = #[] →
    ∀ (args : List WData) (vals : List Val) (as : List Addr), r.claim.pre args = true → WData.layableAll args = true → ReadsAllW r.records (classAt s₀.heap) s₁.heap vals args as → WellAll w.params s₁.heap vals args → (∀ a ∈ as, (a == sysModules) = false) →
      wpC (model r.prog w) callerA (PySem.call (.ref a) vals) (fun v s' => GoodWG r.claim (classAt s₀.heap) (ExcName.means s₀.heap) args s₁ (.ok (.ret v)) s')
        (fun e s' => GoodWG r.claim (classAt s₀.heap) (ExcName.means s₀.heap) args s₁ (.error e) s') s₁
theorem name_of {b : Bool} {x n : PStr} (h : n ∈ (if b then [x] else [])) : n = x := by
  cases b
  · exact nomatch h
  · exact List.mem_singleton.mp h
namespace PySem.W
/-- the head of an open row whose call is walked in clean contexts -/
theorem holds_open {T : Prop} {r : OpenRow} {q : Program} {loose : List PStr} {Xt : Shared → Bool} {XP : (PStr → Option Val) → Heap → Prop} {α : Type} {Yf : Shared → α} {Ya : World → α} {YP : World → Heap → Prop} {d : DefRec} {kwd : List (PStr × Expr)} {N : Nat}
    (given : T) (hY : ∀ w s, Yf s = Ya w → YP w s.heap) (hYk : ∀ w h h', YP w h → (∀ b o, h.get? b = some o → h'.get? b = some o) → YP w h')
    (hX : ∀ s, Xt s = true → XP (s.heap.nsMap mainGlobals) s.heap) (hXk : ∀ mg h h', XP mg h → (∀ b o, h.get? b = some o → h'.get? b = some o) → XP mg h')
    (hdef : defOf q r.name = some (d, kwd)) (hp : r.prog.theDef r.name = some (d.params, d.body, d.scope)) (hk : kwWritten? d.params.kwonlyargs d.params.kw_defaults = some kwd) (hRf : ∀ s, Xt s = true → RecFacts r.records s.heap) (hwr : (!r.writes || r.records.isEmpty) = true)
    (k1 : r.wellSaid = true) (ok : (chainsOk q && opensWell r.prog && (frees r.toRowW && r.within.isEmpty)) = true) (hb : r.prog.bare) (hw : r.toRowW.promised)
    (both : T = (LeftO r.prog q loose Xt Yf Ya N ∧ WalkC q loose XP YP r.toRowW d kwd)) : r.Holds := by
  subst both
  obtain ⟨left, walk⟩ := given
  have ok' := ok
  simp only [Bool.and_eq_true] at ok'
  obtain ⟨⟨hch, o1⟩, k5, k6⟩ := ok'
  obtain ⟨hsame, hu, ha, hap, hm⟩ := frees_parts k5
  have hwi : r.toRowW.claim.within = [] := List.isEmpty_iff.mp k6
  have hi := ident_freeW hu ha hap
  have B (w : World) := left.behind (XP := fun mg h => XP mg h ∧ RecFacts r.records h) (fun s hs => ⟨hX s hs, hRf s hs⟩) hch w
  refine ⟨k1, hw, ⟨hb, o1, by show r.makers.map _ = []; rw [hm]; rfl⟩, hw.witness, fun w => ⟨(B w).1, fun s' hs' => ?_⟩⟩
  obtain ⟨s₀, hf, hg0, s, hT, hz, hgens, hg, GX, y⟩ := (B w).2 s' hs'
  have G0 : Ground q loose [] XP w s (s.heap.nsMap mainGlobals) (s.heap.nsMap builtinsNs) s.heap := ⟨GX.T, GX.B, GX.D, GX.TE, GX.TD, GX.W, GX.X.1, GX.cls, GX.has, GX.apart, GX.once, GX.K⟩
  have RF := GX.X.2
  refine ⟨s₀, hf, hg0, s, hT, fun n hn => ?_, RF.1, RF.2.1, fun args hpre hlay ord hord => ?_⟩
  · obtain rfl : n = r.name := name_of hn
    exact pinned_of_view hg G0 hdef hp hk
  have hgens : s.gens = #[] := Array.eq_empty_of_size_eq_zero (beq_iff_eq.mp hgens)
  have G : Ground q loose r.records XP w s _ _ s.heap := RF.ground G0
  obtain ⟨⟨vs, s₁⟩, hlaid⟩ := Option.isSome_iff_exists.mp (layAllW_isSome (P := w.params) (ord := ord) G.has args r.toRowW.args s (pre_splitW hpre).1)
  have keeps := layAllW_keeps _ _ _ hlaid
  have hal := layAllW_rest _ _ _ hlaid
  obtain ⟨as, hrd, hin, hold⟩ := reads_layAllW hord _ _ _ hlaid hlay s₁.heap (fun _ _ e => e)
  have Ld : Laid r.records w s s₁ args vs as := ⟨⟨ord, hord, hlaid⟩, hrd, hin, hold, keeps, hal.1.trans hgens, hal.2.2.1⟩
  have G₁ := G.keeps hXk keeps
  obtain ⟨a, o, pm, cd, doc, dV, kV, h1, h2, h3, h4, h5⟩ := G₁.fn hdef
  have ends (res : Result) (s' : Shared) (g : GoodWG r.toRowW.claim (classAt s.heap) (ExcName.means s.heap) args s₁ res s') :=
    (⟨g.laid (c := r.toRowW.claim) hsame hwi hi Ld, fun kps => namesKept_of hT hg kps keeps g.2.1.old⟩ : _ ∧ ∀ kps, namesKept r.prog kps s.heap s'.heap)
  have W := walk w s s₁ _ _ G₁ (hYk _ _ _ (hY w s y) keeps) a o pm cd doc dV kV h2 h3 h4 h5 (defOf_name hdef ▸ h1) Ld.gens args vs as hpre hlay Ld.reads Ld.well (Ld.low G.low)
  have W2 : wpC (model r.prog w) callerA (do match ← nsGet mainNs r.name with
      | some f => do ret (← PySem.call f vs)
      | none => unsupported "claim.caller:no-such-global") (fun fin s' => ∃ f, fin = .done f ∧ ((r.toRowW.claim.Ends s args vs s₁ (.ok f) s' ∧ s'.os = s.os ∧ ∀ kps, namesKept r.prog kps s.heap s'.heap) ∧ leftWithCleanup s'.gens = false))
      (fun e s' => (r.toRowW.claim.Ends s args vs s₁ (.error e) s' ∧ s'.os = s.os ∧ ∀ kps, namesKept r.prog kps s.heap s'.heap) ∧ leftWithCleanup s'.gens = false) s₁ := by
    refine wpC_bind (of_any (wpAny_nsGet G₁.T.g ?_))
    rw [h1]
    exact wpC_bind (wpC_mono W (fun v s' g => wpC_pure ⟨_, rfl, ⟨(ends _ _ g).1.1, (ends _ _ g).1.2.1, (ends _ _ g).2⟩, leftWithCleanup_false_of_bare (ends _ _ g).1.2.2⟩) fun e s' g => ⟨⟨(ends _ _ g).1.1, (ends _ _ g).1.2.1, (ends _ _ g).2⟩, leftWithCleanup_false_of_bare (ends _ _ g).1.2.2⟩)
  obtain ⟨k, res, s', s'', hrun, hsched, hfo, hcase, hos, hkp⟩ := ends_C (s := s₁) (prog := r.prog) (w := w) (R := fun res s' => r.toRowW.claim.Ends s args vs s₁ res s' ∧ s'.os = s.os ∧ ∀ kps, namesKept r.prog kps s.heap s'.heap) (Shared.asleep_of_life hal.2.2.2 hz) W2
  obtain ⟨eh, _, _, eo, _⟩ := Shared.forget_eq hfo
  have hcase := hcase.congr eh
  rw [← eh] at hkp
  rw [← eo] at hos
  have hlife : s'.heap.life = s.heap.life := (runN_life _ _ _ hrun).trans hal.2.2.2
  refine ⟨vs, s₁, hlaid, k, _, s', hsched, ?_, (fun _ i x hx => by rw [hgens] at hx; simp at hx), fun hq => ⟨hkp _, noTable hwr hq⟩, by rw [hlife], Shared.rest_eq hos⟩
  rcases hcase with ⟨v, rfl, d1, d2, d3, d4, d5⟩ | ⟨e, ob, cls, rfl, d1, d2, d3, d4, d5⟩
  · exact .inl ⟨v, rfl, d1, d2, d3, fun b o y _ => d4 b o y, d5⟩
  · exact .inr ⟨e, ob, cls, rfl, d1, d2, d3, d4, fun b o y _ => d5 b o y⟩
end PySem.W

-- part HT
/-- the top's run over a tree of objects -/
def topRunT (tb : String → Option Builtin) (p : Program) (w : World) (n₀ : Nat) (ann : Option PySem.Value) : Nat → SharedT → Thread → Option SharedT
  | 0, _, _ => none
  | n + 1, s, t => match through t with
    | true => some s
    | false => match stepOk n₀ ann t with
      | false => none
      | true => match stepT (denote tb) p w s t with
        | some (s', t') => topRunT tb p w n₀ ann n s' t'
        | none => none
theorem topRunT_spec {tb : String → Option Builtin} {p : Program} {w : World} {n₀ : Nat} {ann : Option PySem.Value} : ∀ (n : Nat) (s : SharedT) (t : Thread) (r : SharedT), topRunT tb p w n₀ ann n s t = some r → topRun tb p w n₀ ann n s.abs t = some r.abs
  | 0, _, _, _, h => nomatch h
  | n + 1, s, t, r, h => by
    unfold topRunT at h
    unfold topRun
    cases ht : through t with
    | true =>
      rw [ht] at h
      obtain rfl := Option.some.inj h
      rfl
    | false =>
      rw [ht] at h
      cases hk : stepOk n₀ ann t with
      | false => rw [hk] at h; cases h
      | true =>
        rw [hk] at h
        cases hs : stepT (denote tb) p w s t with
        | none => rw [hs] at h; cases h
        | some x =>
          obtain ⟨s', t'⟩ := x
          rw [hs] at h
          dsimp only at h ⊢
          rw [stepT_spec hs]
          exact topRunT_spec n s' t' r h
/-- a list of objects as a tree -/
def plant : List Obj → BT → Nat → Option BT
  | [], t, _ => some t
  | o :: r, t, n => match ((t.ins n o).get n).isSome with
    | true => plant r (t.ins n o) (n + 1)
    | false => none
theorem plant_spec (life : Life) : ∀ (l : List Obj) (t : BT) (n : Nat) (t' : BT), plant l t n = some t' → absHeap t' (n + l.length) life = l.foldl Heap.push (absHeap t n life)
  | [], t, n, t', h => by
    obtain rfl := Option.some.inj h
    rfl
  | o :: r, t, n, t', h => by
    unfold plant at h
    cases g : ((t.ins n o).get n).isSome with
    | false => rw [g] at h; cases h
    | true =>
      rw [g] at h
      have := plant_spec life r (t.ins n o) (n + 1) t' h
      rw [absHeap_ins g] at this
      rw [List.foldl_cons, ← this, List.length_cons, Nat.add_assoc, Nat.add_comm 1]
theorem push_all (life : Life) : ∀ (l k : List Obj), l.foldl Heap.push ⟨k.toArray, life⟩ = ⟨(k ++ l).toArray, life⟩
  | [], k => by rw [List.append_nil]; rfl
  | o :: r, k => by
    rw [List.foldl_cons]
    have e : Heap.push ⟨k.toArray, life⟩ o = ⟨(k ++ [o]).toArray, life⟩ := by
      show Heap.mk (k.toArray.push o) life = _
      rw [List.push_toArray]
    rw [e, push_all life r (k ++ [o]), List.append_assoc]
    rfl
def toT (s : Shared) : Option SharedT := (plant s.heap.objs.toList .nil 0).map fun t => ⟨t, s.heap.objs.toList.length, s.heap.life, s.gens, s.drawn, s.toks, s.os⟩
theorem toT_spec {s : Shared} {r : SharedT} (h : toT s = some r) : r.abs = s := by
  obtain ⟨t, ht, rfl⟩ := Option.map_eq_some_iff.mp h
  have e := plant_spec s.heap.life _ _ _ _ ht
  have e0 : absHeap .nil 0 s.heap.life = ⟨([] : List Obj).toArray, s.heap.life⟩ := rfl
  rw [Nat.zero_add, e0, push_all, List.nil_append] at e
  show Shared.mk (absHeap t s.heap.objs.toList.length s.heap.life) _ _ _ _ = s
  rw [e]
def endsT (p : Program) (w : World) (N : Nat) : Option (Shared × SharedT) :=
  (fencedOpening treeTable p w N).bind fun s₀ => (toT s₀).bind fun t₀ => (topRunT treeTable p w s₀.heap.objs.size (s₀.heap.nsMap mainGlobals "__annotations__") N t₀ (topStub p)).map fun r => (s₀, r)
def okT (p : Program) (s₀ r : Shared) : Bool := (s₀.heap.isNs mainGlobals && s₀.gens.size == 0) && (staticsOk (importedModules p.main.body) s₀.heap r.heap && namesBound p r.heap && gensDone r && laidKept s₀.heap r.heap)
theorem left_of_trees {p q : Program} {loose : List Str} {Xt : Shared → Bool} {α : Type} {Yf : Shared → α} {Ya : World → α} {N : Nat}
    (h1 : ∀ w, (endsT p w N).map (fun x => (okT p x.1 x.2.abs, Yf x.2.abs)) = some (true, Ya w))
    (h2 : ∀ w, (endsT p w N).map (fun x => openSeen q loose (importedModules p.main.body) Xt true x.2.abs) = some (openGood q loose)) : LeftO p q loose Xt Yf Ya N := fun w => by
  obtain ⟨⟨s₀, r⟩, e1, e2⟩ := Option.map_eq_some_iff.mp (h1 w)
  obtain ⟨e3, e6⟩ := Prod.mk.inj e2
  have e5 : openSeen q loose (importedModules p.main.body) Xt true r.abs = openGood q loose := by
    have a := h2 w
    rw [e1] at a
    exact Option.some.inj a
  obtain ⟨s₁, f1, e1⟩ := Option.bind_eq_some_iff.mp e1
  obtain ⟨t₀, f2, e1⟩ := Option.bind_eq_some_iff.mp e1
  obtain ⟨r', f3, e1⟩ := Option.map_eq_some_iff.mp e1
  obtain ⟨rfl, rfl⟩ := Prod.mk.inj e1
  have f4 := topRunT_spec _ _ _ _ f3
  rw [toT_spec f2] at f4
  obtain ⟨c1, c2⟩ := Bool.and_eq_true_iff.mp e3
  have f5 : openEnds treeTable p w N = some r'.abs := by
    unfold openEnds topFrom
    rw [f1]
    show (match s₁.heap.isNs mainGlobals && s₁.gens.size == 0 with | true => _ | false => none) = _
    rw [c1]
    dsimp only
    rw [f4]
    show (match staticsOk (importedModules p.main.body) s₁.heap r'.abs.heap && namesBound p r'.abs.heap && gensDone r'.abs && laidKept s₁.heap r'.abs.heap with | true => some r'.abs | false => none) = _
    rw [c2]
  rw [f5]
  show some (openSeen q loose (importedModules p.main.body) Xt true r'.abs, Yf r'.abs) = _
  rw [e5, e6]

theorem feed {T P : Prop} (_ : T) (f : T → P) (x : T) : P := f x
set_option maxRecDepth 100000 in
set_option maxHeartbeats 8000000 in
noncomputable def hd : (T : Prop) ×' (T → PySem.Challenge.rw_pf0260_01.Holds) := by
  refine' ⟨_, fun h => ?_⟩
  rotate_left
  refine feed h ?_ ?hl
  rotate_left
  exact h
  rotate_left
  intro _
  w_on
  o_law
  k_head
  case hw => w_witness2
  exact rfl
noncomputable def hdHook : Hook := kHook hd.heap_39
  [2, 3, 15, 22, 24, 25, 27, 28, 29, 30, 31, 32, 35, 42, 44, 45, 47, 48, 49, 50, 51, 52, 55, 62, 64, 65, 67, 68,
            69, 70, 71, 72, 75, 76, 78, 79, 81, 82, 83, 85, 86, 88, 89, 90, 92, 93, 95, 96, 97, 99, 100, 102, 103, 104,
            106, 107, 109, 110, 111, 112, 113, 114, 115, 116, 117, 119, 120, 122, 123, 124, 126, 127, 129, 130, 131,
            133, 134, 136, 137, 138, 140, 141, 143, 144, 145, 148, 149, 150, 152, 153, 155, 156, 157, 159, 160, 162,
            163, 171, 173, 174, 176, 177, 178, 180, 181, 183, 184, 185, 187, 188, 190, 191, 192, 194, 195, 197, 198,
            199, 200, 201, 202, 203, 206, 208, 209, 211, 212, 213, 215, 216, 218, 219, 220, 222, 223, 225, 226, 227,
            229, 230, 232, 233, 234, 237, 238] (fun _ => by kernel_rfl)
set_option maxRecDepth 1000000 in
set_option maxHeartbeats 0 in
theorem left_ok (w : World) : (endsT PySem.Challenge.rw_pf0260_01.row.prog w 3568).map (fun x => (okT PySem.Challenge.rw_pf0260_01.row.prog x.1 x.2.abs, hdHook.obs x.2.abs)) = some (true, hdHook.val w) := by kernel_rfl
set_option maxRecDepth 1000000 in
set_option maxHeartbeats 0 in
theorem left_seen (w : World) : (endsT PySem.Challenge.rw_pf0260_01.row.prog w 3568).map (fun x => openSeen hd.view_39 [] (importedModules PySem.Challenge.rw_pf0260_01.row.prog.main.body) (fun s => xlAt hd.view_39 [] s && recOk (RowW.records PySem.Challenge.rw_pf0260_01.row.toRowW) s) true x.2.abs) = some (openGood hd.view_39 []) := by kernel_rfl
theorem hd_left : LeftO PySem.Challenge.rw_pf0260_01.row.prog hd.view_39 [] (fun s => xlAt hd.view_39 [] s && recOk (RowW.records PySem.Challenge.rw_pf0260_01.row.toRowW) s) hdHook.obs hdHook.val 3568 := left_of_trees left_ok left_seen
local macro_rules | `(tactic| walk_at "fill_k") => `(tactic| (w_top off; (have hfill : ∀ P : Params, (Mine.hd.heap_39 P = Mine.hd.heap_39 P) ∧ PySem.Challenge.rw_pf0260_01 = PySem.Challenge.rw_pf0260_01 := by k_fill; exact fun _ => ⟨rfl, rfl⟩); clear hfill))

-- part Base
abbrev Pw (w : World) (mean : ExcName → Option Val) (mg mb : PStr → Option Val) (args : Led) (k : Nat) (f : Addr) (vs : List Val) (Ret : Led → Heap → Addr → (PStr → Option Val) → Shared → (Val → Shared → Prop) → Prop) : Prop :=
  ∀ (dp un : Nat) (gd : Option (List Code)) (cn : PStr) (cs : Scope) (a : Addr) (ccd : Val) (cl : List (PStr × Addr)) (outer : List Env) (A₀ : Around) (base h₀ : Heap) (L : Addr) (m : PStr → Option Val) (news : Led) (s : Shared) (Q E : Val → Shared → Prop),
    Below A₀ base outer h₀ → Fr h₀ L s.heap m → (hd.heap_39 w.params).In h₀ → News h₀ L s.heap news → Top hd.view_39 (looseW hd.view_39 []) mean mg mb h₀ → cs.kind = .function → (∀ p ∈ args, p ∈ news) → dp + k < recursionLimit → un + 8 * k < cLine →
    Ret news h₀ L m s Q →
    wpAny (model PySem.Challenge.rw_pf0260_01.row.prog w) (ktrTop dp un gd cn cs L a ccd cl outer) (call (.ref f) vs) Q E s

/-- gives a value, no object kept -/
abbrev RetV (R : Tok → Val) (news : Led) (h₀ : Heap) (L : Addr) (m : PStr → Option Val) (s : Shared) (Q : Val → Shared → Prop) : Prop :=
  ∀ (t : Tok) (h' : Heap) (tk' : Nat), Fr h₀ L h' m → News h₀ L h' news → Q (R t) { s with heap := h', toks := tk' }
/-- gives bytes -/
abbrev RetB (l : List Int) (news : Led) (h₀ : Heap) (L : Addr) (m : PStr → Option Val) (s : Shared) (Q : Val → Shared → Prop) : Prop :=
  ∀ (t : Tok) (b : Array UInt8) (h' : Heap) (tk' : Nat), Fr h₀ L h' m → News h₀ L h' news → KBw.bInts b = l → Q (.bytes b t) { s with heap := h', toks := tk' }

theorem use_pw {w : World} {mean : ExcName → Option Val} {mg mb : PStr → Option Val} {args : Led} {k : Nat} {f : Addr} {vs : List Val} {Ret : Led → Heap → Addr → (PStr → Option Val) → Shared → (Val → Shared → Prop) → Prop}
    (C : Pw w mean mg mb args k f vs Ret)
    {dp un : Nat} {gd : Option (List Code)} {cn : PStr} {cs : Scope} {a : Addr} {ccd : Val} {cl : List (PStr × Addr)} {outer : List Env} {A₀ : Around} {base h₀ : Heap} {L : Addr} {m : PStr → Option Val} {news : Led} {s : Shared} {Q E : Val → Shared → Prop}
    (B : Below A₀ base outer h₀) (F : Fr h₀ L s.heap m) (X : (hd.heap_39 w.params).In h₀) (N : News h₀ L s.heap news) (T : Top hd.view_39 (looseW hd.view_39 []) mean mg mb h₀) (hk : cs.kind = .function) (ha : ∀ p ∈ args, p ∈ news) (hdp : dp + k < recursionLimit) (hu : un + 8 * k < cLine)
    (r : Ret news h₀ L m s Q) : wpAny (model PySem.Challenge.rw_pf0260_01.row.prog w) (ktrTop dp un gd cn cs L a ccd cl outer) (call (.ref f) vs) Q E s :=
  C dp un gd cn cs a ccd cl outer A₀ base h₀ L m news s Q E B F X N T hk ha hdp hu r
theorem ret_v {R : Tok → Val} {news news' : Led} {h₀ : Heap} {L : Addr} {m : PStr → Option Val} {s : Shared} {Q : Val → Shared → Prop} {v : Val} {t : Tok} {h' : Heap} {tk' : Nat} (hret : RetV R news h₀ L m s Q) (e : v = R t) (F : Fr h₀ L h' m) (N : News h₀ L h' (news' ++ news)) : Q v { s with heap := h', toks := tk' } := by
  subst e
  exact hret t h' tk' F fun p hp => N p (List.mem_append_right _ hp)
theorem ret_b {l : List Int} {news news' : Led} {h₀ : Heap} {L : Addr} {m : PStr → Option Val} {s : Shared} {Q : Val → Shared → Prop} {b : Array UInt8} {t : Tok} {h' : Heap} {tk' : Nat} (hret : RetB l news h₀ L m s Q) (e : KBw.bInts b = l) (F : Fr h₀ L h' m) (N : News h₀ L h' (news' ++ news)) : Q (.bytes b t) { s with heap := h', toks := tk' } :=
  hret t b h' tk' F (fun p hp => N p (List.mem_append_right _ hp)) e

theorem slice_at {prog : Program} {w : World} {A : Around} {E : Val → Shared → Prop} {s : Shared} {value slice : PySem.Expr} {b : Array UInt8} {t t1 t2 : Tok} {h₀ : Heap} {L : Addr} {m : PStr → Option Val} {news : Led} {Q : Val → Shared → Prop} {ks l : List Int} {i j kk : Int} {n k : Nat}
    (hF : Fr h₀ L s.heap m) (hN : News h₀ L s.heap news) (hk : KBw.bInts b = ks) (hl : (ks.drop n).take k = l) (hi : i = n) (hj : j = i + kk) (hkk : kk = k) (hn : n + k ≤ ks.length) (hz : ks.length ≤ 16777216)
    (h : ∀ h' t' k' b', Fr h₀ L h' m → News h₀ L h' news → KBw.bInts b' = l → Q (.bytes b' t') { s with heap := h', toks := k' })
    (hs : subscripted slice false (.bytes b t) (.ref s.heap.objs.size) = operate [.ref s.heap.objs.size, .bytes b t] (getItem (.bytes b t) (.ref s.heap.objs.size)) := by with_unfolding_all rfl)
    (ht : ∀ r, letTemporaryGo value (.bytes b t) r = pure () := by intro _; with_unfolding_all rfl) :
    wpAny (model prog w) A (subscriptTail value slice (.bytes b t) (.ref s.heap.objs.size)) Q E { s with heap := s.heap.push { cls := .type "slice", data := .fields #[.int i t1, .int j t2, .none] } } := by
  subst hi hkk hj
  refine KBc.slice_K hF hN hk (.int _ _) (.int _ _) hz (fun h' t' k' F' N' e => h _ _ _ _ F' N' ?_) hs ht
  rw [e, ← hl]
  have e1 : clipAt ks.length (n : Int) = n := by rw [clipAt_nat]; omega
  have e2 : clipAt ks.length ((n : Int) + k) = n + k := by
    have : ((n : Int) + k) = ((n + k : Nat) : Int) := by omega
    rw [this, clipAt_nat]; omega
  show List.take (clipAt ks.length ((n : Int) + k) - clipAt ks.length (n : Int)) (List.drop (clipAt ks.length (n : Int)) ks) = _
  rw [e1, e2, Nat.add_sub_cancel_left]
theorem unr_end {h₀ : Heap} {L I : Addr} {it : Obj} {rest : (PStr → Option Val) → Led → Prop} {s₁ : Shared} {h' : Heap} {tk : Nat} {m' : PStr → Option Val} {news' : Led} (F : Fr h₀ L h' m') (N : News h₀ L h' ((I, it) :: news'))
    (off : ∀ p ∈ news', p.1 < I) (r : rest m' news') : UnrEnd h₀ L s₁ I it rest { s₁ with heap := h', toks := tk } :=
  UnrEnd.intro F N news' (fun _ h => h) (fun p hp => Nat.ne_of_lt (off p hp)) r


/-- the end of a callee that was entered with a part of the ledger -/
def LeaveX (h₀ : Heap) (L : Addr) (m : PStr → Option Val) (g : Heap) (args news : Led) (R : Result → Shared → Prop) (v : Val) (s' : Shared) : Prop :=
  ∃ L' m' news', Fr g L' s'.heap m' ∧ News g L' s'.heap news' ∧ (∀ p ∈ args, p ∈ news') ∧ (Fr h₀ L s'.heap m → News h₀ L s'.heap (news' ++ news) → R (.ok (.ret v)) s')
theorem leaveX_ {h₀ g : Heap} {L L' : Addr} {m m' : PStr → Option Val} {args news news' : Led} {R : Result → Shared → Prop} {v : Val} {s' : Shared} (F' : Fr g L' s'.heap m') (N' : News g L' s'.heap news') (ha : ∀ p ∈ args, p ∈ news')
    (k : Fr h₀ L s'.heap m → News h₀ L s'.heap (news' ++ news) → R (.ok (.ret v)) s') : LeaveX h₀ L m g args news R v s' := ⟨L', m', news', F', N', ha, k⟩

section
variable {prog : Program} {w : World} {A₀ A : Around} {s : Shared} {base h₀ : Heap} {outer : List Env} {L : Addr} {m : PStr → Option Val} {env : Env} {news args : Led} {K : Frag} {p : Program} {loose : List PStr} {mean : ExcName → Option Val} {mg mb : PStr → Option Val}
  {R : Result → Shared → Prop} {name qual : PStr} {params : Arguments} {body : List Stmt} {scope : Scope} {dV kV doc pm cdv ct oc : Val} {an od : Option Addr} {osl : Array (Option Val)} {f : Addr} {av : Args} {binds : List (PStr × Val)}
theorem code_sub (B : Below A₀ base outer h₀) (F : Fr h₀ L s.heap m) (X₀ : K.In h₀) (N : News h₀ L s.heap news) (T : Top p loose mean mg mb h₀) (hA : A.frames = some (env :: outer)) (hf : env.frame = some L) (hke : env.scope.kind = .function)
    (ho : K.lookup f = some ⟨oc, od, .func (fnOf name qual params body scope dV kV doc pm an cdv ct), osl⟩) (hcd : codeIn K cdv qual = true) (hroom : A.depth < recursionLimit)
    (hbind : BindsTo s (fnOf name qual params body scope dV kV doc pm an cdv ct) av binds) (hloc : ∀ y ∈ binds, scope.names.lookup y.1 = some .local) (ha : ∀ p ∈ args, p ∈ news)
    (h : ∀ g L' h₁, Fr h₀ L g m → Fr g L' h₁ (fun y => binds.reverse.lookup y) → News g L' h₁ args → Below A base (env :: outer) g → K.In g → Top p loose mean mg mb g → (∀ p ∈ args, p.1 < L') → (∀ p ∈ news, p.1 ∉ args.map (·.1) → g.get? p.1 = some p.2) → (∀ p ∈ news, p.1 < L') → @LT.lt Nat _ L L' →
      wpAny (model prog w) (A.deeper (envOf qual scope L' f cdv)) (execs body (envOf qual scope L' f cdv))
        (fun fl s' => LeaveX h₀ L m g args news R (match fl with | .ret v => v | _ => .none) s')
        (fun e s' => wpAny (model prog w) (A.deeper (envOf qual scope L' f cdv)) (leaving (envOf qual scope L' f cdv) e) (fun _ s'' => R (.error e) s'') (fun e' s'' => R (.error e') s'') s')
        { s with heap := h₁, toks := s.toks + binds.length })
    (hco : scope.isCoroutine = false) (hgen : scope.isGenerator = false) (hk : scope.kind = .function)
    (hcell : ∀ x ∈ scope.names, x.2 ≠ .cell) : codeAny (model prog w) A (.call (.ref f) av) R s := by
  have Na : News h₀ L s.heap args := fun q hq => N q (ha q hq)
  obtain ⟨FG, BG, st, lv⟩ := groundX (R := R) B F Na hA hf hke
  refine codeAny_call_def (fd := fnOf name qual params body scope dV kV doc pm an cdv ct) (body := body) (binds := binds) hroom ((X₀.keeps F.keep) _ _ ho) rfl (T.nolimit.keeps F.keep) (codeRec_of (X₀.keeps F.keep) hcd) rfl hbind hcell hloc (fun h₁ hns hk₁ => ?_) hco hgen hk
  have hoth : ∀ q ∈ news, q.1 ∉ args.map (·.1) → (hideAll s.heap (args.map (·.1))).get? q.1 = some q.2 := fun q hq hn => hideAll_get _ (N q hq).1 hn
  refine wpAny_mono (h _ s.heap.objs.size h₁ FG ⟨hns, fun b o e => hk₁ b o (of_hideAll _ e), Nat.le_of_eq (hideAll_size _ _)⟩
    (fun q hq => ⟨hk₁ _ _ (Na q hq).1, Nat.ne_of_lt (Heap.lt_size (Na q hq).1), hideAll_none _ (List.mem_map_of_mem hq)⟩) BG (X₀.keeps st) (T.keeps st) (fun q hq => Heap.lt_size (Na q hq).1) hoth (fun q hq => Heap.lt_size (N q hq).1) F.ns.lt) (fun fl s' hl => ?_) fun _ _ y => y
  obtain ⟨L', m', news', F', N', hin, k⟩ := hl
  refine lv _ s' ⟨L', m', news', F', N', fun Fk Nk => k Fk fun q hq => ?_⟩
  rcases List.mem_append.mp hq with hq | hq
  · exact Nk q hq
  · by_cases hm : q.1 ∈ args.map (·.1)
    · obtain ⟨r, hr, e⟩ := List.mem_map.mp hm
      have e2 : r = q := by
        have h1 := (Na r hr).1
        have h2 := (N q hq).1
        rw [e, h2] at h1
        obtain ⟨r1, r2⟩ := r
        obtain ⟨q1, q2⟩ := q
        cases e
        cases Option.some.inj h1
        rfl
      exact Nk q (e2 ▸ hin r hr)
    · exact ⟨F'.keep _ _ (hoth q hq hm), (N q hq).2⟩
end

local macro_rules | `(tactic| walk_at "my_enter") => `(tactic| (refine wpAny_call ?_; k_dflt (refine' code_sub ?k1 ?k2 ?k3 ?k4 ?k5 ?kA ?kF ?kK ?k6 ?k7 ?k8 ?k9 ?kB ?ka ?_ ?c2 ?c3 ?c4 ?c5; (case kA => exact rfl); (case kF => exact rfl); (case kK => assumption); (case k1 => k_asm); (case k2 => k_asm); (case k3 => k_asm); (case k4 => k_asm); (case k5 => k_asm); (case k6 => k_is); (case k7 => k_is); (case k8 => ktr_room); (case k9 => exact BindsTo.of_eq rfl); (case c5 => decide); (case kB => exact locs rfl); (case c2 => exact rfl); (case c3 => exact rfl); (case c4 => exact rfl); (case ka => assumption); k_whole; intro g' L' h' FG' F' N' B' X' T' l1 lo1 hL1 hL2; clear lo1; (try k_lt l1); (try dsimp only); (try k_lift B'); (try k_fold))))
local macro_rules | `(tactic| walk_at "LeaveX") => `(tactic| (k_dflt (refine' leaveX_ ?k1 ?k2 ?k3 ?_; (case k1 => k_asm); (case k2 => k_asm); (case k3 => kcj_all); k_whole); intro kF kN; ground_anew kF; (have kX := kFor kF (by k_asm)); (try dsimp only)))
section
variable {M : Model} {A : Around} {E : Val → Shared → Prop} {s : Shared} {h₀ : Heap} {L : Addr} {m : PStr → Option Val} {news : Led}
theorem newTuple_L {vs : List Val} {Q : Val → Shared → Prop} (F : Fr h₀ L s.heap m) (N : News h₀ L s.heap news)
    (h : ∀ (D : Addr) h', Fr h₀ L h' m → News h₀ L h' ((D, { cls := .type "tuple", data := .seq vs.toArray }) :: news) → (∀ p ∈ news, p.1 < D) → @LT.lt Nat _ L D → Q (.ref D) { s with heap := h' }) (hsz : vs.length ≤ sizeLine := by size_fits) : wpAny M A (newTuple vs) Q E s :=
  newTuple_N F N (fun h' F' N' => h _ h' F' N' (fun p hp => Heap.lt_size (N p hp).1) F.ns.lt) hsz
theorem newList_L {vs : List Val} {Q : Val → Shared → Prop} (F : Fr h₀ L s.heap m) (N : News h₀ L s.heap news)
    (h : ∀ (D : Addr) h', Fr h₀ L h' m → News h₀ L h' ((D, listOf vs.toArray 0) :: news) → (∀ p ∈ news, p.1 < D) → @LT.lt Nat _ L D → Q (.ref D) { s with heap := h' }) (hsz : vs.length ≤ sizeLine := by size_fits) : wpAny M A (newList vs) Q E s :=
  newList_N F N (fun h' F' N' => h _ h' F' N' (fun p hp => Heap.lt_size (N p hp).1) F.ns.lt) hsz
end
local macro_rules | `(tactic| walk_at "newTuple") => `(tactic| (k_here; k_dflt (refine' newTuple_L ?F ?N ?_ ?z; (case F => k_asm); (case N => k_asm); (case z => size_fits); k_whole); intro D' h' F' N' l1 l2; (try k_lt l1); (try k_sweep)))
local macro_rules | `(tactic| walk_at "newList") => `(tactic| (k_here; k_dflt (refine' newList_L ?F ?N ?_ ?z; (case F => k_asm); (case N => k_asm); (case z => size_fits); k_whole); intro D' h' F' N' l1 l2; (try k_lt l1); (try k_sweep)))
/-- gives a new tuple -/
abbrev RetT (R : Tok → Tok → List Val) (news : Led) (h₀ : Heap) (L : Addr) (m : PStr → Option Val) (s : Shared) (Q : Val → Shared → Prop) : Prop :=
  ∀ (q : Addr) (t t' : Tok) (n : Nat) (h' : Heap) (tk' : Nat), (∀ p ∈ news, p.1 < q) → @LT.lt Nat _ L q → Fr h₀ L h' m → News h₀ L h' ((q, { cls := .type "tuple", data := .seq (R t t').toArray n }) :: news) → Q (.ref q) { s with heap := h', toks := tk' }
theorem ret_t {R : Tok → Tok → List Val} {vs : List Val} {news all : Led} {h₀ : Heap} {L L' q : Addr} {m : PStr → Option Val} {s : Shared} {Q : Val → Shared → Prop} {t t' : Tok} {n : Nat} {h' : Heap} {tk' : Nat} (hret : RetT R news h₀ L m s Q) (hL : ∀ p ∈ news, p.1 < L') (hLL : @LT.lt Nat _ L L') (hq : @LT.lt Nat _ L' q)
    (e : vs = R t t') (F : Fr h₀ L h' m) (N : News h₀ L h' (all ++ news)) (hm : (q, ({ cls := .type "tuple", data := .seq vs.toArray n } : Obj)) ∈ all) : Q (.ref q) { s with heap := h', toks := tk' } := by
  subst e
  exact hret q t t' n h' tk' (fun p hp => Nat.lt_trans (hL p hp) hq) (Nat.lt_trans hLL hq) F fun p hp => by
    rcases List.mem_cons.mp hp with rfl | hp
    · exact N _ (List.mem_append_left _ hm)
    · exact N p (List.mem_append_right _ hp)
theorem ret_t2 {x y a b : Int} {news all : Led} {h₀ : Heap} {L L' q : Addr} {m : PStr → Option Val} {s : Shared} {Q : Val → Shared → Prop} {t t' : Tok} {n : Nat} {h' : Heap} {tk' : Nat} (hret : RetT (fun t t' => [.int x t, .int y t']) news h₀ L m s Q) (hL : ∀ p ∈ news, p.1 < L') (hLL : @LT.lt Nat _ L L') (hq : @LT.lt Nat _ L' q)
    (F : Fr h₀ L h' m) (N : News h₀ L h' (all ++ news)) (hm : (q, ({ cls := .type "tuple", data := .seq #[.int a t, .int b t'] n } : Obj)) ∈ all) (e1 : a = x) (e2 : b = y) : Q (.ref q) { s with heap := h', toks := tk' } :=
  ret_t (vs := [.int a t, .int b t']) hret hL hLL hq (by rw [e1, e2]) F N hm
local macro_rules | `(tactic| walk_at "my_sub") => `(tactic| first | exact fun _ h => nomatch h | (refine List.forall_mem_cons.mpr ⟨by k_mem, ?_⟩; walk_at "my_sub") | exact List.forall_mem_nil _)

-- part C1
section
local macro_rules | `(tactic| walk_at "subscriptTail") => `(tactic| (k_here; (with_reducible show wpAny _ _ (subscriptTail _ (Expr.Slice _ _ none _) (Value.bytes _ _) (Value.ref _)) _ _ _); (with_reducible rename Fr _ _ _ _ => F'); (with_reducible rename News _ _ _ _ => N'); (refine slice_at (s := ⟨_, _, _, _, _⟩) F' N' (by kba_ints) (by assumption) rfl rfl (by first | rfl | omega) (by omega) (by omega) ?_); intro h' t' k' b' F' N' hb'))
local macro_rules | `(tactic| walk_at "exec For Name Subscript cons nil") => `(tactic| (k_here; (rename Fr _ _ _ _ => lF'); (with_unfolding_all refine' For_invVF lF' ?k1 ?k2 ?_; (case k1 => exact rfl); (case k2 => exact rfl); k_whole)))
local macro_rules | `(tactic| walk_at "pyIter bytes") => `(tactic| ((with_reducible show wpAny _ _ (pyIter (Value.bytes _ _)) (fun it s₂ => LoopAtV _ _ _ _ _ _ _ _ _ it s₂) _ _); k_here; k_bytesUnr))

set_option maxHeartbeats 8000000 in
theorem get_whole_1 {w : World} {mean mg mb} {arr : Array UInt8} {ks : List Int} {n : Nat} {x : Int} {t1 t2 t3 : Tok} (hk : KBw.bInts arr = ks) (hn : n + 1 ≤ ks.length) (hl : (ks.drop n).take 1 = [x]) (hz : ks.length ≤ 100000) :
    Pw w mean mg mb [] 3 89 [.bytes arr t1, .int n t2, .int 1 t3] (RetV (fun t => .int x t)) := by
  walk_at "fill_k"
  intro dp un gd cn cs a ccd cl outer A₀ base h₀ L m news s Q E B F X N T hkk ha hdp hu hret
  walk_at "my_enter"
  k_steps
  exact ret_v hret (congrArg (fun z => Value.int z _) (by omega)) (by assumption) (by assumption)

set_option maxHeartbeats 8000000 in
theorem get_whole_2 {w : World} {mean mg mb} {arr : Array UInt8} {ks : List Int} {n : Nat} {x y : Int} {t1 t2 t3 : Tok} (hk : KBw.bInts arr = ks) (hn : n + 2 ≤ ks.length) (hl : (ks.drop n).take 2 = [x, y]) (hz : ks.length ≤ 100000) :
    Pw w mean mg mb [] 3 89 [.bytes arr t1, .int n t2, .int 2 t3] (RetV (fun t => .int (x * 256 + y) t)) := by
  walk_at "fill_k"
  intro dp un gd cn cs a ccd cl outer A₀ base h₀ L m news s Q E B F X N T hkk ha hdp hu hret
  walk_at "my_enter"
  k_steps
  exact ret_v hret (congrArg (fun z => Value.int z _) (by omega)) (by assumption) (by assumption)
end

-- part C2
section
theorem getD_head {ks r : List Int} {n : Nat} {x : Int} (hl : ks.drop n = x :: r) : ks.getD n 0 = x := by
  have : ks[n]? = some x := by
    have h := congrArg (·[0]?) hl
    simpa using h
  simp [List.getD, this]
theorem bitAnd_14 {x : Int} (h0 : 0 ≤ x) : Builtin.bitAnd x 16383 = x % 16384 := by
  obtain ⟨n, rfl⟩ := Int.eq_ofNat_of_zero_le h0
  have h1 : n &&& 16383 = n % 16384 := Nat.and_two_pow_sub_one_eq_mod n 14
  have h2 : Builtin.bitAnd (n : Int) 16383 = ((n &&& 16383 : Nat) : Int) := by
    unfold Builtin.bitAnd
    have : decide ((0 : Int) ≤ (n : Int)) = true := by simp
    rw [this]
    rfl
  rw [h2, h1]
  omega
set_option maxHeartbeats 8000000 in
theorem get_varint_1 {w : World} {mean mg mb} {arr : Array UInt8} {ks r : List Int} {n : Nat} {x : Int} {t1 t2 : Tok} (hk : KBw.bInts arr = ks) (hl : ks.drop n = x :: r) (h0 : 0 ≤ x) (h1 : x < 64) (hz : ks.length ≤ 100000) :
    Pw w mean mg mb [] 6 110 [.bytes arr t1, .int n t2] (RetT (fun t t' => [.int x t, .int (n + 1 : Int) t'])) := by
  have hlen : n + 1 ≤ ks.length := by have := congrArg List.length hl; simp at this; omega
  have ht : (ks.drop n).take 1 = [x] := by rw [hl]; rfl
  have hg : ks.getD (n : Int).toNat 0 = x := getD_head hl
  have hsh : x.fdiv (2 ^ Int.toNat 6) = 0 := by
    show x.fdiv (2 ^ 6) = 0
    rw [Int.fdiv_eq_ediv_of_nonneg _ (by decide)]; omega
  have hm : Builtin.bitAnd x 63 = x := by
    rw [bitAnd_m6]; omega
  walk_at "fill_k"
  intro dp un gd cn cs a ccd cl outer A₀ base h₀ L m news s Q E B F X N T hkk ha hdp hu hret
  walk_at "my_enter"
  k_steps
  rw [hg, hsh]
  k_steps
  refine use_pw (get_whole_1 hk hlen ht hz) (by k_asm) (by k_asm) (by k_asm) (by k_asm) (by k_asm) (by exact rfl) (by walk_at "my_sub") (by ktr_room) (by ktr_units) ?_
  intro t9 h9 tk9 F9 N9
  (try dsimp only)
  k_steps
  exact ret_t2 hret (by assumption) (by assumption) (by assumption) (by assumption) (by assumption) (by k_mem) hm rfl
set_option maxHeartbeats 8000000 in
theorem get_varint_2 {w : World} {mean mg mb} {arr : Array UInt8} {ks r : List Int} {n : Nat} {x y : Int} {t1 t2 : Tok} (hk : KBw.bInts arr = ks) (hl : ks.drop n = (64 + x) :: y :: r) (h0 : 0 ≤ x) (h1 : x < 64) (h2 : 0 ≤ y) (h3 : y < 256) (hz : ks.length ≤ 100000) :
    Pw w mean mg mb [] 6 110 [.bytes arr t1, .int n t2] (RetT (fun t t' => [.int (x * 256 + y) t, .int (n + 2 : Int) t'])) := by
  have hlen : n + 2 ≤ ks.length := by have := congrArg List.length hl; simp at this; omega
  have ht : (ks.drop n).take 2 = [64 + x, y] := by rw [hl]; rfl
  have hg : ks.getD (n : Int).toNat 0 = 64 + x := getD_head hl
  have hsh : (64 + x).fdiv (2 ^ Int.toNat 6) = 1 := by
    show (64 + x).fdiv (2 ^ 6) = 1
    rw [Int.fdiv_eq_ediv_of_nonneg _ (by decide)]; omega
  have hm : Builtin.bitAnd ((64 + x) * 256 + y) 16383 = x * 256 + y := by
    rw [bitAnd_14 (by omega)]; omega
  walk_at "fill_k"
  intro dp un gd cn cs a ccd cl outer A₀ base h₀ L m news s Q E B F X N T hkk ha hdp hu hret
  walk_at "my_enter"
  k_steps
  rw [hg, hsh]
  k_steps
  refine use_pw (get_whole_2 hk hlen ht hz) (by k_asm) (by k_asm) (by k_asm) (by k_asm) (by k_asm) (by exact rfl) (by walk_at "my_sub") (by ktr_room) (by ktr_units) ?_
  intro t9 h9 tk9 F9 N9
  (try dsimp only)
  k_steps
  exact ret_t2 hret (by assumption) (by assumption) (by assumption) (by assumption) (by assumption) (by k_mem) hm rfl
/-- the octets of a number below 16384 -/
def enc (x : Int) : List Int := if x < 64 then [x] else [64 + x / 256, x % 256]
theorem enc_len (x : Int) : (enc x).length = if x < 64 then 1 else 2 := by unfold enc; split <;> rfl
theorem enc_len_le (x : Int) : (enc x).length ≤ 2 := by rw [enc_len]; split <;> omega
theorem enc_len_ge (x : Int) : 1 ≤ (enc x).length := by rw [enc_len]; split <;> omega
theorem get_varint_e {w : World} {mean mg mb} {arr : Array UInt8} {ks r : List Int} {n : Nat} {x : Int} {t1 t2 : Tok} (hk : KBw.bInts arr = ks) (hl : ks.drop n = enc x ++ r) (h0 : 0 ≤ x) (h1 : x < 16384) (hz : ks.length ≤ 100000) :
    Pw w mean mg mb [] 6 110 [.bytes arr t1, .int n t2] (RetT (fun t t' => [.int x t, .int ((n + (enc x).length : Nat) : Int) t'])) := by
  unfold enc at hl ⊢
  by_cases h : x < 64
  · rw [if_pos h] at hl ⊢
    exact get_varint_1 hk hl h0 h hz
  · rw [if_neg h] at hl ⊢
    have e : x = x / 256 * 256 + x % 256 := by omega
    have := get_varint_2 (w := w) (mean := mean) (mg := mg) (mb := mb) (t1 := t1) (t2 := t2) hk hl (by omega) (by omega) (by omega) (by omega) hz
    rw [← e] at this
    exact this
end

-- part C7
section
set_option maxHeartbeats 8000000 in
theorem whole_varint_e {w : World} {mean mg mb} {arr : Array UInt8} {ks r : List Int} {n : Nat} {i x : Int} {t1 t2 : Tok} (hk : KBw.bInts arr = ks) (hi : i = (n : Nat)) (hl : ks.drop n = enc x ++ r) (h0 : 0 ≤ x) (h1 : x < 16384) (hz : ks.length ≤ 100000) :
    Pw w mean mg mb [] 9 144 [.bytes arr t1, .int i t2] (RetT (fun t t' => [.int x t, .int ((n + (enc x).length : Nat) : Int) t'])) := by
  subst hi
  walk_at "fill_k"
  intro dp un gd cn cs a ccd cl outer A₀ base h₀ L m news s Q E B F X N T hkk ha hdp hu hret
  walk_at "my_enter"
  k_steps
  refine use_pw (get_varint_e hk hl h0 h1 hz) (by k_asm) (by k_asm) (by k_asm) (by k_asm) (by k_asm) (by exact rfl) (by walk_at "my_sub") (by ktr_room) (by ktr_units) ?_
  intro q9 t9 u9 n9 h9 tk9 hq9 hL9 F9 N9
  (try dsimp only)
  k_steps
  exact ret_t2 hret (by assumption) (by assumption) (by assumption) (by assumption) (by assumption) (by k_mem) rfl rfl
end
local macro_rules | `(tactic| walk_at "WhlIf") => `(tactic| (first | (refine WhlIf.yes (decide_eq_true (by omega)) ?_) | (refine WhlIf.no (decide_eq_false (by omega)) ?_)))

-- part E1
/-- an exception of an own class -/
abbrev excObj (C t : Addr) (dx : Option Addr) : Obj := { cls := .ref C, dict := dx, data := .fields #[.ref t, .none, .none, .none, .bool false, .none] }
abbrev tupObj (vs : List Val) : Obj := { cls := .type "tuple", data := .seq vs.toArray }
section
variable {prog : Program} {w : World} {A : Around} {E : Val → Shared → Prop} {s : Shared} {K : Frag} {C N fI L : Addr} {h₀ : Heap} {m : PStr → Option Val} {news : Led} {Q : Val → Shared → Prop}
variable {nm q : PStr} {bs : List Val} {hdct : Bool} {sn : List PStr} {sub : List Val} {ab : Bool} {col : Option Bool} {dd : Option Addr} {k0 k1 k2 k3 k5 : Option Val}
  {oc : Val} {od : Option Addr} {es : Array DictEntry} {ep : Nat} {sl : Array (Option Val)} {oI : Obj}
theorem make_exc {rest : List Val} (F : Fr h₀ L s.heap m) (X₀ : K.In h₀) (Nw : News h₀ L s.heap news)
    (hC : K.lookup C = some (excClassObj nm q C N bs [.type "Exception", .type "BaseException", .type "object"] hdct sn sub ab col dd k0 k1 k2 k3 k5 "Exception.__new__"))
    (hN : K.lookup N = some ⟨oc, od, .dict es ep, sl⟩) (hk : StrKeys es) (hi : nsFind es "__init__" = some (.ref fI)) (hf : K.lookup fI = some oI) (hfc : oI.cls = .type "function")
    (h : ∀ e t h', Fr h₀ L h' m → News h₀ L h' ((e, excObj C t none) :: (t, tupObj rest) :: news) → (∀ p ∈ news, p.1 ≠ e) → (∀ p ∈ news, p.1 ≠ t) → @Ne Nat t e →
      wpAny (model prog w) (A.under (.builtin "type.__call__" ⟨.ref C :: rest, []⟩)) (call (.ref fI) (.ref e :: rest)) (fun r s' => r = .none ∧ Q (.ref e) s') E { s with heap := h' })
    (hz : rest.length ≤ sizeLine := by size_fits) : wpAny (model prog w) A (call (.ref C) rest) Q E s := by
  obtain ⟨hh, g, d, tk, os⟩ := s
  have X := X₀.keeps F.keep
  refine wpAny_call_exc_init (mN := nsFind es) PySem.F.excBase_Exception (X _ _ hC) ⟨_, es, ep, X _ _ hN, rfl, hk, fun _ => rfl⟩ hi (X _ _ hf) hfc (fun h' e M => ?_) hz
  obtain ⟨t, he, htn, ht⟩ := M.there
  have hn : ∀ b, hh.get? b = none → h₀.get? b = none := fun b hb => by
    cases q : h₀.get? b with
    | none => rfl
    | some o => have := F.keep b o q; rw [show hh.get? b = none from hb] at this; cases this
  have hL : ∀ b, hh.get? b = none → b ≠ L := fun b hb e => by
    obtain ⟨oL, _, _, h1, _⟩ := F.ns
    rw [e] at hb
    rw [show hh.get? L = some oL from h1] at hb
    cases hb
  have hne : ∀ b, hh.get? b = none → ∀ p ∈ news, p.1 ≠ b := fun b hb p hp e => by
    have := (Nw p hp).1
    rw [e] at this
    rw [show hh.get? b = some p.2 from this] at hb
    cases hb
  refine h e t h' (F.keeps M.keeps) (fun p hp => ?_) (hne e M.new) (hne t htn) (fun z => ?_)
  · rcases List.mem_cons.mp hp with rfl | hp
    · exact ⟨he, hL e M.new, hn e M.new⟩
    · rcases List.mem_cons.mp hp with rfl | hp
      · exact ⟨ht, hL t htn, hn t htn⟩
      · exact ⟨M.keeps _ _ (Nw p hp).1, (Nw p hp).2⟩
  · rw [z, he] at ht
    cases ht
end
section
variable {prog : Program} {w : World} {A : Around} {E : Val → Shared → Prop} {s : Shared} {K : Frag} {C N L e t : Addr} {dx : Option Addr} {h₀ : Heap} {m : PStr → Option Val} {rest : Led} {Q : Val → Shared → Prop}
variable {nm q : PStr} {bs : List Val} {hdct : Bool} {sn : List PStr} {sub : List Val} {ab : Bool} {col : Option Bool} {dd : Option Addr} {k0 k1 k2 k3 k5 : Option Val}
/-- Exception.__init__(self, v) on an own exception -/
theorem exc_init {v : Val} (F : Fr h₀ L s.heap m) (X₀ : K.In h₀) (Nw : News h₀ L s.heap ((e, excObj C t dx) :: rest)) (ne : ∀ p ∈ rest, p.1 ≠ e)
    (hC : K.lookup C = some (excClassObj nm q C N bs [.type "Exception", .type "BaseException", .type "object"] hdct sn sub ab col dd k0 k1 k2 k3 k5 "Exception.__new__"))
    (h : ∀ (t2 : Addr) h', Fr h₀ L h' m → News h₀ L h' ((e, excObj C t2 dx) :: (t2, tupObj [v]) :: rest) → (∀ p ∈ rest, p.1 < t2) → @LT.lt Nat _ e t2 → @LT.lt Nat _ L t2 → Q .none { s with heap := h' }) :
    wpAny (model prog w) A (call (.builtin "Exception.__init__") [.ref e, v]) Q E s := by
  obtain ⟨hh, g, d, tk, os⟩ := s
  have X := X₀.keeps F.keep
  have EF := PySem.F.excBase_Exception
  have he : hh.get? e = some (excObj C t dx) := (Nw _ (.head _)).1
  refine wpAny_call (codeAny_call_builtin EF.init.plain EF.initEntry (wpAny_check_init_sub EF (X _ _ hC) he rfl ?_))
  unfold Builtin.«BaseException.__init__» Builtin.BaseException.bexcPut
  refine wpAny_bind (newTuple_N F Nw fun h' F' N' => ?_)
  have he' : h'.get? e = some (excObj C t dx) := (N' _ (.tail _ (.head _))).1
  have N2 : News h₀ L h' ([] ++ (e, excObj C t dx) :: (hh.objs.size, tupObj [v]) :: rest) := fun p hp => N' p (by
    rcases List.mem_cons.mp hp with rfl | hp
    · exact .tail _ (.head _)
    · rcases List.mem_cons.mp hp with rfl | hp
      · exact .head _
      · exact .tail _ (.tail _ hp))
  have hlt : e < hh.objs.size := Heap.lt_size he
  obtain ⟨F2, N3⟩ := news_upd (f := Obj.mapFields (·.setIfInBounds 0 (Value.ref hh.objs.size))) F' N2 (fun _ h => nomatch h) (fun p hp => by
    rcases List.mem_cons.mp hp with rfl | hp
    · exact Nat.ne_of_gt hlt
    · exact ne p hp) (o' := excObj C hh.objs.size dx) rfl rfl
  refine wpAny_bind (wpAny_bind (wpAny_field he' rfl (x := .ref t) rfl ?_))
  refine wpAny_bind (wpAny_setField he' rfl (by simp) ?_)
  refine wpAny_letGo ?_
  exact wpAny_pure (h hh.objs.size _ F2 N3 (fun p hp => Heap.lt_size (Nw p (.tail _ hp)).1) hlt F.ns.lt)
end
theorem meta_Exception : typeOf (.type "Exception") = pure (.type "type") := by kernel_rfl
local macro_rules | `(tactic| walk_at "getMethod type:Exception") => `(tactic| (k_here; refine' method_type ?F ?X ?m (by decide +kernel) ?e ?h ?_; (case F => k_asm); (case X => k_asm); (case m => exact meta_Exception); (case e => k_dflt k_is); (case h => k_handed)))

-- part E4
/-- an object keeps its own dict -/
def DK (e : Addr) (d : Option Addr) (h : Heap) : Prop := ∃ o, h.get? e = some o ∧ o.dict = d
def Tame {α : Type} : Sem α → Prop
  | .pure _ => True
  | .raise _ => True
  | .unsupported _ => True
  | .finish _ => True
  | .rule _ k => Tame (k ())
  | .at _ k => Tame (k ())
  | .load _ _ k => ∀ o, Tame (k o)
  | .update _ _ f k => (∀ o : Obj, (f o).dict = o.dict ∧ (o.isFreed = false → (f o).isFreed = false)) ∧ Tame (k ())
  | .alloc _ k => ∀ x, Tame (k x)
  | .loadIfAlive _ k => ∀ o, Tame (k o)
  | .point _ k => Tame (k ())
  | .register _ _ => True
  | .fresh k => ∀ x, Tame (k x)
  | .ask k => ∀ x, Tame (k x)
  | .stack k => ∀ x, Tame (k x)
  | .handled _ k => ∀ x, Tame (k x)
  | _ => False
theorem tame_bind {α β : Type} {f : α → Sem β} (hf : ∀ a, Tame (f a)) : ∀ {t : Sem α}, Tame t → Tame (t.bind f) := by
  intro t
  induction t with
  | pure a => intro _; exact hf a
  | raise => intro _; trivial
  | unsupported => intro _; trivial
  | finish => intro _; trivial
  | rule _ k ih => intro h; exact ih () h
  | «at» _ k ih => intro h; exact ih () h
  | load _ _ k ih => intro h o; exact ih o (h o)
  | update _ _ g k ih => intro h; exact ⟨h.1, ih () h.2⟩
  | alloc _ k ih => intro h o; exact ih o (h o)
  | loadIfAlive _ k ih => intro h o; exact ih o (h o)
  | point _ k ih => intro h; exact ih () h
  | register => intro _; trivial
  | fresh k ih => intro h o; exact ih o (h o)
  | ask k ih => intro h o; exact ih o (h o)
  | stack k ih => intro h o; exact ih o (h o)
  | handled _ k ih => intro h o; exact ih o (h o)
  | _ => intro h; exact h.elim
theorem tame_dk {α : Type} {M : Model} {Γ : PySem.Ctx} {e : Addr} {d : Option Addr} {Q : α → PySem.Pos → Shared → Prop} {E : Val → PySem.Pos → Shared → Prop} :
    ∀ {t : Sem α} {p : Pos} {s : Shared}, Tame t → DK e d s.heap → Sem.wp M Γ t (fun r p s' => DK e d s'.heap → Q r p s') E p s → Sem.wp M Γ t Q E p s := by
  intro t
  induction t with
  | pure a => intro p s _ hd h; exact h hd
  | raise => intro p s _ hd h; exact h
  | unsupported => intro p s _ hd h; exact h
  | finish => intro p s _ hd h; exact h
  | rule _ k ih => intro p s ht hd h; exact ih () ht hd h
  | «at» _ k ih => intro p s ht hd h; exact ih () ht hd h
  | load _ _ k ih =>
    intro p s ht hd h
    obtain ⟨o, ho, h⟩ := h
    exact ⟨o, ho, ih o (ht o) hd h⟩
  | update a _ g k ih =>
    intro p s ht hd h
    have hd' : DK e d (s.heap.update a g) := by
      obtain ⟨o, ho, hd⟩ := hd
      by_cases q : a = e
      · subst q
        exact ⟨_, Heap.get?_update_self g ho ((ht.1 o).2 (Heap.get?_some_iff.mp ho).2), (ht.1 o).1.trans hd⟩
      · exact ⟨o, (Heap.get?_update_other _ _ q).trans ho, hd⟩
    exact ⟨h.1, ih () ht.2 hd' h.2⟩
  | alloc o k ih =>
    intro p s ht hd h
    refine ih _ (ht _) ?_ h
    obtain ⟨o, ho, hd⟩ := hd
    exact ⟨o, Heap.get?_push_of_some _ ho, hd⟩
  | loadIfAlive _ k ih => intro p s ht hd h; exact ih _ (ht _) hd h
  | point _ k ih => intro p s ht hd h; exact ih () ht hd h
  | register => intro p s ht hd h; exact h
  | fresh k ih => intro p s ht hd h; exact ih _ (ht _) hd h
  | ask k ih => intro p s ht hd h; exact ih _ (ht _) hd h
  | stack k ih => intro p s ht hd h; exact ih _ (ht _) hd h
  | handled _ k ih => intro p s ht hd h; exact ih _ (ht _) hd h
  | _ => intro p s ht; exact ht.elim
theorem any_dk {α : Type} {M : Model} {A : Around} {e : Addr} {d : Option Addr} {t : Sem α} {Q : α → Shared → Prop} {E : Val → Shared → Prop} {s : Shared} (ht : Tame t) (hd : DK e d s.heap)
    (h : wpAny M A t (fun r s' => DK e d s'.heap → Q r s') E s) : wpAny M A t Q E s := fun Γ p hin => tame_dk ht hd (h Γ p hin)


theorem tame_load {α : Type} {a : Addr} {f : Obj → Sem α} (h : ∀ o, Tame (f o)) : Tame (load a >>= f) := fun o => h o
theorem tame_bind' {α β : Type} {t : Sem α} {f : α → Sem β} (ht : Tame t) (hf : ∀ a, Tame (f a)) : Tame (t >>= f) := tame_bind hf ht
theorem tame_pure {α : Type} (a : α) : Tame (pure a : Sem α) := trivial
theorem tame_unsup {α : Type} (a : String) : Tame (unsupported a : Sem α) := trivial
theorem tame_stack : Tame stack := fun _ => trivial
theorem tame_ld (a : Addr) : Tame (load a) := fun _ => trivial
theorem tame_fieldsOf (v : Val) : Tame (fieldsOf v) := by
  unfold fieldsOf
  split
  · refine tame_load fun o => ?_
    split
    · exact tame_pure _
    · exact tame_unsup _
  · exact tame_unsup _
theorem tame_field (v : Val) (i : Nat) : Tame (field v i) := by
  unfold field
  refine tame_bind' (tame_fieldsOf v) fun a => ?_
  split
  · exact tame_pure _
  · exact tame_unsup _
theorem dict_mapFields (f : Array Val → Array Val) (o : Obj) : (Obj.mapFields f o).dict = o.dict ∧ (o.isFreed = false → (Obj.mapFields f o).isFreed = false) := by
  obtain ⟨c, d, dt, sl⟩ := o
  cases dt <;> exact ⟨rfl, fun h => h⟩
theorem tame_setField (v : Val) (i : Nat) (x : Val) : Tame (setField v i x) := by
  unfold setField
  split
  · unfold updateField
    refine tame_load fun o => ?_
    split
    · split
      · exact ⟨fun o => dict_mapFields _ o, trivial⟩
      · exact tame_unsup _
    · exact tame_unsup _
  · exact tame_unsup _
theorem tame_setFlight (v : Val) (f : Option Addr) : Tame (setFlight v f) := by
  unfold setFlight
  refine tame_bind' (tame_field _ _) fun a => ?_
  split
  · exact tame_setField _ _ _
  · exact tame_pure _
theorem tame_frameEnvs : Tame frameEnvs := by
  unfold frameEnvs
  exact tame_bind' tame_stack fun a => tame_pure _
theorem tame_readyFrames : ∀ l : List Env, Tame (readyFrames l)
  | [] => tame_pure _
  | env :: outer => by
    unfold readyFrames
    split
    · refine tame_load fun o => ?_
      split
      · exact tame_pure _
      · refine tame_bind' ?_ fun im => ?_
        · unfold behindIsImport
          split
          · exact tame_pure _
          · split
            · exact tame_pure _
            · exact tame_bind' (tame_field _ _) fun _ => tame_pure _
        · refine tame_bind' ?_ fun bk => ⟨fun o => ⟨rfl, fun h => ?_⟩, tame_readyFrames outer⟩
          · unfold keptBack
            split
            · split
              · exact tame_pure _
              · unfold underTheClaimsCaller
                exact tame_bind' (tame_bind' tame_stack fun _ => tame_pure _) fun _ => tame_pure _
            · exact tame_pure _
          · exact (kts_isFreed o _).trans h
    · exact tame_unsup _
theorem tame_frameOf (env : Env) : Tame (PySem.frameOf env) := by
  unfold PySem.frameOf
  refine tame_bind' tame_frameEnvs fun l => tame_bind' ?_ fun r => ?_
  · unfold frameObject
    split
    · exact tame_pure _
    · exact tame_bind' (tame_readyFrames _) fun _ => tame_pure _
  · split
    · exact tame_pure _
    · exact tame_unsup _
theorem tame_entryPlace (f : Addr) (b : Bool) : Tame (entryPlaceOf f b) := by
  unfold entryPlaceOf
  refine tame_bind' tame_stack fun l => ?_
  split <;> exact tame_pure _
theorem tame_newObj (c : String) (dt : Data) : Tame (newObj (.type c) dt) := by
  have z : Tame (newObjAsIs (.type c) dt) := fun _ => trivial
  unfold newObj
  dsimp only
  split <;> repeat' (first | exact tame_bind' (tame_pure _) fun _ => z | exact tame_bind' (tame_unsup _) fun _ => z | exact z | split)
theorem tame_newEntry (a b c d e : Val) (l : List Val) : Tame (EntryCells.newEntry a b c d e l) := by
  unfold EntryCells.newEntry newFields
  exact tame_newObj _ _
theorem tame_noteFrame (v : Val) (env : Env) : Tame (noteFrame v env) := by
  unfold noteFrame
  split
  · refine tame_bind' (tame_field _ _) fun hd => ?_
    have tail : ∀ (f g : Addr) (b : Bool), Tame (do
      let fo ← PySem.frameOf env
      let pl ← entryPlaceOf f b
      let x ← EntryCells.newEntry hd fo .none (rawInt g) .none pl
      setField v 1 x) := fun f g b => tame_bind' (tame_frameOf env) fun _ => tame_bind' (tame_entryPlace _ _) fun _ => tame_bind' (tame_newEntry _ _ _ _ _ _) fun _ => tame_setField _ _ _
    split
    · refine tame_bind' (tame_field _ _) fun x => ?_
      split
      · exact tame_pure _
      · exact tame_bind' (tame_setField _ _ _) fun _ => tail _ _ _
    · exact tail _ _ _
  · exact tame_unsup _
theorem tame_leaving (env : Env) (v : Val) : Tame (leaving env v) := by
  unfold leaving
  exact tame_bind' (tame_noteFrame _ _) fun _ => tame_setFlight _ _

-- part E5
section
open Builtin Builtin.ObjectAttr
theorem refuse_exc (self : Val) : refuseLoop self "__setattr__" [.type "Exception", .type "BaseException", .type "object"] = pure () := by kernel_rfl
abbrev excMro (C : Addr) : List Val := [.ref C, .type "Exception", .type "BaseException", .type "object"]
section
variable {prog : Program} {w : World} {A : Around} {s : Shared} {K : Frag} {x C L : Addr} {h₀ : Heap} {m : PStr → Option Val} {R : Result → Shared → Prop}
theorem osa_exc {ox : Obj} {od : Option Obj} {cd : ClassData} {name : PStr} {tk : Tok} {v : Val} (X : K.In s.heap) (I : InstAt s.heap x ox C od) (hc : clsIn K C = some cd) (hm : cd.mro = excMro C) (ht : takerIn K C name = some none)
    (h : ∀ b, wpAny (model prog w) A.in1 (storeInOwnDict (.ref x) (.ref C) (.str name tk) name v b)
      (fun fin s' => match fin with | .done f => R (.ok f) s' | .again c' => c'.quiet = true ∧ codeAny (model prog w) A c' R s') (fun e s' => R (.error e) s') s) :
    codeAny (model prog w) A (.call (.builtin "object.__setattr__") ⟨[.ref x, .str name tk, v], []⟩) R s := by
  have SF := PySem.F.store_object
  have sub : Looks (model prog w) s.heap (isInstance (.ref x) (.type "object")) true := I.type.andThen (looks_mroIn X (by unfold mroIn; rw [hc, Option.bind_some, hm]; simp))
  refine codeAny_call_builtin SF.slot.plain SF.entry (@check_slot (model prog w) _ _ s "object.__setattr__" "object" "__setattr__" (.ref x) [.str name tk, v] [] _ SF.kind SF.split sub (SF.args (.ref x) (.str name tk) v) ?_)
  obtain ⟨attr, ha, hr⟩ := Option.bind_eq_some_iff.mp ht
  have lm : Looks (model prog w) s.heap (mroOf (.ref C)) cd.mro := (looks_clsIn X hc).andThen .now
  have L3 : Looks (model prog w) s.heap (storeTaker? attr) none := by
    cases attr with
    | none => exact .now
    | some a =>
      obtain ⟨b, hb, e⟩ := Option.map_eq_some_iff.mp hr
      refine (looks_takesIn X hb).andThen ?_
      cases b
      · exact .now
      · cases e
  rw [osa_eq, refuse_eq]
  refine wpAny_bind (wpAny_bind (I.type.here (wpAny_bind (lm.here ?_))))
  rw [hm, refuseLoop_ref, refuse_exc]
  refine wpAny_pure (wpAny_bind (I.type.here (wpAny_bind ((looks_findIn X ha).here (wpAny_bind (L3.here ?_))))))
  exact h _

theorem put_dict {E : Val → Shared → Prop} {Q : Fin → Shared → Prop} {news news' : Led} {dx : Addr} {name : PStr} {tk : Tok} {v : Val} {es : List DictEntry} {n : Nat} (F : Fr h₀ L s.heap m) (N : News h₀ L s.heap news)
    (U : Upd dx (dictOf es n) (dictOf (putL name (PyData.keyHash w.params name) (.str name s.toks) v es) (putN name es n)) news news')
    (hl : (getL name es).isSome = true) (hz : (putL name (PyData.keyHash w.params name) (.str name s.toks) v es).length ≤ 1000)
    (h : ∀ h', Fr h₀ L h' m → News h₀ L h' news' → Q (.done (.ret .none)) { s with heap := h', toks := s.toks + 1 }) :
    wpAny (model prog w) A (storeInDict dx (.str name tk) name v) Q E s := by
  obtain ⟨pre, post, rfl, rfl, h1, h2⟩ := U.split
  obtain ⟨U1, U2⟩ := news_upd (f := Obj.putName name (PyData.keyHash w.params name) (.str name s.toks) v) F N h1 h2 (putName_dict _ _ _ _ _ _) rfl
  have D := (N (dx, dictOf es n) (by simp)).1
  have D' := (U2 (dx, dictOf (putL name (PyData.keyHash w.params name) (Value.str name s.toks) v es) (putN name es n)) (by simp)).1
  have hl' : (lookIn name (dictOf es n)).isSome = true := hl
  unfold storeInDict newKeyGuard
  refine wpAny_bind (wpAny_pure (wpAny_bind ?_))
  unfold nsSet
  refine wpAny_bind (wpAny_bind (wpAny_askSetting (wpAny_pure (wpAny_bind (wpAny_mkText (wpAny_bind (wpAny_loadPart D ?_)))))))
  dsimp only
  have c : (!es.toArray.any (·.key.isStr name) && es.toArray.any (·.refKey)) = false := by
    rw [← Array.any_toList, ← Array.any_toList]
    unfold lookIn at hl'
    dsimp only at hl'
    split at hl'
    · rename_i en he
      rw [List.any_eq_true.mpr ⟨en, List.mem_of_find?_eq_some he, List.find?_some he⟩]; rfl
    · split at hl'
      · cases hl'
      · rename_i z; rw [Bool.not_eq_true] at z; rw [show (es.toArray.toList.any fun x => x.refKey) = false from z, Bool.and_false]
  rw [aRefKeyMayBeTheName_at, c]
  refine wpAny_updatePart D ?_
  refine wpAny_bind (wpAny_lookBehind D' (pastItsLine_dict (by rw [List.size_toArray, sizeLine_eq]; omega)) ?_)
  exact wpAny_pure (h _ U1 U2)
theorem store_old {E : Val → Shared → Prop} {Q : Fin → Shared → Prop} {cd : ClassData} {t dx : Addr} {rest : Led} {name : PStr} {tk : Tok} {v : Val} {es : List DictEntry} {n : Nat} {b : Bool}
    (F : Fr h₀ L s.heap m) (X : K.In s.heap) (N : News h₀ L s.heap ((x, excObj C t (some dx)) :: (dx, dictOf es n) :: rest)) (hne : x ≠ dx) (hr : ∀ p ∈ rest, p.1 ≠ dx)
    (hc : clsIn K C = some cd) (hh : cd.hasDict = true) (hl : (getL name es).isSome = true)
    (hz : (putL name (PyData.keyHash w.params name) (.str name s.toks) v es).length ≤ 1000)
    (h : ∀ h', Fr h₀ L h' m → News h₀ L h' ((x, excObj C t (some dx)) :: (dx, dictOf (putL name (PyData.keyHash w.params name) (.str name s.toks) v es) (putN name es n)) :: rest) → Q (.done (.ret .none)) { s with heap := h', toks := s.toks + 1 }) :
    wpAny (model prog w) A (storeInOwnDict (.ref x) (.ref C) (.str name tk) name v b) Q E s := by
  have hx := (N _ (.head _)).1
  refine wpAny_bind (wpAny_pure (wpAny_bind (wpAny_bind (wpAny_loadPart hx (wpAny_bind ((looks_clsIn X hc).here ?_))))))
  rw [hh]
  refine wpAny_pure (a := some dx) (wpAny_bind (wpAny_pure ?_))
  exact put_dict (tk := tk) F N (.tail hne (.head hr)) hl hz h
theorem store_new {E : Val → Shared → Prop} {Q : Fin → Shared → Prop} {cd : ClassData} {t : Addr} {rest : Led} {name : PStr} {tk : Tok} {v : Val} {b : Bool}
    (F : Fr h₀ L s.heap m) (X : K.In s.heap) (N : News h₀ L s.heap ((x, excObj C t none) :: rest)) (hr : ∀ p ∈ rest, p.1 ≠ x)
    (hc : clsIn K C = some cd) (hh : cd.hasDict = true)
    (h : ∀ (dx : Addr) h', @LT.lt Nat _ x dx → (∀ p ∈ rest, p.1 < dx) → @LT.lt Nat _ L dx → Fr h₀ L h' m → News h₀ L h' ((x, excObj C t (some dx)) :: (dx, dictOf [⟨PyData.keyHash w.params name, .str name s.toks, v⟩] 1) :: rest) → Q (.done (.ret .none)) { s with heap := h', toks := s.toks + 1 }) :
    wpAny (model prog w) A (storeInOwnDict (.ref x) (.ref C) (.str name tk) name v b) Q E s := by
  have hx := (N _ (.head _)).1
  have hlt : x < s.heap.objs.size := Heap.lt_size hx
  refine wpAny_bind (wpAny_pure (wpAny_bind (wpAny_bind (wpAny_loadPart hx (wpAny_bind ((looks_clsIn X hc).here ?_))))))
  rw [hh]
  have F1 : Fr h₀ L (s.heap.push (dictOf [] 0)) m := F.keeps fun b o e => Heap.get?_push_of_some _ e
  have N1 : News h₀ L (s.heap.push (dictOf [] 0)) ([] ++ (x, excObj C t none) :: (s.heap.objs.size, dictOf [] 0) :: rest) := fun p hp => by
    rcases List.mem_cons.mp hp with rfl | hp
    · exact ⟨Heap.get?_push_of_some _ (N _ (.head _)).1, (N _ (.head _)).2⟩
    · rcases List.mem_cons.mp hp with rfl | hp
      · refine ⟨Heap.get?_push_size _ rfl, Nat.ne_of_gt F.ns.lt, ?_⟩
        cases q : h₀.get? s.heap.objs.size with
        | none => rfl
        | some o => exact absurd (Heap.lt_size (F.keep _ _ q)) (Nat.lt_irrefl _)
      · exact ⟨Heap.get?_push_of_some _ (N _ (.tail _ hp)).1, (N _ (.tail _ hp)).2⟩
  obtain ⟨U1, U2⟩ := news_upd (f := fun o => { o with dict := some s.heap.objs.size }) F1 N1 (fun _ h => nomatch h) (fun p hp => by
    rcases List.mem_cons.mp hp with rfl | hp
    · exact Nat.ne_of_gt hlt
    · exact hr p hp) (o' := excObj C t (some s.heap.objs.size)) rfl rfl
  refine wpAny_bind (wpAny_alloc' (wpAny_bind (wpAny_update' (N1 _ (.head _)).1 (wpAny_pure ?_))))
  exact put_dict (tk := tk) (s := { s with heap := (s.heap.push (dictOf [] 0)).update x fun o => { o with dict := some s.heap.objs.size } }) U1 U2 (.tail (Nat.ne_of_lt hlt) (.head fun p hp => Nat.ne_of_lt (Heap.lt_size (N p (.tail _ hp)).1))) rfl (by simp [putL])
    fun h' F' N' => h _ h' hlt (fun p hp => Heap.lt_size (N p (.tail _ hp)).1) F.ns.lt F' N'
theorem set_old {E : Val → Shared → Prop} {Q : Unit → Shared → Prop} {cd : ClassData} {t dx : Addr} {rest : Led} {name : PStr} {v : Val} {es : List DictEntry} {n : Nat}
    (F : Fr h₀ L s.heap m) (X₀ : K.In h₀) (N : News h₀ L s.heap ((x, excObj C t (some dx)) :: (dx, dictOf es n) :: rest)) (hne : @Ne Nat x dx) (hr : ∀ p ∈ rest, p.1 ≠ dx)
    (hc : clsIn K C = some cd) (hm : cd.mro = excMro C) (hh : cd.hasDict = true)
    (hs : findIn K (.ref C) "__setattr__" = some (some (.builtin "object.__setattr__"))) (ht : takerIn K C name = some none) (hl : (getL name es).isSome = true)
    (hz : (putL name (PyData.keyHash w.params name) (.str name (s.toks + 1)) v es).length ≤ 1000)
    (h : ∀ h', Fr h₀ L h' m → News h₀ L h' ((x, excObj C t (some dx)) :: (dx, dictOf (putL name (PyData.keyHash w.params name) (.str name (s.toks + 1)) v es) (putN name es n)) :: rest) → Q () { s with heap := h', toks := s.toks + 2 }) :
    wpAny (model prog w) A (setAttr (.ref x) name v) Q E s := by
  have X := X₀.keeps F.keep
  have I : InstAt s.heap x (excObj C t (some dx)) C (some (dictOf es n)) := ⟨(N _ (.head _)).1, rfl, rfl, (N _ (.tail _ (.head _))).1⟩
  exact set_plain X I hs (osa_exc (s := { s with toks := s.toks + 1 }) X I hc hm ht fun b => store_old (s := { s with toks := s.toks + 1 }) F X N hne hr hc hh hl hz fun h' F' N' => h h' F' N')
theorem set_new {E : Val → Shared → Prop} {Q : Unit → Shared → Prop} {cd : ClassData} {t : Addr} {rest : Led} {name : PStr} {v : Val}
    (F : Fr h₀ L s.heap m) (X₀ : K.In h₀) (N : News h₀ L s.heap ((x, excObj C t none) :: rest)) (hr : ∀ p ∈ rest, p.1 ≠ x)
    (hc : clsIn K C = some cd) (hm : cd.mro = excMro C) (hh : cd.hasDict = true)
    (hs : findIn K (.ref C) "__setattr__" = some (some (.builtin "object.__setattr__"))) (ht : takerIn K C name = some none)
    (h : ∀ (dx : Addr) h', @LT.lt Nat _ x dx → (∀ p ∈ rest, p.1 < dx) → @LT.lt Nat _ L dx → Fr h₀ L h' m → News h₀ L h' ((x, excObj C t (some dx)) :: (dx, dictOf [⟨PyData.keyHash w.params name, .str name (s.toks + 1), v⟩] 1) :: rest) → Q () { s with heap := h', toks := s.toks + 2 }) :
    wpAny (model prog w) A (setAttr (.ref x) name v) Q E s := by
  have X := X₀.keeps F.keep
  have I : InstAt s.heap x (excObj C t none) C none := ⟨(N _ (.head _)).1, rfl, rfl, trivial⟩
  exact set_plain X I hs (osa_exc (s := { s with toks := s.toks + 1 }) X I hc hm ht fun b => store_new (s := { s with toks := s.toks + 1 }) F X N hr hc hh fun dx h' a1 a2 a3 F' N' => h dx h' a1 a2 a3 F' N')
end

end

-- part Mut
/-- the end of a callee that may change what it was handed -/
def LeaveM (h₀ : Heap) (L : Addr) (m : PStr → Option Val) (g : Heap) (oth : Led) (R : Result → Shared → Prop) (v : Val) (s' : Shared) : Prop :=
  ∃ L' m' news', Fr g L' s'.heap m' ∧ News g L' s'.heap news' ∧ (Fr h₀ L s'.heap m → News h₀ L s'.heap (news' ++ oth) → R (.ok (.ret v)) s')
theorem leaveM_ {h₀ g : Heap} {L L' : Addr} {m m' : PStr → Option Val} {oth news' : Led} {R : Result → Shared → Prop} {v : Val} {s' : Shared} (F' : Fr g L' s'.heap m') (N' : News g L' s'.heap news')
    (k : Fr h₀ L s'.heap m → News h₀ L s'.heap (news' ++ oth) → R (.ok (.ret v)) s') : LeaveM h₀ L m g oth R v s' := ⟨L', m', news', F', N', k⟩
section
variable {prog : Program} {w : World} {A₀ A : Around} {s : Shared} {base h₀ : Heap} {outer : List Env} {L : Addr} {m : PStr → Option Val} {env : Env} {args oth : Led} {K : Frag} {p : Program} {loose : List PStr} {mean : ExcName → Option Val} {mg mb : PStr → Option Val}
  {R : Result → Shared → Prop} {name qual : PStr} {params : Arguments} {body : List Stmt} {scope : Scope} {dV kV doc pm cdv ct oc : Val} {an od : Option Addr} {osl : Array (Option Val)} {f : Addr} {av : Args} {binds : List (PStr × Val)}
theorem code_mut (B : Below A₀ base outer h₀) (F : Fr h₀ L s.heap m) (X₀ : K.In h₀) (N : News h₀ L s.heap (args ++ oth)) (T : Top p loose mean mg mb h₀) (hA : A.frames = some (env :: outer)) (hf : env.frame = some L) (hke : env.scope.kind = .function)
    (ho : K.lookup f = some ⟨oc, od, .func (fnOf name qual params body scope dV kV doc pm an cdv ct), osl⟩) (hcd : codeIn K cdv qual = true) (hroom : A.depth < recursionLimit)
    (hbind : BindsTo s (fnOf name qual params body scope dV kV doc pm an cdv ct) av binds) (hloc : ∀ y ∈ binds, scope.names.lookup y.1 = some .local) (hdis : ∀ p ∈ oth, p.1 ∉ args.map (·.1))
    (h : ∀ g L' h₁, Fr h₀ L g m → Fr g L' h₁ (fun y => binds.reverse.lookup y) → News g L' h₁ args → Below A base (env :: outer) g → K.In g → Top p loose mean mg mb g → (∀ p ∈ args, p.1 < L') → (∀ p ∈ oth, p.1 < L') → @LT.lt Nat _ L L' →
      wpAny (model prog w) (A.deeper (envOf qual scope L' f cdv)) (execs body (envOf qual scope L' f cdv))
        (fun fl s' => LeaveM h₀ L m g oth R (match fl with | .ret v => v | _ => .none) s')
        (fun e s' => wpAny (model prog w) (A.deeper (envOf qual scope L' f cdv)) (leaving (envOf qual scope L' f cdv) e) (fun _ s'' => R (.error e) s'') (fun e' s'' => R (.error e') s'') s')
        { s with heap := h₁, toks := s.toks + binds.length })
    (hco : scope.isCoroutine = false) (hgen : scope.isGenerator = false) (hk : scope.kind = .function)
    (hcell : ∀ x ∈ scope.names, x.2 ≠ .cell) : codeAny (model prog w) A (.call (.ref f) av) R s := by
  have Na : News h₀ L s.heap args := fun q hq => N q (List.mem_append_left _ hq)
  have No : News h₀ L s.heap oth := fun q hq => N q (List.mem_append_right _ hq)
  obtain ⟨FG, BG, st, lv⟩ := groundX (R := R) B F Na hA hf hke
  refine codeAny_call_def (fd := fnOf name qual params body scope dV kV doc pm an cdv ct) (body := body) (binds := binds) hroom ((X₀.keeps F.keep) _ _ ho) rfl (T.nolimit.keeps F.keep) (codeRec_of (X₀.keeps F.keep) hcd) rfl hbind hcell hloc (fun h₁ hns hk₁ => ?_) hco hgen hk
  have hoth : ∀ q ∈ oth, (hideAll s.heap (args.map (·.1))).get? q.1 = some q.2 := fun q hq => hideAll_get _ (No q hq).1 (hdis q hq)
  refine wpAny_mono (h _ s.heap.objs.size h₁ FG ⟨hns, fun b o e => hk₁ b o (of_hideAll _ e), Nat.le_of_eq (hideAll_size _ _)⟩
    (fun q hq => ⟨hk₁ _ _ (Na q hq).1, Nat.ne_of_lt (Heap.lt_size (Na q hq).1), hideAll_none _ (List.mem_map_of_mem hq)⟩) BG (X₀.keeps st) (T.keeps st) (fun q hq => Heap.lt_size (Na q hq).1) (fun q hq => Heap.lt_size (No q hq).1) F.ns.lt) (fun fl s' hl => ?_) fun _ _ y => y
  obtain ⟨L', m', news', F', N', k⟩ := hl
  refine lv _ s' ⟨L', m', news', F', N', fun Fk Nk => k Fk fun q hq => ?_⟩
  rcases List.mem_append.mp hq with hq | hq
  · exact Nk q hq
  · exact ⟨F'.keep _ _ (hoth q hq), (No q hq).2⟩
end
local macro_rules | `(tactic| walk_at "LeaveM") => `(tactic| (k_dflt (refine' leaveM_ ?k1 ?k2 ?_; (case k1 => k_asm); (case k2 => k_asm); k_whole); intro kF kN; ground_anew kF; (have kX := kFor kF (by k_asm)); (try dsimp only)))
local macro_rules | `(tactic| k_call_rec "my_mut" $args $oth $z) => `(tactic| (refine wpAny_call ?_; k_dflt (refine' code_mut (args := $args) (oth := $oth) ?k1 ?k2 ?k3 ?k4 ?k5 ?kA ?kF ?kK ?k6 ?k7 ?k8 ?k9 ?kB ?ka ?_ ?c2 ?c3 ?c4 ?c5; (case kA => exact rfl); (case kF => exact rfl); (case kK => assumption); (case k1 => k_asm); (case k2 => k_asm); (case k3 => k_asm); (case k4 => first | assumption | k_asm); (case k5 => k_asm); (case k6 => k_is); (case k7 => k_is); (case k8 => ktr_room); (case k9 => exact BindsTo.of_eq rfl); (case c5 => decide); (case kB => exact locs rfl); (case c2 => exact rfl); (case c3 => exact rfl); (case c4 => exact rfl); (case ka => assumption); k_whole; intro g' L' h' FG' F' N' B' X' T' l1 hL1 hL2; (try k_lt l1); (try dsimp only); (try k_lift B'); (try k_fold))))

-- part E6
theorem putL_len (n : PStr) (h : Int) (k v : Val) : ∀ es : List DictEntry, (putL n h k v es).length ≤ es.length + 1
  | [] => Nat.le_refl _
  | e :: r => by
    unfold putL
    split
    · simp
    · have := putL_len n h k v r
      simpa using this
/-- gives a new exception of an own class, its dict and its args -/
abbrev RetX (C : Addr) (P : List DictEntry → Prop) (news : Led) (h₀ : Heap) (L : Addr) (m : PStr → Option Val) (s : Shared) (Q : Val → Shared → Prop) : Prop :=
  ∀ (e dx t : Addr) (es : List DictEntry) (n : Nat) (vs : List Val) (h' : Heap) (tk' : Nat), @Ne Nat e dx → @Ne Nat e t → @Ne Nat dx t → (∀ p ∈ news, p.1 ≠ e ∧ p.1 ≠ dx ∧ p.1 ≠ t) → P es → Fr h₀ L h' m →
    News h₀ L h' ((e, excObj C t (some dx)) :: (dx, dictOf es n) :: (t, tupObj vs) :: news) → Q (.ref e) { s with heap := h', toks := tk' }
theorem ret_x {C : Addr} {P : List DictEntry → Prop} {news all : Led} {h₀ : Heap} {L L' : Addr} {m : PStr → Option Val} {s : Shared} {Q : Val → Shared → Prop} {e dx t : Addr} {es : List DictEntry} {n : Nat} {vs : List Val} {h' : Heap} {tk' : Nat}
    (hret : RetX C P news h₀ L m s Q) (d1 : @LT.lt Nat _ e dx) (l2 : @LT.lt Nat _ e t) (d4 : @LT.lt Nat _ t dx) (hL : ∀ p ∈ news, p.1 < L') (d3 : @LT.lt Nat _ L' dx) (l3 : @LT.lt Nat _ L' t) (ne1 : ∀ p ∈ news, p.1 ≠ e)
    (F : Fr h₀ L h' m) (N : News h₀ L h' ((e, excObj C t (some dx)) :: (dx, dictOf es n) :: (t, tupObj vs) :: (all ++ news))) (hp : P es) : Q (.ref e) { s with heap := h', toks := tk' } :=
  hret e dx t es n vs h' tk' (Nat.ne_of_lt d1) (Nat.ne_of_lt l2) (Nat.ne_of_gt d4) (fun p q => ⟨ne1 p q, Nat.ne_of_lt (Nat.lt_trans (hL p q) d3), Nat.ne_of_lt (Nat.lt_trans (hL p q) l3)⟩) hp F fun p q => by
    rcases List.mem_cons.mp q with rfl | q
    · exact N _ (.head _)
    · rcases List.mem_cons.mp q with rfl | q
      · exact N _ (.tail _ (.head _))
      · rcases List.mem_cons.mp q with rfl | q
        · exact N _ (.tail _ (.tail _ (.head _)))
        · exact N _ (.tail _ (.tail _ (.tail _ (List.mem_append_right _ q))))
section
set_option maxHeartbeats 8000000 in
theorem h3_make {w : World} {mean mg mb} {x : PStr} {t1 t2 : Tok} (hx : x.length ≤ 1000) :
    Pw w mean mg mb [] 6 51 [.int 265 t1, .str x t2] (RetX 51 fun es => ∃ tk, getL "code" es = some (some (.int 265 tk))) := by
  walk_at "fill_k"
  intro dp un gd cn cs a ccd cl outer A₀ base h₀ L m news s Q E B F X N T hkk ha hdp hu hret
  refine make_exc (news := news) F X N (by k_is) (by k_is) ?hk rfl (by k_is) rfl ?_
  case hk => intro e he; simp at he; rcases he with rfl | rfl | rfl | rfl | rfl | rfl <;> exact ⟨_, _, rfl⟩
  intro e t h' F' N' ne1 ne2 nte
  have hdis : ∀ p ∈ news, p.1 ∉ [(e, excObj 51 t none), (t, tupObj [.int 265 t1, .str x t2])].map (·.1) := fun p hp => by
    simp; exact ⟨ne1 p hp, ne2 p hp⟩
  k_call_rec "my_mut" [(e, excObj 51 t none), (t, tupObj [.int 265 t1, .str x t2])] news rfl
  k_steps
  refine exc_init (by k_asm) (by k_asm) (by k_asm) (fun p hp => ?_) (by k_is) ?_
  · rcases List.mem_cons.mp hp with rfl | hp
    · exact nte
    · nomatch hp
  intro t2' h1 F1 N1 l1 l2 l3
  k_lt l1
  k_steps
  refine set_new (by k_asm) (by k_asm) (by k_asm) (fun p hp => ?_) (by k_is) rfl rfl (by k_is) (by k_is) ?_
  · rcases List.mem_cons.mp hp with rfl | hp
    · exact Nat.ne_of_gt l2
    · rcases List.mem_cons.mp hp with rfl | hp
      · exact nte
      · nomatch hp
  intro dx h2 d1 d2 d3 F2 N2
  have d4 := d2 _ (.head _)
  have d5 := d2 _ (.tail _ (.head _))
  k_lt d2
  k_steps
  refine set_old (by k_asm) (by k_asm) (by k_asm) (Nat.ne_of_lt d1) (fun p hp => ?_) (by k_is) rfl rfl (by k_is) (by k_is) ?_ (Nat.le_trans (putL_len _ _ _ _ _) (by simp)) ?_
  · rcases List.mem_cons.mp hp with rfl | hp
    · exact Nat.ne_of_lt d4
    · rcases List.mem_cons.mp hp with rfl | hp
      · exact Nat.ne_of_lt d5
      · nomatch hp
  · with_unfolding_all rfl
  intro h3 F3 N3
  k_steps
  exact ret_x (all := [(t, _)]) hret d1 l2 d4 (by assumption) d3 l3 ne1 (by k_asm) (by assumption) ⟨_, by with_unfolding_all rfl⟩
end

-- part E7
section
set_option maxHeartbeats 8000000 in
theorem short_make {w : World} {mean mg mb} {x : PStr} {t1 : Tok} (hx : x.length ≤ 1000) :
    Pw w mean mg mb [] 6 71 [.str x t1] (RetX 71 fun _ => True) := by
  walk_at "fill_k"
  intro dp un gd cn cs a ccd cl outer A₀ base h₀ L m news s Q E B F X N T hkk ha hdp hu hret
  refine make_exc (news := news) F X N (by k_is) (by k_is) ?hk rfl (by k_is) rfl ?_
  case hk => intro e he; simp at he; rcases he with rfl | rfl | rfl | rfl | rfl | rfl <;> exact ⟨_, _, rfl⟩
  intro e t h' F' N' ne1 ne2 nte
  have hdis : ∀ p ∈ news, p.1 ∉ [(e, excObj 71 t none), (t, tupObj [.str x t1])].map (·.1) := fun p hp => by
    simp; exact ⟨ne1 p hp, ne2 p hp⟩
  k_call_rec "my_mut" [(e, excObj 71 t none), (t, tupObj [.str x t1])] news rfl
  k_steps
  refine exc_init (by k_asm) (by k_asm) (by k_asm) (fun p hp => ?_) (by k_is) ?_
  · rcases List.mem_cons.mp hp with rfl | hp
    · exact nte
    · nomatch hp
  intro t2' h1 F1 N1 l1 l2 l3
  k_lt l1
  k_steps
  refine set_new (by k_asm) (by k_asm) (by k_asm) (fun p hp => ?_) (by k_is) rfl rfl (by k_is) (by k_is) ?_
  · rcases List.mem_cons.mp hp with rfl | hp
    · exact Nat.ne_of_gt l2
    · rcases List.mem_cons.mp hp with rfl | hp
      · exact nte
      · nomatch hp
  intro dx h2 d1 d2 d3 F2 N2
  have d4 := d2 _ (.head _)
  have d5 := d2 _ (.tail _ (.head _))
  k_lt d2
  k_steps
  exact ret_x (all := [(t, _)]) hret d1 l2 d4 (by assumption) d3 l3 ne1 (by k_asm) (by assumption) trivial
end

-- part F1
section
variable {M : Model} {A : Around} {E : Val → Shared → Prop} {env : Env}
variable {nm q : PStr} {C N : Addr} {bs bm : List Val} {hdct : Bool} {sn : List PStr} {sub : List Val} {ab : Bool} {col : Option Bool} {dd : Option Addr} {k0 k1 k2 k3 k5 : Option Val} {newId : String}
/-- raising a fresh exception of an own class, whatever its dict -/
theorem raise_inst {s : Shared} {x : Sem Val} {Q : Flow → Shared → Prop} (hbase : bm.contains (.type "BaseException") = true) (hh : A.handled = none)
    (h : wpAny M A x (fun v s₁ => ∃ e t dx, v = .ref e ∧ s₁.heap.get? C = some (excClassObj nm q C N bs bm hdct sn sub ab col dd k0 k1 k2 k3 k5 newId) ∧
      s₁.heap.get? e = some (excObj C t dx) ∧ E (.ref e) s₁) E s) :
    wpAny M A (raiseStmt env (some x) none) Q E s := by
  have hcB : (Value.ref C :: bm).contains (.type "BaseException") = true := by rw [List.contains_cons, hbase, Bool.or_true]
  unfold raiseStmt
  refine wpAny_bind (wpAny_mono h (fun v s₁ h₁ => ?_) fun _ _ x => x)
  obtain ⟨e, t, dx, rfl, hC, he, hE⟩ := h₁
  obtain ⟨hp, g, d, tk, os⟩ := s₁
  repeat (first | with_reducible refine wpAny_loadPart_at he ?_ | with_reducible refine wpAny_loadPart_at hC ?_ | (with_reducible refine wpAny_isSubtype_exc hC ?_; rw [hcB]) | wp_step)
  exact wpAny_raiseNew_none hh hE
theorem Raise_inst {s : Shared} {x : PySem.Expr} {pos : PySem.Pos} {Q : Flow → Shared → Prop} (hbase : bm.contains (.type "BaseException") = true) (hh : A.handled = none)
    (h : wpAny M A (eval x env) (fun v s₁ => ∃ e t dx, v = .ref e ∧ s₁.heap.get? C = some (excClassObj nm q C N bs bm hdct sn sub ab col dd k0 k1 k2 k3 k5 newId) ∧
      s₁.heap.get? e = some (excObj C t dx) ∧ E (.ref e) s₁) E s) :
    wpAny M A (exec (.Raise (some x) none pos) env) Q E s := by
  rw [arm_exec_Raise]
  refine wpAny_bind (wpAny_standAt (raise_inst (C := C) (nm := nm) (q := q) (N := N) (bs := bs) (bm := bm) (hdct := hdct) (sn := sn) (sub := sub) (ab := ab) (col := col) (dd := dd) (k0 := k0) (k1 := k1) (k2 := k2) (k3 := k3) (k5 := k5) (newId := newId) hbase hh ?_))
  exact wpAny_bind (wpAny_mono h (fun v s₃ h₃ => wpAny_bind (wpAny_standAt (wpAny_pure h₃))) fun _ _ x => x)
end
/-- an own exception on its way out -/
def RaisedD (base G : Heap) (l : List Env) (e C t : Addr) (vs : List Val) (dx : Addr) (es : List DictEntry) (n : Nat) (h : Heap) : Prop :=
  RaisedS base G l e (.ref C) t vs [(dx, dictOf es n)] h ∧ DK e (some dx) h
section
variable {M : Model} {A : Around} {E : Val → Shared → Prop} {s' : Shared} {base g g₂ : Heap} {outer : List Env} {L a e t C dx : Addr} {m : PStr → Option Val} {name : PStr} {scope : Scope} {cd : Val} {Q : Unit → Shared → Prop} {news : Led} {vs : List Val} {es : List DictEntry} {n : Nat}
theorem leave_raiseD (K : Below A base outer g) (F : Fr g L s'.heap m) (N : News g L s'.heap ((e, excObj C t (some dx)) :: (dx, dictOf es n) :: (t, tupObj vs) :: news)) (n1 : @Ne Nat e dx) (n2 : @Ne Nat e t) (n3 : @Ne Nat dx t)
    (hQ : ∀ h', RaisedD base g outer e C t vs dx es n h' → g.UpToSlots h' → Q () { s' with heap := h' }) (hk : scope.kind = .function := by rfl) :
    wpAny M (A.deeper (envOf name scope L a cd)) (leaving (envOf name scope L a cd) (.ref e)) Q E s' := by
  have K' := K.push (name := name) (a := a) (cd := cd) F hk
  have Ne' := N _ (.head _)
  have Nd := N _ (.tail _ (.head _))
  have Nt := N _ (.tail _ (.tail _ (.head _)))
  have hin : ∀ env ∈ (envOf name scope L a cd :: outer), ∀ b, env.frame = some b → b ∈ e :: t :: (envOf name scope L a cd :: outer).filterMap (·.frame) := fun env he b hb => .tail _ (.tail _ (List.mem_filterMap.mpr ⟨env, he, hb⟩))
  have fz : ∀ b o, b ∈ outer.filterMap (·.frame) → g.get? b = none → s'.heap.get? b = some o → False := fun b o hm hg _ => by
    obtain ⟨env, he, hf⟩ := List.mem_filterMap.mp hm
    obtain ⟨o', ho', _⟩ := (K.frames.mem (List.mem_filterMap.mpr ⟨env, he, hf⟩)).2
    rw [hg] at ho'; cases ho'
  have nb : ∀ b o, base.get? b = some o → b ≠ e ∧ b ≠ t := fun b o q => ⟨fun z => (by have := K.stays b o q; rw [z, Ne'.2.2] at this; cases this), fun z => (by have := K.stays b o q; rw [z, Nt.2.2] at this; cases this)⟩
  have ng : ∀ b o, g.get? b = some o → b ≠ e ∧ b ≠ t := fun b o q => ⟨fun z => (by rw [z, Ne'.2.2] at q; cases q), fun z => (by rw [z, Nt.2.2] at q; cases q)⟩
  have st : base.StaysIn (hideAll s'.heap (e :: t :: (envOf name scope L a cd :: outer).filterMap (·.frame))) := fun b o q => hideAll_get _ (K'.stays b o q) fun hm => by
    rcases List.mem_cons.mp hm with z | hm
    · exact (nb b o q).1 z
    · rcases List.mem_cons.mp hm with z | hm
      · exact (nb b o q).2 z
      · rw [(K'.frames.mem hm).1] at q; cases q
  have sg : ∀ b o, g.get? b = some o → b ∉ outer.filterMap (·.frame) → (hideAll s'.heap (e :: t :: (envOf name scope L a cd :: outer).filterMap (·.frame))).get? b = some o := fun b o q nm => hideAll_get _ (F.keep b o q) fun hm => by
    rcases List.mem_cons.mp hm with z | hm
    · exact (ng b o q).1 z
    · rcases List.mem_cons.mp hm with z | hm
      · exact (ng b o q).2 z
      · rcases kts_mem hm with z | z
        · rw [z, kts_self F] at q
          cases q
        · exact nm z
  have hl : ∀ q ∈ [(dx, dictOf es n)], (hideAll s'.heap (e :: t :: (envOf name scope L a cd :: outer).filterMap (·.frame))).get? q.1 = some q.2 ∧ g.get? q.1 = none ∧ base.get? q.1 = none := fun q hq => by
    obtain rfl := List.mem_singleton.mp hq
    refine ⟨hideAll_get _ Nd.1 fun hm => ?_, Nd.2.2, fresh_of_stays K.stays Nd.2.2⟩
    rcases List.mem_cons.mp hm with z | hm
    · exact n1 z.symm
    · rcases List.mem_cons.mp hm with z | hm
      · exact n3 z
      · rcases kts_mem hm with z | z
        · exact Nd.2.1 z
        · exact fz _ _ z Nd.2.2 Nd.1
  refine any_dk (e := e) (d := some dx) (tame_leaving _ _) ⟨_, Ne'.1, rfl⟩ ?_
  refine wpAny_leaving_firstW (base := hideAll s'.heap (e :: t :: (envOf name scope L a cd :: outer).filterMap (·.frame))) (a0 := .ref t) K'.stack (funFrames_hide K'.frames hin) rfl Ne'.1 (fun b o q => of_hideAll _ q)
    (hideAll_none _ (.head _)) rfl rfl rfl fun h' hL hdk => ?_
  obtain ⟨k1, ⟨_, _, k2⟩, k3, k4⟩ := hL
  exact hQ h' ⟨⟨⟨_, st, sg, hl, ⟨k1, hideAll_none _ (.head _), k2, k3⟩, hideAll_none _ (.tail _ (.head _))⟩, Heap.TupAt.of_slots ⟨_, _, Nt.1, rfl, rfl⟩ k4⟩, hdk⟩ ((Heap.UpToSlots.of_keeps F.keep).trans k4)
theorem leave_onD (K : Below A base outer g) (F : Fr g L g₂ m) (R : RaisedD base g₂ (envOf name scope L a cd :: outer) e C t vs dx es n s'.heap) (hsm : g₂.UpToSlots s'.heap)
    (hQ : ∀ h', RaisedD base g outer e C t vs dx es n h' → g.UpToSlots h' → Q () { s' with heap := h' }) :
    wpAny M (A.deeper (envOf name scope L a cd)) (leaving (envOf name scope L a cd) (.ref e)) Q E s' :=
  any_dk (tame_leaving _ _) R.2 (leave_onS K F R.1 hsm fun h' R' _ hs hdk => hQ h' ⟨R', hdk⟩ hs)
end
/-- the end of a callee in which an own exception flew: the ground's frames may bear new notes -/
def LeaveT (fs fo : List Addr) (A₀ : Around) (base : Heap) (outer : List Env) (K : Frag) (p : Program) (loose : List PStr) (mean : ExcName → Option Val) (mg mb : PStr → Option Val) (h₀ : Heap) (L : Addr) (m : PStr → Option Val) (g : Heap) (oth : Led) (R : Result → Shared → Prop) (v : Val) (s' : Shared) : Prop :=
  ∃ g' L' m' news', KtsTurn fs g g' ∧ Fr g' L' s'.heap m' ∧ News g' L' s'.heap news' ∧ ∀ h₀', KtsTurn fo h₀ h₀' → Fr h₀' L s'.heap m → News h₀' L s'.heap (news' ++ oth) → Below A₀ base outer h₀' → K.In h₀' → Top p loose mean mg mb h₀' →
    KtsDicts fo h₀' → R (.ok (.ret v)) s'
theorem leaveT_ {fs fo : List Addr} {A₀ : Around} {base : Heap} {outer : List Env} {K : Frag} {p : Program} {loose : List PStr} {mean : ExcName → Option Val} {mg mb : PStr → Option Val} {h₀ g g' : Heap} {L L' : Addr} {m m' : PStr → Option Val} {oth news' : Led} {R : Result → Shared → Prop} {v : Val} {s' : Shared}
    (F' : Fr g' L' s'.heap m') (N' : News g' L' s'.heap news') (T : KtsTurn fs g g')
    (k : ∀ h₀', KtsTurn fo h₀ h₀' → Fr h₀' L s'.heap m → News h₀' L s'.heap (news' ++ oth) → Below A₀ base outer h₀' → K.In h₀' → Top p loose mean mg mb h₀' → KtsDicts fo h₀' → R (.ok (.ret v)) s') :
    LeaveT fs fo A₀ base outer K p loose mean mg mb h₀ L m g oth R v s' := ⟨g', L', m', news', T, F', N', k⟩
section
variable {prog : Program} {w : World} {A₀ A : Around} {s : Shared} {base h₀ : Heap} {outer : List Env} {L a : Addr} {m : PStr → Option Val} {cn : PStr} {cs : Scope} {ccd : Val} {cl : List (PStr × Addr)} {env : Env} {args oth : Led} {K : Frag} {p : Program} {loose : List PStr} {mean : ExcName → Option Val} {mg mb : PStr → Option Val}
    {R : Result → Shared → Prop} {name qual : PStr} {params : Arguments} {body : List Stmt} {scope : Scope} {dV kV doc pm cdv ct oc : Val} {an od : Option Addr} {osl : Array (Option Val)} {f : Addr} {av : Args} {binds : List (PStr × Val)}
theorem frames_mem {env : Env} {L b : Addr} {outer : List Env} (hf : env.frame = some L) (hm : b ∈ (env :: outer).filterMap (·.frame)) : b = L ∨ b ∈ outer.filterMap (·.frame) := by
  obtain ⟨env', he, hf'⟩ := List.mem_filterMap.mp hm
  rcases List.mem_cons.mp he with rfl | he
  · exact .inl (Option.some.inj (hf'.symm.trans hf))
  · exact .inr (List.mem_filterMap.mpr ⟨env', he, hf'⟩)
theorem code_turn (B : Below A₀ base outer h₀) (F : Fr h₀ L s.heap m) (X₀ : K.In h₀) (N : News h₀ L s.heap (args ++ oth)) (T : Top p loose mean mg mb h₀) (XB : K.In base) (TB : Top p loose mean mg mb base) (D : KtsDicts (outer.filterMap (·.frame)) h₀)
    (hA : A.frames = some (env :: outer)) (hf : env.frame = some L) (hke : env.scope.kind = .function)
    (ho : K.lookup f = some ⟨oc, od, .func (fnOf name qual params body scope dV kV doc pm an cdv ct), osl⟩) (hcd : codeIn K cdv qual = true) (hroom : A.depth < recursionLimit)
    (hbind : BindsTo s (fnOf name qual params body scope dV kV doc pm an cdv ct) av binds) (hloc : ∀ y ∈ binds, scope.names.lookup y.1 = some .local) (hdis : ∀ p ∈ oth, p.1 ∉ args.map (·.1))
    (h : ∀ g L' h₁, Fr h₀ L g m → Fr g L' h₁ (fun y => binds.reverse.lookup y) → News g L' h₁ args → Below A base (env :: outer) g → K.In g → Top p loose mean mg mb g → KtsDicts ((env :: outer).filterMap (·.frame)) g → (∀ p ∈ args, p.1 < L') → (∀ p ∈ oth, p.1 < L') → @LT.lt Nat _ L L' →
      wpAny (model prog w) (A.deeper (envOf qual scope L' f cdv)) (execs body (envOf qual scope L' f cdv))
        (fun fl s' => LeaveT ((env :: outer).filterMap (·.frame)) (outer.filterMap (·.frame)) A₀ base outer K p loose mean mg mb h₀ L m g oth R (match fl with | .ret v => v | _ => .none) s')
        (fun e s' => wpAny (model prog w) (A.deeper (envOf qual scope L' f cdv)) (leaving (envOf qual scope L' f cdv) e) (fun _ s'' => R (.error e) s'') (fun e' s'' => R (.error e') s'') s')
        { s with heap := h₁, toks := s.toks + binds.length })
    (hco : scope.isCoroutine = false) (hgen : scope.isGenerator = false) (hk : scope.kind = .function)
    (hcell : ∀ x ∈ scope.names, x.2 ≠ .cell) : codeAny (model prog w) A (.call (.ref f) av) R s := by
  have Na : News h₀ L s.heap args := fun q hq => N q (List.mem_append_left _ hq)
  have No : News h₀ L s.heap oth := fun q hq => N q (List.mem_append_right _ hq)
  obtain ⟨FG, BG, st, -⟩ := groundX (R := R) B F Na hA hf hke
  refine codeAny_call_def (fd := fnOf name qual params body scope dV kV doc pm an cdv ct) (body := body) (binds := binds) hroom ((X₀.keeps F.keep) _ _ ho) rfl (T.nolimit.keeps F.keep) (codeRec_of (X₀.keeps F.keep) hcd) rfl hbind hcell hloc (fun h₁ hns hk₁ => ?_) hco hgen hk
  have nL₀ : h₀.get? L = none := kts_self F
  have nLf : L ∉ outer.filterMap (·.frame) := fun q => by
    obtain ⟨o, ho, _⟩ := (B.frames.mem q).2
    rw [nL₀] at ho; cases ho
  obtain ⟨oL, es, ep, hLg, hLd, hLk, hLf⟩ := FG.ns
  have hoth : ∀ q ∈ oth, (hideAll s.heap (args.map (·.1))).get? q.1 = some q.2 := fun q hq => hideAll_get _ (No q hq).1 (hdis q hq)
  refine wpAny_mono (h _ s.heap.objs.size h₁ FG ⟨hns, fun b o e => hk₁ b o (of_hideAll _ e), Nat.le_of_eq (hideAll_size _ _)⟩
    (fun q hq => ⟨hk₁ _ _ (Na q hq).1, Nat.ne_of_lt (Heap.lt_size (Na q hq).1), hideAll_none _ (List.mem_map_of_mem hq)⟩) BG (X₀.keeps st) (T.keeps st) (fun b hb => by
      rcases frames_mem hf hb with rfl | hb
      · exact ⟨oL, es, ep, hLg, hLd⟩
      · obtain ⟨o, es', n', ho', hd'⟩ := D b hb
        exact ⟨o, es', n', st b o ho', hd'⟩) (fun q hq => Heap.lt_size (Na q hq).1) (fun q hq => Heap.lt_size (No q hq).1) F.ns.lt) (fun fl s' hl => ?_) fun _ _ y => y
  obtain ⟨g', L', m', news', T', F', N', k⟩ := hl
  obtain ⟨sl, hs⟩ := T'.up hLg
  obtain ⟨T₁, S₁⟩ := kts_turn_at (h := s'.heap) (fs := outer.filterMap (·.frame)) (g := h₀)
    (fun b hb => by
      obtain ⟨_, o, ho', _⟩ := B.frames.mem hb
      exact ⟨o, ho'⟩)
    (fun b o e nmem => F'.keep b o (T'.other b o (st b o e) (fun q => by
      rcases frames_mem hf q with z | z
      · rw [z, nL₀] at e
        cases e
      · exact nmem z)))
    (fun b o e hm => by
      obtain ⟨sl', hs'⟩ := T'.up (st b o e)
      exact ⟨sl', F'.keep _ _ hs'⟩)
  have B₃ : Below A₀ base outer (ktsHeap s'.heap (outer.filterMap (·.frame)) h₀) := ⟨B.stack, fun b o e => T₁.other b o (B.stays b o e) (fun hm => by
    rw [(B.frames.mem hm).1] at e
    cases e), B.frames.of_keeps fun b o e _ => by
    obtain ⟨sl', hs'⟩ := T₁.up e
    exact ⟨_, hs', rfl⟩⟩
  refine k _ T₁ ⟨⟨_, es, ep, F'.keep _ _ hs, hLd, hLk, hLf⟩, S₁, by rw [T₁.size]; exact F.above⟩ (fun q hq => ?_) B₃ (XB.keeps B₃.stays) (TB.keeps B₃.stays) (D.turn T₁)
  rcases List.mem_append.mp hq with hq | hq
  · refine ⟨(N' q hq).1, fun z => ?_, ?_⟩
    · have := (N' q hq).2.2; rw [z, hs] at this; cases this
    · refine T₁.none_ _ ?_
      cases r : h₀.get? q.1 with
      | none => rfl
      | some o =>
        obtain ⟨sl', hs'⟩ := T'.up (st _ _ r)
        have := (N' q hq).2.2
        rw [hs'] at this
        cases this
  · refine ⟨F'.keep _ _ (T'.other _ _ (hoth q hq) fun z => ?_), (No q hq).2.1, T₁.none_ _ (No q hq).2.2⟩
    rcases frames_mem hf z with z | z
    · exact (No q hq).2.1 z
    · obtain ⟨o, ho, _⟩ := (B.frames.mem z).2
      rw [(No q hq).2.2] at ho; cases ho
end

-- part G1
section
open Builtin Builtin.ObjectAttr
section
variable {prog : Program} {w : World} {A : Around} {E : Val → Shared → Prop} {s : Shared} {K : Frag} {x C : Addr} {ox : Obj} {od : Option Obj} {name : PStr} {expr : Bool} {Q : Val → Shared → Prop}
theorem get_exc {v : Val} (X : K.In s.heap) (I : InstAt s.heap x ox C od) (hga : findIn K (.ref C) "__getattribute__" = some (some (.builtin "BaseException.__getattribute__"))) (hgt : findIn K (.ref C) "__getattr__" = some none)
    (hb : mroIn K C (.type "BaseException") = some true) (hf : findObj K C od name = some (.value v)) (hh : handedIn v = true) (h : Q v { s with toks := s.toks + 1 }) : wpAny (model prog w) A (getAttr (.ref x) name expr) Q E s := by
  obtain ⟨hp, g, d, t, os⟩ := s
  have L0 := I.type (M := model prog w)
  have L1 := looks_findIn (M := model prog w) X hga
  have L2 := looks_findIn (M := model prog w) X hgt
  have L3 := looks_find (M := model prog w) X I hf
  have f3 := PySem.F.excAttr_ValueError.ga.bind (.ref x)
  have hx0 : (expr && onTheHeap (Value.builtin "BaseException.__getattribute__")) = false := by cases expr <;> rfl
  have hx2 : (Value.builtin "BaseException.__getattribute__" == Value.builtin "object.__getattribute__") = false := by decide +kernel
  have hx1 : (onTheHeap (Value.ref C) && Value.builtin "BaseException.__getattribute__" == Value.builtin "object.__getattribute__") = false := by rw [hx2]; rfl
  have sub : Looks (model prog w) hp (isInstance (.ref x) (.type "BaseException")) true := I.type.andThen (looks_mroIn X hb)
  unfold getAttr getAttrBy
  refine wpAny_bind (wpAny_mkText (wpAny_holding (wpAny_bind (L0.at (wpAny_bind (L1.at ?_))))))
  dsimp only
  rw [hx1]
  repeat (any_goals (first | assumption | with_reducible refine L0.at ?_ | with_reducible refine L1.at ?_ | with_reducible refine L2.at ?_ | with_reducible refine L3.at ?_ | wp_step))
  refine codeAny_call_builtin PySem.F.excAttr_ValueError.ga.plain PySem.F.entry_bexc_ga (@check_slot (model prog w) _ _ ⟨hp, g, d, t + 1, os⟩ "BaseException.__getattribute__" "BaseException" "__getattribute__" (.ref x) [.str name t] [] _ (by decide +kernel) (by decide +kernel) sub (PySem.F.args_bexc_ga _ _) ?_)
  repeat (any_goals (first | assumption | with_reducible refine L0.at ?_ | with_reducible refine L3.at ?_ | wp_step))
  show wpAny _ _ (handedOut v) _ _ _
  rw [handedOut_of hh]
  exact wpAny_pure h
end
section
variable {prog : Program} {w : World} {A₀ : Around} {E : Val → Shared → Prop} {s' : Shared} {base g G : Heap} {outer : List Env} {L a e t C dx : Addr} {m : PStr → Option Val} {name : PStr} {scope : Scope} {cd : Val}
  {vs : List Val} {es : List DictEntry} {nd : Nat} {n : PStr} {b₀ : Stmt} {suite : List Stmt} {pos np : PySem.Pos} {rest : List ExceptHandler} {Q : Flow → Shared → Prop} {KF : Frag}
  {p : Program} {loose : List PStr} {mean : ExcName → Option Val} {mg mb : PStr → Option Val} {x : PStr}
/-- except NAME as n: the own exception is caught with its dict -/
theorem caught_DB (R : RaisedD base G (envOf name scope L a cd :: outer) e C t vs dx es nd s'.heap) (F : Fr g L G m) (K : Below A₀ base outer g) (hsm : G.UpToSlots s'.heap) (XB : KF.In base) (TB : Top p loose mean mg mb base)
    (D : KtsDicts (outer.filterMap (·.frame)) g) (hcl : ktsIn KF C "BaseException" = true) (ex : nsIn KF mainGlobals x = some (some (.ref C)))
    (k : ∀ h' g' oe ws tk, KtsTurn (outer.filterMap (·.frame)) g g' → Fr g' L h' (fun y => if y = n then some (.ref e) else m y) → News g' L h' [(e, oe), (dx, dictOf es nd)] → oe.cls = .ref C → oe.dict = some dx → oe.data = .fields ws → Below A₀ base outer g' → KF.In g' → Top p loose mean mg mb g' → KtsDicts (outer.filterMap (·.frame)) g' →
      wpAny (model prog w) ((A₀.deeper (envOf name scope L a cd)).mark (some (.ref e))) (execs (b₀ :: suite) (envOf name scope L a cd))
        (fun f s₄ => wpAny (model prog w) (A₀.deeper (envOf name scope L a cd)) (do bindName (envOf name scope L a cd) n .none; unbindBehindTheSuite (envOf name scope L a cd) n pos) (fun _ s₅ => Q f s₅) E s₄)
        (AsSuiteRaised (model prog w) ((A₀.deeper (envOf name scope L a cd)).mark (some (.ref e))) (envOf name scope L a cd) n pos (notedBy (model prog w) ((A₀.deeper (envOf name scope L a cd)).mark (some (.ref e))) (envOf name scope L a cd) (cameBackBy (model prog w) (A₀.deeper (envOf name scope L a cd)) (envOf name scope L a cd) E)))
        { s' with heap := h', toks := tk })
    (hk : scope.kind = .function := by rfl) (hlo : (envOf name scope L a cd).kindOf n = some .local := by rfl) (hx : (envOf name scope L a cd).kindOf x = some .globalImplicit := by rfl) (hd : (x == ("__debug__" : PStr)) = false := by decide) :
    wpAny (model prog w) (A₀.deeper (envOf name scope L a cd)) (noteFrame (.ref e) (envOf name scope L a cd))
      (fun _ s₂ => wpAny (model prog w) (A₀.deeper (envOf name scope L a cd)) (setFlight (.ref e) none) (fun _ s₃ =>
        wpAny (model prog w) (A₀.deeper (envOf name scope L a cd)) (handleBy (.ref e) (envOf name scope L a cd) (.ExceptHandler (some (.Name x np)) (some n) (b₀ :: suite) pos :: rest)) Q E s₃) E s₂) E s' := by
  obtain ⟨⟨⟨B, hB, hBG, hl, hfl, hnew⟩, htup⟩, hdk⟩ := R
  have hL : B.get? L = none := by
    obtain ⟨_, ⟨L', _, hf, hn', _⟩, _⟩ := hfl.2.2.1
    obtain rfl : L = L' := Option.some.inj hf
    exact hn'
  refine any_dk (tame_noteFrame _ _) hdk (wpAny_looks_onW (Around.frames_deeper K.stack) rfl hfl fun h₄ hheld₄ hsm₄ hdk₄ => ?_)
  refine any_dk (tame_setFlight _ _) hdk₄ (wpAny_landsW hheld₄ fun h₅ hheld hsm₅' hdk₅ => ?_)
  have hsm₅ := hsm₄.trans hsm₅'
  obtain ⟨g₅, T₅, F₅, K₅⟩ := kts_ground K F hBG hheld.1 (hsm.trans hsm₅)
  have X₅ : KF.In g₅ := XB.keeps K₅.stays
  have P₅ : TopRead p loose mg mb g₅ := topRead_of (TB.keeps K₅.stays)
  obtain ⟨ob, hob, hobc⟩ := hheld.there
  obtain ⟨nm, q', N, bs, bm, hdct, sn, sub, ab, col, dd, k0, k1, k2, k3, k5, newId, hC, hbase, hbT⟩ := kts_cls X₅ hcl
  have hC₅ := F₅.keep _ _ hC
  refine wpAny_handleBy_cons (codeAny_handlers_test (name_K F₅ X₅ P₅ ex ?_ hk hx hd)) (by intro q; cases q)
  refine wpAny_excMatches_sub_self hC₅ hob hobc hbase (codeAny_handlers_suite_as ?_)
  refine any_dk (tame_setFlight _ _) hdk₅ (lands_againW hheld fun h₆ hfl₆ hsm₆ hdk₆ => ?_)
  obtain ⟨g₆, T₆, F₆, K₆⟩ := kts_ground K F hBG hfl₆.1 ((hsm.trans hsm₅).trans hsm₆)
  obtain ⟨oe, ws, hoe, hoec, hoed, hoe0⟩ := hfl₆.first
  obtain ⟨oe', hoe', hoedx⟩ := hdk₆
  rw [hoe] at hoe'
  cases hoe'
  have ne₆ : g₆.get? e = none := T₆.none_ _ (kts_fresh F hBG hfl₆.2.1 fun o ho m => by
    obtain ⟨_, o', ho', hd⟩ := K.frames.mem m
    rw [ho] at ho'
    cases ho'
    obtain ⟨sl, hs⟩ := ((hsm.trans hsm₅).trans hsm₆) _ _ (F.keep _ _ ho) hd
    rw [hoe] at hs
    cases hs
    exact hd _ hoed)
  have N₆ := News.more F₆ News.nil hoe (fun es n q => by rw [hoed] at q; cases q) ne₆
  have Nl : News g₆ L h₆ [(dx, dictOf es nd)] := fun q hq => ⟨hfl₆.1 _ _ (hl q hq).1, (fun z => by have := (hl q hq).1; rw [z, hL] at this; cases this), T₆.none_ _ (kts_none F.keep (hl q hq).2.1)⟩
  have X₆ : KF.In g₆ := XB.keeps K₆.stays
  have P₆ : Top p loose mean mg mb g₆ := TB.keeps K₆.stays
  have D₆ : KtsDicts (outer.filterMap (·.frame)) g₆ := D.turn T₆
  refine stN F₆ (news := [(e, oe)] ++ [(dx, dictOf es nd)]) (fun q hq => (List.mem_append.mp hq).elim (N₆ q) (Nl q)) (fun h₇ F₇ N₇ => ?_) hk hlo
  exact k h₇ g₆ _ _ _ T₆ F₇ N₇ hoec hoedx hoed K₆ X₆ P₆ D₆
end

end

-- part H1
/-- the way of a raise: an own exception has left the callee -/
abbrev RaiseX (C : Addr) (P : List DictEntry → Prop) (envc : Env) (outer : List Env) (base h₀ : Heap) (L : Addr) (m : PStr → Option Val) (s : Shared) (E : Val → Shared → Prop) : Prop :=
  ∀ (G : Heap) (e t dx : Addr) (es : List DictEntry) (n : Nat) (vs : List Val) (h' : Heap) (tk' : Nat), Fr h₀ L G m → RaisedD base G (envc :: outer) e C t vs dx es n h' → P es → G.UpToSlots h' → E (.ref e) { s with heap := h', toks := tk' }
abbrev PwR (w : World) (mean : ExcName → Option Val) (mg mb : PStr → Option Val) (args : Led) (k : Nat) (f : Addr) (vs : List Val) (Ret : Led → Heap → Addr → (PStr → Option Val) → Shared → (Val → Shared → Prop) → Prop) (C : Addr) (P : List DictEntry → Prop) : Prop :=
  ∀ (dp un : Nat) (gd : Option (List Code)) (cn : PStr) (cs : Scope) (a : Addr) (ccd : Val) (cl : List (PStr × Addr)) (outer : List Env) (A₀ : Around) (base h₀ : Heap) (L : Addr) (m : PStr → Option Val) (news : Led) (s : Shared) (Q E : Val → Shared → Prop),
    Below A₀ base outer h₀ → Fr h₀ L s.heap m → (hd.heap_39 w.params).In h₀ → News h₀ L s.heap news → Top hd.view_39 (looseW hd.view_39 []) mean mg mb h₀ → cs.kind = .function → (∀ p ∈ args, p ∈ news) → dp + k < recursionLimit → un + 8 * k < cLine →
    Ret news h₀ L m s Q → RaiseX C P (envX cn cs L a ccd cl) outer base h₀ L m s E →
    wpAny (model PySem.Challenge.rw_pf0260_01.row.prog w) (ktrTop dp un gd cn cs L a ccd cl outer) (call (.ref f) vs) Q E s
theorem use_pwR {w : World} {mean : ExcName → Option Val} {mg mb : PStr → Option Val} {args : Led} {k : Nat} {f : Addr} {vs : List Val} {Ret : Led → Heap → Addr → (PStr → Option Val) → Shared → (Val → Shared → Prop) → Prop} {X' : Addr} {P : List DictEntry → Prop}
    (C : PwR w mean mg mb args k f vs Ret X' P)
    {dp un : Nat} {gd : Option (List Code)} {cn : PStr} {cs : Scope} {a : Addr} {ccd : Val} {cl : List (PStr × Addr)} {outer : List Env} {A₀ : Around} {base h₀ : Heap} {L : Addr} {m : PStr → Option Val} {news : Led} {s : Shared} {Q E : Val → Shared → Prop}
    (B : Below A₀ base outer h₀) (F : Fr h₀ L s.heap m) (X : (hd.heap_39 w.params).In h₀) (N : News h₀ L s.heap news) (T : Top hd.view_39 (looseW hd.view_39 []) mean mg mb h₀) (hk : cs.kind = .function) (ha : ∀ p ∈ args, p ∈ news) (hdp : dp + k < recursionLimit) (hu : un + 8 * k < cLine)
    (r : Ret news h₀ L m s Q) (x : RaiseX X' P (envX cn cs L a ccd cl) outer base h₀ L m s E) : wpAny (model PySem.Challenge.rw_pf0260_01.row.prog w) (ktrTop dp un gd cn cs L a ccd cl outer) (call (.ref f) vs) Q E s :=
  C dp un gd cn cs a ccd cl outer A₀ base h₀ L m news s Q E B F X N T hk ha hdp hu r x
/-- what a raise wants of the made exception -/
def RaiseK (K : Frag) (C : Addr) (E : Val → Shared → Prop) (v : Val) (s₁ : Shared) : Prop :=
  ∃ e t dx, v = .ref e ∧ K.In s₁.heap ∧ s₁.heap.get? e = some (excObj C t dx) ∧ E (.ref e) s₁
section
variable {prog : Program} {w : World} {A : Around} {E : Val → Shared → Prop} {env : Env} {K : Frag}
variable {nm q : PStr} {C N : Addr} {bs : List Val} {hdct : Bool} {sn : List PStr} {sub : List Val} {ab : Bool} {col : Option Bool} {dd : Option Addr} {k0 k1 k2 k3 k5 : Option Val} {newId : String}
theorem Raise_K {s : Shared} {x : PySem.Expr} {pos : PySem.Pos} {Q : Flow → Shared → Prop} {h₀ : Heap} (_X : K.In h₀) (hC : K.lookup C = some (excClassObj nm q C N bs [.type "Exception", .type "BaseException", .type "object"] hdct sn sub ab col dd k0 k1 k2 k3 k5 newId)) (hh : A.handled = none)
    (h : wpAny (model prog w) A (eval x env) (RaiseK K C E) E s) :
    wpAny (model prog w) A (exec (.Raise (some x) none pos) env) Q E s :=
  Raise_inst (by simp) hh (wpAny_mono h (fun v s₁ ⟨e, t, dx, h1, h2, h3, h4⟩ => ⟨e, t, dx, h1, h2 _ _ hC, h3, h4⟩) fun _ _ z => z)
end
local macro_rules | `(tactic| walk_at "exec Raise some none") => `(tactic| (k_here; (with_reducible show wpAny _ _ (exec (Stmt.Raise (some (Expr.Call (Expr.Name ("Short" : PStr) _) _ _ _)) none _) _) _ _ _); k_dflt (refine' Raise_K (C := 71) ?X ?hC ?hh ?_; (case X => k_asm); (case hC => k_is); (case hh => first | rfl | assumption); k_whole)))
local macro_rules | `(tactic| walk_at "exec Raise some none") => `(tactic| (k_here; (with_reducible show wpAny _ _ (exec (Stmt.Raise (some (Expr.Call (Expr.Name ("H3Error" : PStr) _) _ _ _)) none _) _) _ _ _); k_dflt (refine' Raise_K (C := 51) ?X ?hC ?hh ?_; (case X => k_asm); (case hC => k_is); (case hh => first | rfl | assumption); k_whole)))
theorem raise_end {w : World} {K : Frag} {A : Around} {base g h₀ h1 : Heap} {outer : List Env} {envc : Env} {L L' e t C dx a : Addr} {m m' : PStr → Option Val} {P : List DictEntry → Prop} {s : Shared} {E : Val → Shared → Prop} {es : List DictEntry} {n : Nat} {vs : List Val} {tk1 : Nat} {name : PStr} {scope : Scope} {cd : Val} {news : Led}
    (hrs : RaiseX C P envc outer base h₀ L m s E) (FG : Fr h₀ L g m) (B : Below A base (envc :: outer) g) (X : K.In g) (F1 : Fr g L' h1 m') (N1 : News g L' h1 ((e, excObj C t (some dx)) :: (dx, dictOf es n) :: (t, tupObj vs) :: news))
    (n1 : @Ne Nat e dx) (n2 : @Ne Nat e t) (n3 : @Ne Nat dx t) (hp : P es) (hk : scope.kind = .function := by rfl) :
    RaiseK K C (fun e s' => wpAny (model PySem.Challenge.rw_pf0260_01.row.prog w) (A.deeper (envOf name scope L' a cd)) (leaving (envOf name scope L' a cd) e) (fun _ s'' => E e s'') (fun e' s'' => E e' s'') s') (.ref e) { s with heap := h1, toks := tk1 } :=
  ⟨e, t, some dx, rfl, X.keeps F1.keep, (N1 _ (.head _)).1, leave_raiseD B F1 N1 n1 n2 n3 (fun h' R U => hrs g e t dx es n vs h' tk1 FG R hp U) hk⟩
section
set_option maxHeartbeats 8000000 in
theorem get_varint_short {w : World} {mean mg mb} {arr : Array UInt8} {ks : List Int} {n : Nat} {t1 t2 : Tok} (hk : KBw.bInts arr = ks) (hl : ks.length ≤ n) (hz : ks.length ≤ 100000) :
    PwR w mean mg mb [] 10 110 [.bytes arr t1, .int n t2] (fun _ _ _ _ _ _ => True) 71 (fun _ => True) := by
  walk_at "fill_k"
  intro dp un gd cn cs a ccd cl outer A₀ base h₀ L m news s Q E B F X N T hkk ha hdp hu hret hrs
  walk_at "my_enter"
  k_steps
  refine use_pw (short_make (by decide)) (by k_asm) (by k_asm) (by k_asm) (by k_asm) (by k_asm) (by exact rfl) (by walk_at "my_sub") (by ktr_room) (by ktr_units) ?_
  intro e dx t es en vs h1 tk1 n1 n2 n3 hne _ F1 N1
  (try dsimp only)
  k_steps
  exact raise_end hrs (by k_asm) (by k_asm) (by k_asm) F1 N1 n1 n2 n3 trivial
end

-- part I0
/-- octets that tell a number: one, or two that begin with 64 -/
def Cod (x : Int) (l : List Int) : Prop := (l = [x] ∧ 0 ≤ x ∧ x < 64) ∨ ∃ a b, l = [64 + a, b] ∧ x = a * 256 + b ∧ 0 ≤ a ∧ a < 64 ∧ 0 ≤ b ∧ b < 256
theorem cod_len {x : Int} {l : List Int} (h : Cod x l) : 1 ≤ l.length ∧ l.length ≤ 2 := by
  rcases h with ⟨rfl, _⟩ | ⟨a, b, rfl, _⟩ <;> simp
theorem cod_rng {x : Int} {l : List Int} (h : Cod x l) : 0 ≤ x ∧ x < 16384 := by
  rcases h with ⟨rfl, _⟩ | ⟨a, b, rfl, _⟩ <;> omega
theorem cod_enc {x : Int} (h0 : 0 ≤ x) (h1 : x < 16384) : Cod x (enc x) := by
  unfold enc
  split
  · exact .inl ⟨rfl, h0, by assumption⟩
  · exact .inr ⟨x / 256, x % 256, rfl, by omega, by omega, by omega, by omega, by omega⟩
theorem get_varint_c {w : World} {mean mg mb} {arr : Array UInt8} {ks l r : List Int} {n : Nat} {x : Int} {t1 t2 : Tok} (hk : KBw.bInts arr = ks) (hl : ks.drop n = l ++ r) (hc : Cod x l) (hz : ks.length ≤ 100000) :
    Pw w mean mg mb [] 6 110 [.bytes arr t1, .int n t2] (RetT (fun t t' => [.int x t, .int ((n + l.length : Nat) : Int) t'])) := by
  rcases hc with ⟨rfl, h0, h⟩ | ⟨a, b, rfl, rfl, h0, h1, h2, h3⟩
  · exact get_varint_1 hk hl h0 h hz
  · exact get_varint_2 hk hl h0 h1 h2 h3 hz
section
set_option maxHeartbeats 8000000 in
theorem whole_varint_c {w : World} {mean mg mb} {arr : Array UInt8} {ks l r : List Int} {n : Nat} {i x : Int} {t1 t2 : Tok} (hk : KBw.bInts arr = ks) (hi : i = (n : Nat)) (hl : ks.drop n = l ++ r) (hc : Cod x l) (hz : ks.length ≤ 100000) :
    Pw w mean mg mb [] 9 144 [.bytes arr t1, .int i t2] (RetT (fun t t' => [.int x t, .int ((n + l.length : Nat) : Int) t'])) := by
  subst hi
  walk_at "fill_k"
  intro dp un gd cn cs a ccd cl outer A₀ base h₀ L m news s Q E B F X N T hkk ha hdp hu hret
  walk_at "my_enter"
  k_steps
  refine use_pw (get_varint_c hk hl hc hz) (by k_asm) (by k_asm) (by k_asm) (by k_asm) (by k_asm) (by exact rfl) (by walk_at "my_sub") (by ktr_room) (by ktr_units) ?_
  intro q9 t9 u9 n9 h9 tk9 hq9 hL9 F9 N9
  (try dsimp only)
  k_steps
  exact ret_t2 hret (by assumption) (by assumption) (by assumption) (by assumption) (by assumption) (by k_mem) rfl rfl
end
local macro_rules | `(tactic| walk_at "WhlIf") => `(tactic| (first | (refine WhlIf.yes (decide_eq_true (by omega)) ?_) | (refine WhlIf.no (decide_eq_false (by omega)) ?_)))
/-- a number of an elder version -/
def oldN (x : Int) : Bool := [0, 2, 3, 4, 5].any (· == x)
theorem in_old {prog : Program} {w : World} {A : Around} {E : Val → Shared → Prop} {s : Shared} {K : Frag} {h₀ : Heap} {L t : Addr} {m : PStr → Option Val} {n : Nat} {sl : Array (Option Val)} {dd : Option Addr} {l : List Val} {x : Int} {u : Tok} {Q : Val → Shared → Prop} (F : Fr h₀ L s.heap m) (X : K.In h₀)
    (hl : K.lookup t = some ⟨.type "tuple", dd, .seq l.toArray n, sl⟩) (hi : IntsAre l [0, 2, 3, 4, 5]) (h : Q (.bool (oldN x)) s) : wpAny (model prog w) A (compareOp .In (.int x u) (.ref t)) Q E s :=
  in_tuple_ints (tupK (X.keeps F.keep) hl) hi h
local macro_rules | `(tactic| walk_at "compareOp In int ref") => `(tactic| (k_here; k_dflt (refine' in_old ?F ?X ?l ?i ?_; (case F => k_asm); (case X => k_asm); (case l => k_is); (case i => repeat constructor))))
/-- gives a reference with new objects -/
abbrev RetL (S : Addr → Led → Prop) (news : Led) (h₀ : Heap) (L : Addr) (m : PStr → Option Val) (s : Shared) (Q : Val → Shared → Prop) : Prop :=
  ∀ (q : Addr) (tl : Led) (h' : Heap) (tk' : Nat), S q tl → (∀ p ∈ news, ∀ r ∈ tl, p.1 < r.1) → (∀ r ∈ tl, @LT.lt Nat _ L r.1) → Fr h₀ L h' m → News h₀ L h' (tl ++ news) → Q (.ref q) { s with heap := h', toks := tk' }
/-- a pair of settings as octets: a number, a value, their octets -/
structure PairC where
  x : Int
  lx : List Int
  v : Int
  lv : List Int
  cx : Cod x lx
  cv : Cod v lv
def octs (ps : List PairC) : List Int := ps.flatMap fun p => p.lx ++ p.lv
/-- no number is of an elder version, none is told twice -/
def okFrom (seen : List Int) : List PairC → Bool
  | [] => true
  | p :: r => !oldN p.x && !(seen.any fun y => y == p.x) && okFrom (seen ++ [p.x]) r
/-- the objects of a list of settings -/
def SetObjs (ps : List PairC) (q : Addr) (tl : Led) : Prop :=
  match ps with
  | [p1] => ∃ a1 t1 u1 n m1, @LT.lt Nat _ q a1 ∧ tl = [(q, listOf #[.ref a1] n), (a1, ⟨.type "tuple", none, .seq #[.int p1.x t1, .int p1.v u1] m1, #[]⟩)]
  | [p1, p2] => ∃ a1 t1 u1 a2 t2 u2 n m1 m2, @LT.lt Nat _ q a1 ∧ @LT.lt Nat _ a1 a2 ∧ tl = [(q, listOf #[.ref a1, .ref a2] n), (a1, ⟨.type "tuple", none, .seq #[.int p1.x t1, .int p1.v u1] m1, #[]⟩), (a2, ⟨.type "tuple", none, .seq #[.int p2.x t2, .int p2.v u2] m2, #[]⟩)]
  | [p1, p2, p3] => ∃ a1 t1 u1 a2 t2 u2 a3 t3 u3 n m1 m2 m3, @LT.lt Nat _ q a1 ∧ @LT.lt Nat _ a1 a2 ∧ @LT.lt Nat _ a2 a3 ∧ tl = [(q, listOf #[.ref a1, .ref a2, .ref a3] n), (a1, ⟨.type "tuple", none, .seq #[.int p1.x t1, .int p1.v u1] m1, #[]⟩), (a2, ⟨.type "tuple", none, .seq #[.int p2.x t2, .int p2.v u2] m2, #[]⟩), (a3, ⟨.type "tuple", none, .seq #[.int p3.x t3, .int p3.v u3] m3, #[]⟩)]
  | _ => False

-- part I1
theorem shrink {h₀ h : Heap} {L : Addr} {news keep : Led} {G : Prop} (N : News h₀ L h news) (hs : ∀ p ∈ keep, p ∈ news) (k : News h₀ L h keep → G) : G := k fun p hp => N p (hs p hp)
theorem shrink1 {h₀ h : Heap} {L D a1 : Addr} {news keep : Led} {G : Prop} (N : News h₀ L h news) (hs : ∀ p ∈ keep, p ∈ news) (l1 : @LT.lt Nat _ D a1) (k : @LT.lt Nat _ D a1 → News h₀ L h keep → G) : G := k l1 fun p hp => N p (hs p hp)
theorem shrink2 {h₀ h : Heap} {L D a1 a2 : Addr} {news keep : Led} {G : Prop} (N : News h₀ L h news) (hs : ∀ p ∈ keep, p ∈ news) (l1 : @LT.lt Nat _ D a1) (l2 : @LT.lt Nat _ a1 a2) (k : @LT.lt Nat _ D a1 → @LT.lt Nat _ a1 a2 → News h₀ L h keep → G) : G := k l1 l2 fun p hp => N p (hs p hp)
theorem ret_l {S : Addr → Led → Prop} {news all tl : Led} {h₀ : Heap} {L L' q : Addr} {m : PStr → Option Val} {s : Shared} {Q : Val → Shared → Prop} {h' : Heap} {tk' : Nat} (hret : RetL S news h₀ L m s Q) (hL : ∀ p ∈ news, p.1 < L') (hLL : @LT.lt Nat _ L L')
    (F : Fr h₀ L h' m) (N : News h₀ L h' (all ++ news)) (hm : ∀ r ∈ tl, r ∈ all) (hd : ∀ r ∈ tl, @LT.lt Nat _ L' r.1) (hs : S q tl) : Q (.ref q) { s with heap := h', toks := tk' } :=
  hret q tl h' tk' hs (fun p hp r hr => Nat.lt_trans (hL p hp) (hd r hr)) (fun r hr => Nat.lt_trans hLL (hd r hr)) F fun p hp => by
    rcases List.mem_append.mp hp with hp | hp
    · exact N p (List.mem_append_left _ (hm p hp))
    · exact N p (List.mem_append_right _ hp)
local macro_rules | `(tactic| walk_at "my_sub2") => `(tactic| first | (refine List.forall_mem_cons.mpr ⟨by k_mem, ?_⟩; walk_at "my_sub2") | exact List.forall_mem_nil _)
local macro_rules | `(tactic| walk_at "my_drop") => `(tactic| (simp only [octs, List.flatMap_cons, List.append_assoc, Nat.zero_add]; simp only [← List.append_assoc, List.length_append.symm]; simp))
local macro_rules | `(tactic| walk_at "my_bad") => `(tactic| simp [okFrom, *])
local macro_rules | `(tactic| walk_at "my_ok") => `(tactic| simp [okFrom, *])
local macro_rules | `(tactic| walk_at "my_above") => `(tactic| first | exact List.forall_mem_nil _ | (refine List.forall_mem_cons.mpr ⟨by first | assumption | (dsimp only; omega), ?_⟩; walk_at "my_above"))
local macro_rules | `(tactic| walk_at "my_set") => `(tactic| first | exact ⟨_, _, _, _, _, by assumption, rfl⟩ | exact ⟨_, _, _, _, _, _, _, _, _, by assumption, by assumption, rfl⟩ | exact ⟨_, _, _, _, _, _, _, _, _, _, _, _, _, by assumption, by assumption, by omega, rfl⟩)
section
set_option maxHeartbeats 16000000 in
theorem read_settings_c {w : World} {mean mg mb} {arr : Array UInt8} {ps : List PairC} {t1 : Tok} (hk : KBw.bInts arr = octs ps) (hn : ps ≠ []) (hn3 : ps.length ≤ 3) :
    PwR w mean mg mb [] 12 149 [.bytes arr t1] (fun news h₀ L m s Q => okFrom [] ps = true → RetL (SetObjs ps) news h₀ L m s Q) 51 (fun es => okFrom [] ps = false ∧ ∃ tk, getL "code" es = some (some (.int 265 tk))) := by
  have hz : (octs ps).length ≤ 100000 := by
    have h : ∀ l : List PairC, (octs l).length ≤ 4 * l.length := fun l => by
      induction l with
      | nil => exact Nat.le_refl _
      | cons p r ih =>
        have b1 := cod_len p.cx
        have b2 := cod_len p.cv
        simp only [octs, List.flatMap_cons, List.length_append, List.length_cons] at ih ⊢
        omega
    have := h ps
    omega
  rcases ps with _ | ⟨p1, ps⟩
  · exact absurd rfl hn
  obtain ⟨a11, a12⟩ := cod_len p1.cx
  obtain ⟨a13, a14⟩ := cod_len p1.cv
  have hl : (octs (p1 :: ps)).length = p1.lx.length + p1.lv.length + (octs ps).length := by
    simp only [octs, List.flatMap_cons, List.length_append]
  walk_at "fill_k"
  intro dp un gd cn cs a ccd cl outer A₀ base h₀ L m news s Q E B F X N T hkk ha hdp hu hret hrs
  walk_at "my_enter"
  k_steps
  refine use_pw (whole_varint_c (n := 0) (l := p1.lx) (r := p1.lv ++ octs ps) hk rfl (by rw [show octs (p1 :: ps) = (([] : List Int)) ++ (p1.lx ++ (p1.lv ++ octs ps)) from by simp [octs]]; exact List.drop_left' (by simp only [List.length_append, List.length_nil] <;> omega)) p1.cx hz) (by k_asm) (by k_asm) (by k_asm) (by k_asm) (by k_asm) (by exact rfl) (by walk_at "my_sub") (by ktr_room) (by ktr_units) ?_
  intro q1 t1 u1 n1 h1' tk1 hq1 hL1 F1 N1
  k_lt hq1
  (try dsimp only)
  k_steps
  refine use_pw (whole_varint_c (n := 0 + p1.lx.length) (l := p1.lv) (r := octs ps) hk rfl (by rw [show octs (p1 :: ps) = (([] : List Int) ++ p1.lx) ++ (p1.lv ++ octs ps) from by simp [octs]]; exact List.drop_left' (by simp only [List.length_append, List.length_nil] <;> omega)) p1.cv hz) (by k_asm) (by k_asm) (by k_asm) (by k_asm) (by k_asm) (by exact rfl) (by walk_at "my_sub") (by ktr_room) (by ktr_units) ?_
  intro q2 t2 u2 n2 h2' tk2 hq2 hL2 F2 N2
  k_lt hq2
  (try dsimp only)
  k_steps
  · refine use_pw (h3_make (by decide)) (by k_asm) (by k_asm) (by k_asm) (by k_asm) (by k_asm) (by exact rfl) (by walk_at "my_sub") (by ktr_room) (by ktr_units) ?_
    intro e dx t es en vs h1 tk1 n1 n2 n3 hne hp F1 N1
    (try dsimp only)
    k_steps
    exact raise_end hrs (by k_asm) (by k_asm) (by k_asm) F1 N1 n1 n2 n3 ⟨by walk_at "my_bad", hp⟩
  refine' shrink1 (D := ?zk1D) (a1 := ?zk1a1) (keep := [(?zk1D, PySem.W.listOf #[.ref ?zk1a1] ?zk1n), (?zk1a1, ⟨.type "tuple", none, .seq #[.int p1.x ?zk1t1, .int p1.v ?zk1u1] ?zk1m1, #[]⟩)]) ?zN1 ?zhs1 ?zl11 ?_; (case zN1 => k_asm); (case zhs1 => walk_at "my_sub2"); (case zl11 => omega); 
  intro lt1 Nk
  repeat clear ‹_ ∧ _›
  rcases ps with _ | ⟨p2, ps⟩
  · have z0 : (octs ([] : List PairC)).length = 0 := rfl
    k_steps
    refine' ret_l (tl := [(?zr1D, PySem.W.listOf #[.ref ?zr1a1] ?zr1n), (?zr1a1, ⟨.type "tuple", none, .seq #[.int p1.x ?zr1t1, .int p1.v ?zr1u1] ?zr1m1, #[]⟩)]) (hret ?yok1) ?yhL1 ?yhLL1 ?yF1 ?yN1 ?yhm1 ?yhd1 ?yhs1; (case yhL1 => assumption); (case yhLL1 => assumption); (case yF1 => k_asm); (case yN1 => k_asm); (case yhm1 => walk_at "my_sub2"); (case yhd1 => walk_at "my_above"); (case yhs1 => walk_at "my_set")
    walk_at "my_ok"
  obtain ⟨a21, a22⟩ := cod_len p2.cx
  obtain ⟨a23, a24⟩ := cod_len p2.cv
  have hl2 : (octs (p2 :: ps)).length = p2.lx.length + p2.lv.length + (octs ps).length := by
    simp only [octs, List.flatMap_cons, List.length_append]
  k_steps
  refine use_pw (whole_varint_c (n := 0 + p1.lx.length + p1.lv.length) (l := p2.lx) (r := p2.lv ++ octs ps) hk rfl (by rw [show octs (p1 :: p2 :: ps) = (([] : List Int) ++ p1.lx ++ p1.lv) ++ (p2.lx ++ (p2.lv ++ octs ps)) from by simp [octs]]; exact List.drop_left' (by simp only [List.length_append, List.length_nil] <;> omega)) p2.cx hz) (by k_asm) (by k_asm) (by k_asm) (by k_asm) (by k_asm) (by exact rfl) (by walk_at "my_sub") (by ktr_room) (by ktr_units) ?_
  intro q3 t3 u3 n3 h3' tk3 hq3 hL3 F3 N3
  k_lt hq3
  (try dsimp only)
  k_steps
  refine use_pw (whole_varint_c (n := 0 + p1.lx.length + p1.lv.length + p2.lx.length) (l := p2.lv) (r := octs ps) hk rfl (by rw [show octs (p1 :: p2 :: ps) = (([] : List Int) ++ p1.lx ++ p1.lv ++ p2.lx) ++ (p2.lv ++ octs ps) from by simp [octs]]; exact List.drop_left' (by simp only [List.length_append, List.length_nil] <;> omega)) p2.cv hz) (by k_asm) (by k_asm) (by k_asm) (by k_asm) (by k_asm) (by exact rfl) (by walk_at "my_sub") (by ktr_room) (by ktr_units) ?_
  intro q4 t4 u4 n4 h4' tk4 hq4 hL4 F4 N4
  k_lt hq4
  (try dsimp only)
  k_steps
  · refine use_pw (h3_make (by decide)) (by k_asm) (by k_asm) (by k_asm) (by k_asm) (by k_asm) (by exact rfl) (by walk_at "my_sub") (by ktr_room) (by ktr_units) ?_
    intro e dx t es en vs h1 tk1 n1 n2 n3 hne hp F1 N1
    (try dsimp only)
    k_steps
    exact raise_end hrs (by k_asm) (by k_asm) (by k_asm) F1 N1 n1 n2 n3 ⟨by walk_at "my_bad", hp⟩
  · refine use_pw (h3_make (by decide)) (by k_asm) (by k_asm) (by k_asm) (by k_asm) (by k_asm) (by exact rfl) (by walk_at "my_sub") (by ktr_room) (by ktr_units) ?_
    intro e dx t es en vs h1 tk1 n1 n2 n3 hne hp F1 N1
    (try dsimp only)
    k_steps
    exact raise_end hrs (by k_asm) (by k_asm) (by k_asm) F1 N1 n1 n2 n3 ⟨by walk_at "my_bad", hp⟩
  refine' shrink2 (D := ?zk2D) (a1 := ?zk2a1) (a2 := ?zk2a2) (keep := [(?zk2D, PySem.W.listOf #[.ref ?zk2a1, .ref ?zk2a2] ?zk2n), (?zk2a1, ⟨.type "tuple", none, .seq #[.int p1.x ?zk2t1, .int p1.v ?zk2u1] ?zk2m1, #[]⟩), (?zk2a2, ⟨.type "tuple", none, .seq #[.int p2.x ?zk2t2, .int p2.v ?zk2u2] ?zk2m2, #[]⟩)]) ?zN2 ?zhs2 ?zl21 ?zl22 ?_; (case zN2 => k_asm); (case zhs2 => walk_at "my_sub2"); (case zl21 => omega); (case zl22 => omega); 
  intro lt1 lt2 Nk
  repeat clear ‹_ ∧ _›
  rcases ps with _ | ⟨p3, ps⟩
  · have z0 : (octs ([] : List PairC)).length = 0 := rfl
    k_steps
    refine' ret_l (tl := [(?zr2D, PySem.W.listOf #[.ref ?zr2a1, .ref ?zr2a2] ?zr2n), (?zr2a1, ⟨.type "tuple", none, .seq #[.int p1.x ?zr2t1, .int p1.v ?zr2u1] ?zr2m1, #[]⟩), (?zr2a2, ⟨.type "tuple", none, .seq #[.int p2.x ?zr2t2, .int p2.v ?zr2u2] ?zr2m2, #[]⟩)]) (hret ?yok2) ?yhL2 ?yhLL2 ?yF2 ?yN2 ?yhm2 ?yhd2 ?yhs2; (case yhL2 => assumption); (case yhLL2 => assumption); (case yF2 => k_asm); (case yN2 => k_asm); (case yhm2 => walk_at "my_sub2"); (case yhd2 => walk_at "my_above"); (case yhs2 => walk_at "my_set")
    walk_at "my_ok"
  obtain ⟨a31, a32⟩ := cod_len p3.cx
  obtain ⟨a33, a34⟩ := cod_len p3.cv
  have hl3 : (octs (p3 :: ps)).length = p3.lx.length + p3.lv.length + (octs ps).length := by
    simp only [octs, List.flatMap_cons, List.length_append]
  k_steps
  refine use_pw (whole_varint_c (n := 0 + p1.lx.length + p1.lv.length + p2.lx.length + p2.lv.length) (l := p3.lx) (r := p3.lv ++ octs ps) hk rfl (by rw [show octs (p1 :: p2 :: p3 :: ps) = (([] : List Int) ++ p1.lx ++ p1.lv ++ p2.lx ++ p2.lv) ++ (p3.lx ++ (p3.lv ++ octs ps)) from by simp [octs]]; exact List.drop_left' (by simp only [List.length_append, List.length_nil] <;> omega)) p3.cx hz) (by k_asm) (by k_asm) (by k_asm) (by k_asm) (by k_asm) (by exact rfl) (by walk_at "my_sub") (by ktr_room) (by ktr_units) ?_
  intro q5 t5 u5 n5 h5' tk5 hq5 hL5 F5 N5
  k_lt hq5
  (try dsimp only)
  k_steps
  refine use_pw (whole_varint_c (n := 0 + p1.lx.length + p1.lv.length + p2.lx.length + p2.lv.length + p3.lx.length) (l := p3.lv) (r := octs ps) hk rfl (by rw [show octs (p1 :: p2 :: p3 :: ps) = (([] : List Int) ++ p1.lx ++ p1.lv ++ p2.lx ++ p2.lv ++ p3.lx) ++ (p3.lv ++ octs ps) from by simp [octs]]; exact List.drop_left' (by simp only [List.length_append, List.length_nil] <;> omega)) p3.cv hz) (by k_asm) (by k_asm) (by k_asm) (by k_asm) (by k_asm) (by exact rfl) (by walk_at "my_sub") (by ktr_room) (by ktr_units) ?_
  intro q6 t6 u6 n6 h6' tk6 hq6 hL6 F6 N6
  k_lt hq6
  (try dsimp only)
  k_steps
  · refine use_pw (h3_make (by decide)) (by k_asm) (by k_asm) (by k_asm) (by k_asm) (by k_asm) (by exact rfl) (by walk_at "my_sub") (by ktr_room) (by ktr_units) ?_
    intro e dx t es en vs h1 tk1 n1 n2 n3 hne hp F1 N1
    (try dsimp only)
    k_steps
    exact raise_end hrs (by k_asm) (by k_asm) (by k_asm) F1 N1 n1 n2 n3 ⟨by walk_at "my_bad", hp⟩
  · refine use_pw (h3_make (by decide)) (by k_asm) (by k_asm) (by k_asm) (by k_asm) (by k_asm) (by exact rfl) (by walk_at "my_sub") (by ktr_room) (by ktr_units) ?_
    intro e dx t es en vs h1 tk1 n1 n2 n3 hne hp F1 N1
    (try dsimp only)
    k_steps
    exact raise_end hrs (by k_asm) (by k_asm) (by k_asm) F1 N1 n1 n2 n3 ⟨by walk_at "my_bad", hp⟩
  obtain rfl : ps = [] := List.eq_nil_of_length_eq_zero (by simp only [List.length_cons] at hn3; omega)
  have z0 : (octs ([] : List PairC)).length = 0 := rfl
  k_steps
  refine' ret_l (tl := [(?zr3D, PySem.W.listOf #[.ref ?zr3a1, .ref ?zr3a2, .ref ?zr3a3] ?zr3n), (?zr3a1, ⟨.type "tuple", none, .seq #[.int p1.x ?zr3t1, .int p1.v ?zr3u1] ?zr3m1, #[]⟩), (?zr3a2, ⟨.type "tuple", none, .seq #[.int p2.x ?zr3t2, .int p2.v ?zr3u2] ?zr3m2, #[]⟩), (?zr3a3, ⟨.type "tuple", none, .seq #[.int p3.x ?zr3t3, .int p3.v ?zr3u3] ?zr3m3, #[]⟩)]) (hret ?yok3) ?yhL3 ?yhLL3 ?yF3 ?yN3 ?yhm3 ?yhd3 ?yhs3; (case yhL3 => assumption); (case yhLL3 => assumption); (case yF3 => k_asm); (case yN3 => k_asm); (case yhm3 => walk_at "my_sub2"); (case yhd3 => walk_at "my_above"); (case yhs3 => walk_at "my_set")
  walk_at "my_ok"
end

-- part X2
section
variable {prog : Program} {w : World} {A : Around} {s : Shared} {R : Result → Shared → Prop}
theorem codeC_func {body : List Stmt} {env : Env}
    (h : wpC (model prog w) (A.deeper env) (execs body env) (fun f s' => R (.ok (.ret (match f with | .ret v => v | _ => .none))) s')
      (fun e s' => wpAny (model prog w) (A.deeper env) (leaving env e) (fun _ s'' => R (.error e) s'') (fun e' s'' => R (.error e') s'') s') s) : codeC (model prog w) A (.func body env) R s := by
  refine codeC_of_tree rfl ?_
  show wpC _ (A.deeper env) (do point; match ← (execs body env).onRaise (leaving env) with | .ret v => ret v | _ => ret .none) _ _ s
  refine wpC_bind (of_any (wpAny_point (wpC_bind (wpC_onRaise (wpC_mono h (fun f s' h' => ?_) fun _ _ h' => h')))))
  cases f <;> exact wpC_pure h'
theorem codeC_call_function {a : Addr} {args : Args} {o : Obj} {fd : FuncData} {body : List Stmt} (hroom : A.depth < recursionLimit) (ho : s.heap.get? a = some o)
    (hd' : o.data = .func fd) (hco : fd.scope.isCoroutine = false) (hgen : fd.scope.isGenerator = false) (hbody : fd.body = .stmts body) (hcd : s.heap.CodeRec fd.code fd.qualname)
    (h : wpAny (model prog w) A.in1 (bindArgs fd args) (fun binds s₁ =>
      wpAny (model prog w) A.in1 (newFunctionEnv fd.scope fd.globals fd.closure binds (fd.qualname ++ ".<locals>.") (some a) fd.code none fd.builtins)
        (fun env s₂ => s₂.heap.NoLimit ∧ codeC (model prog w) A (.func body env) R s₂) (fun e s' => R (.error e) s') s₁) (fun e s' => R (.error e) s') s) :
    codeC (model prog w) A (.call (.ref a) args) R s := by
  refine codeC_of_tree rfl (of_any ?_)
  show wpAny _ A.in1 (callAny (.ref a) args) _ _ s
  simp only [callAny]
  refine wpAny_bind (wpAny_load ho ?_)
  obtain ⟨c, oc, vs, tq, hc, hoc, hdc, hq⟩ := hcd
  simp only [hd', callFunction, hco, hgen, hbody, hc]
  rw [hc] at h
  refine wpAny_bind (m := field (.ref c) 1) (wpAny_field hoc hdc hq (wpAny_bind (wpAny_pure ?_)))
  exact wpAny_bind (wpAny_mono h (fun binds s₁ h₁ => wpAny_bind (wpAny_mono h₁ (fun env s₂ h₂ => wpAny_bind (wpAny_enterFrame h₂.1 hroom
    (wpAny_pure (And.intro rfl h₂.2)))) fun _ _ h' => h')) fun _ _ h' => h')
theorem codeC_call_def {a : Addr} {o : Obj} {fd : FuncData} {body : List Stmt} {args : Args} {binds : List (PStr × Val)}
    (hroom : A.depth < recursionLimit) (ho : s.heap.get? a = some o) (hdata : o.data = .func fd) (hlim : s.heap.NoLimit) (hcd : s.heap.CodeRec fd.code fd.qualname)
    (hbody : fd.body = .stmts body) (hbind : BindsTo s fd args binds)
    (hcell : ∀ x ∈ fd.scope.names, x.2 ≠ .cell) (hloc : ∀ x ∈ binds, fd.scope.names.lookup x.1 = some .local)
    (h : ∀ h₀, h₀.Ns s.heap.objs.size (fun x => binds.reverse.lookup x) → (∀ b o, s.heap.get? b = some o → h₀.get? b = some o) →
      wpC (model prog w) (A.deeper (callEnv fd s.heap.objs.size a)) (execs body (callEnv fd s.heap.objs.size a)) (fun f s' => R (.ok (.ret (match f with | .ret v => v | _ => .none))) s')
        (fun e s' => wpAny (model prog w) (A.deeper (callEnv fd s.heap.objs.size a)) (leaving (callEnv fd s.heap.objs.size a) e) (fun _ s'' => R (.error e) s'') (fun e' s'' => R (.error e') s'') s')
        { s with heap := h₀, toks := s.toks + binds.length })
    (hco : fd.scope.isCoroutine = false := by rfl) (hgen : fd.scope.isGenerator = false := by rfl) (hk : fd.scope.kind = .function := by rfl) :
    codeC (model prog w) A (.call (.ref a) args) R s := by
  refine codeC_call_function hroom ho hdata hco hgen hbody hcd (hbind _ _ _ _ ?_)
  refine wpAny_newFunctionEnv hcell hloc (fun h₀ hns₀ hsb₀ => ⟨hlim.fresh _ hsb₀, codeC_func (h h₀ hns₀ fun b o e => ?_)⟩) hk
  exact hsb₀.extBut b o (Nat.ne_of_lt (Heap.lt_size e)) (Heap.get?_push_of_some _ e)
end
section
variable {prog : Program} {w : World} {A₀ A : Around} {s : Shared} {base h₀ : Heap} {outer : List Env} {L : Addr} {m : PStr → Option Val} {env : Env} {news args : Led} {K : Frag} {p : Program} {loose : List PStr} {mean : ExcName → Option Val} {mg mb : PStr → Option Val}
  {R : Result → Shared → Prop} {name qual : PStr} {params : Arguments} {body : List Stmt} {scope : Scope} {dV kV doc pm cdv ct oc : Val} {an od : Option Addr} {osl : Array (Option Val)} {f : Addr} {av : Args} {binds : List (PStr × Val)}
theorem codeC_sub (B : Below A₀ base outer h₀) (F : Fr h₀ L s.heap m) (X₀ : K.In h₀) (N : News h₀ L s.heap news) (T : Top p loose mean mg mb h₀) (hA : A.frames = some (env :: outer)) (hf : env.frame = some L) (hke : env.scope.kind = .function)
    (ho : K.lookup f = some ⟨oc, od, .func (fnOf name qual params body scope dV kV doc pm an cdv ct), osl⟩) (hcd : codeIn K cdv qual = true) (hroom : A.depth < recursionLimit)
    (hbind : BindsTo s (fnOf name qual params body scope dV kV doc pm an cdv ct) av binds) (hloc : ∀ y ∈ binds, scope.names.lookup y.1 = some .local) (ha : ∀ p ∈ args, p ∈ news)
    (h : ∀ g L' h₁, Fr h₀ L g m → Fr g L' h₁ (fun y => binds.reverse.lookup y) → News g L' h₁ args → Below A base (env :: outer) g → K.In g → Top p loose mean mg mb g → (∀ p ∈ args, p.1 < L') → (∀ p ∈ news, p.1 < L') → @LT.lt Nat _ L L' →
      wpC (model prog w) (A.deeper (envOf qual scope L' f cdv)) (execs body (envOf qual scope L' f cdv))
        (fun fl s' => LeaveX h₀ L m g args news R (match fl with | .ret v => v | _ => .none) s')
        (fun e s' => wpAny (model prog w) (A.deeper (envOf qual scope L' f cdv)) (leaving (envOf qual scope L' f cdv) e) (fun _ s'' => R (.error e) s'') (fun e' s'' => R (.error e') s'') s')
        { s with heap := h₁, toks := s.toks + binds.length })
    (hco : scope.isCoroutine = false) (hgen : scope.isGenerator = false) (hk : scope.kind = .function)
    (hcell : ∀ x ∈ scope.names, x.2 ≠ .cell) : codeC (model prog w) A (.call (.ref f) av) R s := by
  have Na : News h₀ L s.heap args := fun q hq => N q (ha q hq)
  obtain ⟨FG, BG, st, lv⟩ := groundX (R := R) B F Na hA hf hke
  refine codeC_call_def (fd := fnOf name qual params body scope dV kV doc pm an cdv ct) (body := body) (binds := binds) hroom ((X₀.keeps F.keep) _ _ ho) rfl (T.nolimit.keeps F.keep) (codeRec_of (X₀.keeps F.keep) hcd) rfl hbind hcell hloc (fun h₁ hns hk₁ => ?_) hco hgen hk
  have hoth : ∀ q ∈ news, q.1 ∉ args.map (·.1) → (hideAll s.heap (args.map (·.1))).get? q.1 = some q.2 := fun q hq hn => hideAll_get _ (N q hq).1 hn
  refine wpC_mono (h _ s.heap.objs.size h₁ FG ⟨hns, fun b o e => hk₁ b o (of_hideAll _ e), Nat.le_of_eq (hideAll_size _ _)⟩
    (fun q hq => ⟨hk₁ _ _ (Na q hq).1, Nat.ne_of_lt (Heap.lt_size (Na q hq).1), hideAll_none _ (List.mem_map_of_mem hq)⟩) BG (X₀.keeps st) (T.keeps st) (fun q hq => Heap.lt_size (Na q hq).1) (fun q hq => Heap.lt_size (N q hq).1) F.ns.lt) (fun fl s' hl => ?_) fun _ _ y => y
  obtain ⟨L', m', news', F', N', hin, k⟩ := hl
  refine lv _ s' ⟨L', m', news', F', N', fun Fk Nk => k Fk fun q hq => ?_⟩
  rcases List.mem_append.mp hq with hq | hq
  · exact Nk q hq
  · by_cases hm : q.1 ∈ args.map (·.1)
    · obtain ⟨r, hr, e⟩ := List.mem_map.mp hm
      have e2 : r = q := by
        have h1 := (Na r hr).1
        have h2 := (N q hq).1
        rw [e, h2] at h1
        obtain ⟨r1, r2⟩ := r
        obtain ⟨q1, q2⟩ := q
        cases e
        cases Option.some.inj h1
        rfl
      exact Nk q (e2 ▸ hin r hr)
    · exact ⟨F'.keep _ _ (hoth q hq hm), (N q hq).2⟩
end
local macro_rules | `(tactic| walk_at "my_enterC") => `(tactic| (refine wpC_call ?_; k_dflt (refine' codeC_sub ?k1 ?k2 ?k3 ?k4 ?k5 ?kA ?kF ?kK ?k6 ?k7 ?k8 ?k9 ?kB ?ka ?_ ?c2 ?c3 ?c4 ?c5; (case kA => exact rfl); (case kF => exact rfl); (case kK => assumption); (case k1 => k_asm); (case k2 => k_asm); (case k3 => k_asm); (case k4 => k_asm); (case k5 => k_asm); (case k6 => k_is); (case k7 => k_is); (case k8 => ktr_room); (case k9 => exact BindsTo.of_eq rfl); (case c5 => decide); (case kB => exact locs rfl); (case c2 => exact rfl); (case c3 => exact rfl); (case c4 => exact rfl); (case ka => assumption); k_whole; intro g' L' h' FG' F' N' B' X' T' l1 hL1 hL2; (try k_lt l1); (try dsimp only); (try k_lift B'); (try k_fold))))
/-- contracts for clean contexts -/
abbrev PwC (w : World) (mean : ExcName → Option Val) (mg mb : PStr → Option Val) (args : Led) (k : Nat) (f : Addr) (vs : List Val) (Ret : Led → Heap → Addr → (PStr → Option Val) → Shared → (Val → Shared → Prop) → Prop) : Prop :=
  ∀ (dp un : Nat) (cn : PStr) (cs : Scope) (a : Addr) (ccd : Val) (cl : List (PStr × Addr)) (outer : List Env) (A₀ : Around) (base h₀ : Heap) (L : Addr) (m : PStr → Option Val) (news : Led) (s : Shared) (Q E : Val → Shared → Prop),
    Below A₀ base outer h₀ → Fr h₀ L s.heap m → (hd.heap_39 w.params).In h₀ → News h₀ L s.heap news → Top hd.view_39 (looseW hd.view_39 []) mean mg mb h₀ → cs.kind = .function → (∀ p ∈ args, p ∈ news) → dp + k < recursionLimit → un + 8 * k < cLine →
    Ret news h₀ L m s Q →
    wpC (model PySem.Challenge.rw_pf0260_01.row.prog w) (ktrTop dp un (some []) cn cs L a ccd cl outer) (call (.ref f) vs) Q E s
theorem use_pwC {w : World} {mean : ExcName → Option Val} {mg mb : PStr → Option Val} {args : Led} {k : Nat} {f : Addr} {vs : List Val} {Ret : Led → Heap → Addr → (PStr → Option Val) → Shared → (Val → Shared → Prop) → Prop}
    (C : PwC w mean mg mb args k f vs Ret)
    {dp un : Nat} {cn : PStr} {cs : Scope} {a : Addr} {ccd : Val} {cl : List (PStr × Addr)} {outer : List Env} {A₀ : Around} {base h₀ : Heap} {L : Addr} {m : PStr → Option Val} {news : Led} {s : Shared} {Q E : Val → Shared → Prop}
    (B : Below A₀ base outer h₀) (F : Fr h₀ L s.heap m) (X : (hd.heap_39 w.params).In h₀) (N : News h₀ L s.heap news) (T : Top hd.view_39 (looseW hd.view_39 []) mean mg mb h₀) (hk : cs.kind = .function) (ha : ∀ p ∈ args, p ∈ news) (hdp : dp + k < recursionLimit) (hu : un + 8 * k < cLine)
    (r : Ret news h₀ L m s Q) : wpC (model PySem.Challenge.rw_pf0260_01.row.prog w) (ktrTop dp un (some []) cn cs L a ccd cl outer) (call (.ref f) vs) Q E s :=
  C dp un cn cs a ccd cl outer A₀ base h₀ L m news s Q E B F X N T hk ha hdp hu r

-- part X3
theorem ba_new : Bind.madeBy (.type "bytearray") = pure (some "bytearray.__new__") := by kernel_rfl
theorem ba_mro : mroOf (.type "bytearray") = pure [.type "bytearray", .type "object"] := by kernel_rfl
theorem ba_check (n : Int) (t : Tok) : checkTypeCall "bytearray" ⟨[.int n t], []⟩ = pure () := by kernel_rfl
theorem ba_entry_new : entryFor table "bytearray.__new__" = some Builtin.«list.__new__» := by
  exact entryFor_alias (id' := "list.__new__") (by kernel_rfl) (by first | rfl | decide +kernel) (by decide +kernel) (by kernel_rfl)
theorem ba_entry_init : entryFor table "bytearray.__init__" = some Builtin.«bytearray.__init__» := entryFor_of_tree (by kernel_rfl)
theorem ba_slot_init : Slot "bytearray" "__init__" "bytearray.__init__" :=
  .of (owner := "bytearray") (n := "__init__") (by rw [typeLookup_type, builtinLookup_eq_fast]; kernel_rfl) (by decide +kernel) (by decide +kernel) (by decide +kernel)
    (by first | exact .inl (by decide +kernel) | exact .inr (by decide +kernel)) (by rw [isSubtype_type]; kernel_rfl)
theorem ba_args (a : Val) (n : Int) (t : Tok) : argsOk "bytearray.__init__" ⟨[a, .int n t], []⟩ := by unfold argsOk; kernel_rfl
theorem ba_newcheck (n : Int) (t : Tok) : checkBuiltinCall "bytearray.__new__" ⟨[.type "bytearray", .int n t], []⟩ = pure () := by kernel_rfl
theorem ba_sub : isSubtype (.type "bytearray") (.type "bytearray") = pure true := by rw [isSubtype_type]; kernel_rfl
section
variable {prog : Program} {w : World} {A : Around} {E : Val → Shared → Prop} {s : Shared}
theorem codeC_builtin {id : String} {args : Args} {b : Builtin} {R : Result → Shared → Prop} (hd : decC (.builtin id args) = false) (hb : entryFor table id = some b)
    (h : wpC (model prog w) (A.under (.builtin id args)) (b args) (fun fin s' => match fin with | .done f => R (.ok f) s' | .again c' => c'.quiet = true ∧ codeC (model prog w) A c' R s') (fun e s' => R (.error e) s') s) :
    codeC (model prog w) A (.builtin id args) R s := by
  refine codeC_of_tree hd ?_
  show wpC _ _ (match entryFor table id with | some b => b args | none => unsupported ((withoutEnding? id "#data").getD id)) _ _ s
  rw [hb]; exact h
theorem wpC_ifneg {α : Type} {c : Prop} [Decidable c] {a b : Sem α} {Q : α → Shared → Prop} (hc : ¬ c) (h : wpC (model prog w) A b Q E s) : wpC (model prog w) A (if c then a else b) Q E s := by rw [if_neg hc]; exact h
theorem ba_notType : (Value.type "bytearray" == Value.type "type") = false := by decide +kernel
theorem ba_can : ((Manifest.find? "bytearray").bind (·.mro.findSome? fun t => (Manifest.find? t).bind fun b => if b.noNew then some true else if b.attrs.any (·.1 == "__new__") then some false else none)).getD false = false := by decide +kernel
theorem ba_plain_new : plainId "bytearray.__new__" = true := by decide +kernel
end
set_option maxRecDepth 1000000 in
set_option maxHeartbeats 4000000 in
theorem ba_owner : ("bytearray.__new__".splitOn ".__new__").headD "" = "bytearray" := by simp +decide [String.splitOn, String.splitOnAux]
section
variable {prog : Program} {w : World} {A : Around} {E : Val → Shared → Prop} {s : Shared}
abbrev baObj (b : Array UInt8) : Obj := { cls := .type "bytearray", data := .bytearray b 0 }
theorem code_ba_new (n : Int) (t : Tok) {R : Result → Shared → Prop} (h : R (.ok (.ret (.ref s.heap.objs.size))) { s with heap := s.heap.push (baObj #[]) }) :
    codeAny (model prog w) A (.call (.builtin "bytearray.__new__") ⟨[.type "bytearray", .int n t], []⟩) R s := by
  refine codeAny_of_tree ?_
  show wpAny _ A.in1 (do checkBuiltinCall "bytearray.__new__" ⟨[.type "bytearray", .int n t], []⟩; again (.builtin "bytearray.__new__" ⟨[.type "bytearray", .int n t], []⟩)) _ _ s
  refine wpAny_bind (wpAny_of_eq (ba_newcheck n t) (wpAny_pure ⟨plainId_quiet ba_plain_new _, codeAny_builtin_stack ba_entry_new rfl fun p st => ?_⟩))
  rw [Around.under_plainId ba_plain_new _]
  have hsub := ba_sub
  have hown := ba_owner
  obtain ⟨hp, g, d, tk, os⟩ := s
  simp only [hown]
  wp_walk
  exact h
end

-- part X4
theorem guards_nil {l : List (Code × PySem.Pos)} (h : guardsOf l = []) : ∀ x ∈ l, x.1.isGuard = false := fun x hx => by
  cases q : x.1.isGuard with
  | false => rfl
  | true =>
    have : x.1 ∈ guardsOf l := List.mem_filter.mpr ⟨List.mem_map_of_mem hx, q⟩
    rw [h] at this
    cases this
section
variable {prog : Program} {w : World} {A : Around} {E : Val → Shared → Prop} {s : Shared}
theorem exportedC {self : Val} {Q : Bool → Shared → Prop} (hg : A.guards = some []) (h : Q false s) : wpC (model prog w) A (Builtin.Bytes.exported self) Q E s := fun Γ p g => by
  have hgl : guardsOf ((Γ.code, p) :: Γ.below) = [] := by
    rw [guardsOf_cons]
    exact g.inn.2.2.2.1 _ hg
  have hd : Clean ((Γ.code, p) :: Γ.below) := clean_cons g.code g.below
  have key : ∀ f : Code × PySem.Pos → Bool, (∀ x, x.1.isGuard = false → decC x.1 = false → f x = false) → ((Γ.code, p) :: Γ.below).any f = false := fun f hf => by
    rw [List.any_eq_false]
    intro x hx
    rw [hf x (guards_nil hgl x hx) (hd x hx)]
    exact Bool.false_ne_true
  unfold Builtin.Bytes.exported
  show Q (((Γ.code, p) :: Γ.below).any _) s
  rw [key _ ?_]
  · exact h
  · intro x hx hdx
    obtain ⟨c, q⟩ := x
    cases c with
    | builtin id args =>
      have hx' : guardIds.contains id = false := hx
      have hd' : Builtin.Bytes.decodersThatHold.contains id = false := hdx
      clear hx hdx
      split
      · rename_i e; cases e; exact absurd hx' (by decide +kernel)
      · rename_i e; cases e; exact absurd hx' (by decide +kernel)
      · rename_i e; cases e; exact absurd hx' (by decide +kernel)
      · rename_i e; cases e; exact absurd hx' (by decide +kernel)
      · rename_i e; cases e; exact absurd hx' (by decide +kernel)
      · rename_i e
        cases e
        rw [hd', Bool.and_false]
      · rfl
    | _ => rfl
theorem ba_bind (n : Int) (t : Tok) : Builtin.Bytes.bindOptional "bytearray.__init__" "bytearray" ["source", "encoding", "errors"] [.int n t] [] = pure [some (.int n t), none, none] := by kernel_rfl
theorem ba_codec (a : String) : Builtin.Bytes.checkCodecArg "bytearray.__init__" "bytearray" a none = pure () := rfl
theorem ba_release : typeLookup (.type "bytearray") "__release_buffer__" = pure (some (.builtin "bytearray.__release_buffer__")) := by rw [typeLookup_type, builtinLookup_eq_fast]; kernel_rfl
theorem ba_relends : (!"bytearray.__release_buffer__".endsWith ("." ++ "__release_buffer__")) = false := by decide +kernel
theorem ba_reldrop : ("bytearray.__release_buffer__".dropRight ("__release_buffer__".length + 1)) = "bytearray" := by decide +kernel
theorem ba_own {D : Addr} {b : Array UInt8} {Q : Bool → Shared → Prop} (hD : s.heap.get? D = some (baObj b)) (h : Q false s) : wpAny (model prog w) A (Builtin.Bytes.ownRelease (.ref D)) Q E s := by
  unfold Builtin.Bytes.ownRelease Builtin.Bytes.slotIsOwn
  have hT : s.TypeIs (.ref D) "bytearray" := ⟨_, hD, rfl⟩
  obtain ⟨hp, g, d, tk, os⟩ := s
  have L1 := ba_release
  have L2 := ba_sub
  repeat (any_goals (first | assumption | wp_step))
  rw [ba_relends, ba_reldrop]
  repeat (any_goals (first | assumption | wp_step))
theorem int_noStr (n : Int) (t : Tok) : asStr? (.int n t) = pure none := by kernel_rfl
theorem int_index (n : Int) (t : Tok) : specialOf (.int n t) "__index__" = pure (some (.builtin "int.__index__")) := by
  show (typeLookup (.type "int") "__index__") = _
  rw [typeLookup_type, builtinLookup_eq_fast]; kernel_rfl
theorem int_asIndex (n : Int) (t : Tok) : (asIndex (.int n t)).attempt = pure (.ok n) := by kernel_rfl
theorem code_ba_init {D : Addr} {n : Int} {t : Tok} {R : Result → Shared → Prop} (hg : A.guards = some []) (hD : s.heap.get? D = some (baObj #[])) (h0 : n = 1 ∨ n = 2)
    (h : ∀ h', Heap.SameBut D s.heap h' → h'.get? D = some (baObj (Array.replicate n.toNat 0)) → R (.ok (.ret .none)) { s with heap := h' }) :
    codeC (model prog w) A (.call (.builtin "bytearray.__init__") ⟨[.ref D, .int n t], []⟩) R s := by
  refine codeC_of_tree rfl ?_
  show wpC _ A.in1 (do checkBuiltinCall "bytearray.__init__" ⟨[.ref D, .int n t], []⟩; again (.builtin "bytearray.__init__" ⟨[.ref D, .int n t], []⟩)) _ _ s
  have hT : s.TypeIs (.ref D) "bytearray" := ⟨_, hD, rfl⟩
  refine wpC_bind (of_any (ba_slot_init.check _ _ _ _ _ _ _ _ hT (ba_args _ _ _) ?_))
  refine wpC_pure ⟨plainId_quiet ba_slot_init.plain _, codeC_builtin (by rfl) ba_entry_init ?_⟩
  rw [Around.under_plainId ba_slot_init.plain _]
  unfold Builtin.«bytearray.__init__»
  dsimp only
  refine wpC_bind (of_any (ba_own hD ?_))
  simp only [Bool.false_eq_true, if_false, ba_bind, ba_codec, pure_bind]
  refine wpC_bind ?_
  show wpC _ _ (Builtin.Bytes.exported (Value.ref D) >>= fun b => _) _ _ _
  refine wpC_bind (exportedC (by exact hg) (of_any ?_))
  show wpAny _ _ (Builtin.Bytes.exportsOf (.ref D) >>= fun k => pure (decide (k > 0))) _ _ _
  unfold Builtin.Bytes.exportsOf
  refine wpAny_bind (wpAny_bind (wpAny_load hD (wpAny_pure (wpAny_pure ?_))))
  refine of_any ?_
  rw [if_neg (by decide)]
  unfold Builtin.Bytes.write updateBytearray
  refine wpAny_bind (wpAny_bind (wpAny_load hD ?_))
  have hD1 : (s.heap.update D (Obj.mapBytearray fun _ => #[])).get? D = some (baObj #[]) := Heap.get?_update_self _ hD rfl
  refine wpAny_bind (wpAny_update hD (wpAny_lookBehind hD1 rfl ?_))
  have hT1 : ({ s with heap := s.heap.update D (Obj.mapBytearray fun _ => #[]) } : Shared).TypeIs (.ref D) "bytearray" := ⟨_, hD1, rfl⟩
  simp only [Option.isSome_none, Bool.false_eq_true, if_false, pure_bind]
  simp only [int_noStr, int_index, int_asIndex, pure_bind, Option.isSome_none, Option.isSome_some, Bool.false_eq_true, if_false, if_true]
  have sb : ∀ (h : Heap) (f : Obj → Obj), Heap.SameBut D h (h.update D f) := fun h f => ⟨Heap.size_after_update _ _ _, fun b hb => Heap.get?_update_other _ _ (Ne.symm hb)⟩
  have hD2 : ∀ k, ((s.heap.update D (Obj.mapBytearray fun _ => #[])).update D (Obj.mapBytearray fun _ => Array.replicate k 0)).get? D = some (baObj (Array.replicate k 0)) := fun k => Heap.get?_update_self _ hD1 rfl
  rcases h0 with rfl | rfl
  all_goals
    rw [if_neg (by decide +kernel), if_neg (by decide +kernel), if_neg (by decide +kernel), if_neg (by decide +kernel)]
    refine wpAny_bind (wpAny_rule ?_)
    rw [if_pos (by decide)]
    refine wpAny_bind (wpAny_bind (wpAny_load hD1 ?_))
    refine wpAny_bind (wpAny_update hD1 (wpAny_lookBehind (hD2 _) rfl ?_))
    exact wpAny_pure (h _ ((sb _ _).trans (sb _ _)) (hD2 _))
end

-- part X5
section
variable {prog : Program} {w : World} {A : Around} {E : Val → Shared → Prop} {s : Shared}
theorem ba_inst {D : Addr} {b : Array UInt8} {Q : Bool → Shared → Prop} (hD : s.heap.get? D = some (baObj b)) (h : Q true s) : wpAny (model prog w) A (isInstance (.ref D) (.type "bytearray")) Q E s := by
  have hT : s.TypeIs (.ref D) "bytearray" := ⟨_, hD, rfl⟩
  obtain ⟨hp, g, d, tk, os⟩ := s
  have L2 := ba_sub
  unfold isInstance
  repeat (any_goals (first | assumption | wp_step))
theorem ba_special {D : Addr} {b : Array UInt8} {Q : Option Val → Shared → Prop} (hD : s.heap.get? D = some (baObj b)) (h : Q (some (.builtin "bytearray.__init__")) s) : wpAny (model prog w) A (specialOf (.ref D) "__init__") Q E s := by
  have hT : s.TypeIs (.ref D) "bytearray" := ⟨_, hD, rfl⟩
  unfold specialOf
  refine wpAny_bind (wpAny_typeOf hT ?_)
  exact wpAny_of_eq ba_slot_init.lookup h
theorem call_ba {n : Int} {t : Tok} {Q : Val → Shared → Prop} (hg : A.guards = some []) (hn : n = 1 ∨ n = 2)
    (h : ∀ h', (∀ b o, s.heap.get? b = some o → h'.get? b = some o) → h'.get? s.heap.objs.size = some (baObj (Array.replicate n.toNat 0)) → Q (.ref s.heap.objs.size) { s with heap := h' }) :
    wpC (model prog w) A (call (.type "bytearray") [.int n t]) Q E s := by
  refine wpC_call (codeC_of_tree rfl ?_)
  show wpC (model prog w) _ (callAny (.type "bytearray") ⟨[.int n t], []⟩) _ _ _
  refine wpC_pure ⟨Code.quiet_builtin _ (by decide +kernel), codeC_builtin rfl F.entry_type_call ?_⟩
  rw [Around.under_plain (weight_type_call_type "bytearray" [.int n t] []) rfl]
  unfold Builtin.«type.__call__»
  dsimp only
  simp only [ba_notType, ba_can, ba_check, ba_mro, ba_new, Bool.false_eq_true, if_false, pure_bind, List.isEmpty]
  have hD : (s.heap.push (baObj #[])).get? s.heap.objs.size = some (baObj #[]) := Heap.get?_push_size _ rfl
  refine wpC_bind (wpC_holding (of_any (wpAny_call (code_ba_new n t ?_))))
  dsimp only
  refine wpC_bind (of_any (ba_inst hD ?_))
  rw [if_neg (by decide)]
  refine wpC_bind (wpC_holding ?_)
  unfold callSpecial?
  refine wpC_bind (of_any (ba_special hD ?_))
  refine wpC_holding (wpC_bind (of_any (wpAny_of_eq (ba_slot_init.bind _) ?_)))
  refine wpC_bind (wpC_call (code_ba_init hg hD hn fun h' sb hb => ?_))
  refine wpC_pure (wpC_pure ?_)
  exact h h' (fun b o e => (sb.2 b (Nat.ne_of_lt (Heap.lt_size e))).trans (Heap.get?_push_of_some _ e)) hb
theorem call_baK {n : Int} {t : Tok} {Q : Val → Shared → Prop} {h₀ : Heap} {L : Addr} {m : PStr → Option Val} {news : Led} (F : Fr h₀ L s.heap m) (N : News h₀ L s.heap news) (hg : A.guards = some []) (hn : n = 1 ∨ n = 2)
    (h : ∀ (D : Addr) h', Fr h₀ L h' m → News h₀ L h' ((D, baObj (Array.replicate n.toNat 0)) :: news) → (∀ p ∈ news, p.1 < D) → @LT.lt Nat _ L D → Q (.ref D) { s with heap := h' }) :
    wpC (model prog w) A (call (.type "bytearray") [.int n t]) Q E s :=
  call_ba hg hn fun h' hk hD => h _ h' (F.keeps hk) (fun p hp => by
    rcases List.mem_cons.mp hp with rfl | hp
    · refine ⟨hD, Nat.ne_of_gt F.ns.lt, ?_⟩
      cases q : h₀.get? s.heap.objs.size with
      | none => rfl
      | some o => exact absurd (Heap.lt_size (F.keep _ _ q)) (Nat.lt_irrefl _)
    · exact ⟨hk _ _ (N p hp).1, (N p hp).2⟩) (fun p hp => Heap.lt_size (N p hp).1) F.ns.lt
end

-- part X7
theorem ba_slot_set : Slot "bytearray" "__setitem__" "bytearray.__setitem__" :=
  .of (owner := "bytearray") (n := "__setitem__") (by rw [typeLookup_type, builtinLookup_eq_fast]; kernel_rfl) (by decide +kernel) (by decide +kernel) (by decide +kernel)
    (by first | exact .inl (by decide +kernel) | exact .inr (by decide +kernel)) (by rw [isSubtype_type]; kernel_rfl)
theorem ba_entry_set : entryFor table "bytearray.__setitem__" = some Builtin.«bytearray.__setitem__» := entryFor_of_tree (by kernel_rfl)
theorem ba_args_set (a b c : Val) : argsOk "bytearray.__setitem__" ⟨[a, b, c], []⟩ := by unfold argsOk; kernel_rfl
theorem int_asIdx (n : Int) (t : Tok) : asIndex (.int n t) = pure n := by kernel_rfl
section
variable {prog : Program} {w : World} {A : Around} {E : Val → Shared → Prop} {s : Shared}
theorem ba_set {D : Addr} {b : Array UInt8} {k v : Int} {t u : Tok} {Q : Unit → Shared → Prop} (hD : s.heap.get? D = some (baObj b)) (hk : k = 0 ∨ k = 1) (hn : k < b.size) (hb : b.size ≤ 8) (v0 : 0 ≤ v) (v1 : v < 256)
    (h : ∀ h', Heap.SameBut D s.heap h' → h'.get? D = some (baObj (b.setIfInBounds k.toNat v.toNat.toUInt8)) → Q () { s with heap := h' }) : wpAny (model prog w) A (setItem (.ref D) (.int k t) (.int v u)) Q E s := by
  have hT : s.TypeIs (.ref D) "bytearray" := ⟨_, hD, rfl⟩
  unfold setItem
  try with_reducible refine wpAny_holding ?_
  first | refine wpAny_bind (wpAny_pure ?_) | skip
  refine wpAny_bind (wpAny_sequenceKey hT (by decide) ?_)
  refine wpAny_bind (wpAny_callSpecial?_slot (name := Str.ofString "__setitem__") hT ba_slot_set
    (wpAny_call_entry ba_slot_set hT ba_entry_set ?_ (ba_args_set _ _ _)))
  unfold Builtin.«bytearray.__setitem__»
  dsimp only
  rw [if_neg (by decide)]
  have hs1 : Builtin.Bytes.subscript? (.int k t) = pure (some k) := by rcases hk with rfl | rfl <;> kernel_rfl
  have hs2 : seqIndex? k b.size = some k.toNat := by
    unfold seqIndex?
    have hd := decide_eq_true hn
    rcases hk with rfl | rfl
    · show (if (decide ((0 : Int) ≤ 0) && decide ((0 : Int) < (b.size : Int))) = true then some (Int.toNat 0) else none) = _
      rw [hd]; rfl
    · show (if (decide ((0 : Int) ≤ 1) && decide ((1 : Int) < (b.size : Int))) = true then some (Int.toNat 1) else none) = _
      rw [hd]; rfl
  rw [hs1]
  refine wpAny_bind (wpAny_pure ?_)
  dsimp only
  unfold Builtin.Bytes.byteValue
  refine wpAny_bind (wpAny_bind ?_)
  rw [int_asIdx]
  refine wpAny_pure ?_
  have hv : (decide (v < 0) || decide (v ≥ 256)) = false := by simp; omega
  rw [if_neg (by rw [hv]; decide)]
  refine wpAny_pure ?_
  unfold Builtin.Bytes.payload Builtin.Bytes.payload?
  refine wpAny_bind (wpAny_bind (wpAny_bind (wpAny_load hD (wpAny_pure (wpAny_pure ?_)))))
  dsimp only
  rw [hs2]
  dsimp only
  unfold Builtin.Bytes.write updateBytearray
  refine wpAny_bind (wpAny_bind (wpAny_load hD ?_))
  have hD1 : (s.heap.update D (Obj.mapBytearray fun x => x.setIfInBounds k.toNat v.toNat.toUInt8)).get? D = some (baObj (b.setIfInBounds k.toNat v.toNat.toUInt8)) := Heap.get?_update_self _ hD rfl
  refine wpAny_bind (wpAny_update hD (wpAny_lookBehind hD1 ?_ ?_))
  · show (if _ then _ else _) = none
    rw [if_neg]
    rw [Array.size_setIfInBounds, sizeLine_eq]
    omega
  exact wpAny_pure ⟨.none, rfl, wpAny_pure (h _ ⟨Heap.size_after_update _ _ _, fun c hc => Heap.get?_update_other _ _ (Ne.symm hc)⟩ hD1)⟩
end

-- part X8
theorem ba_no_bytes : typeLookup (.type "bytearray") "__bytes__" = pure none := by rw [typeLookup_type, builtinLookup_eq_fast]; kernel_rfl
theorem ba_no_index : typeLookup (.type "bytearray") "__index__" = pure none := by rw [typeLookup_type, builtinLookup_eq_fast]; kernel_rfl
theorem ba_buffer : typeLookup (.type "bytearray") "__buffer__" = pure (some (.builtin "bytearray.__buffer__")) := by rw [typeLookup_type, builtinLookup_eq_fast]; kernel_rfl
theorem ba_bufends : (!"bytearray.__buffer__".endsWith ("." ++ "__buffer__")) = false := by decide +kernel
theorem ba_bufdrop : ("bytearray.__buffer__".dropRight ("__buffer__".length + 1)) = "bytearray" := by decide +kernel
section
variable {prog : Program} {w : World} {A : Around} {E : Val → Shared → Prop} {s : Shared}
theorem ba_bufown {D : Addr} {b : Array UInt8} {Q : Bool → Shared → Prop} (hD : s.heap.get? D = some (baObj b)) (h : Q true s) : wpAny (model prog w) A (Builtin.Bytes.slotIsOwn (.ref D) "__buffer__") Q E s := by
  unfold Builtin.Bytes.slotIsOwn
  have hT : s.TypeIs (.ref D) "bytearray" := ⟨_, hD, rfl⟩
  obtain ⟨hp, g, d, tk, os⟩ := s
  have L1 := ba_buffer
  have L2 := ba_sub
  repeat (any_goals (first | assumption | wp_step))
  rw [ba_bufends, ba_bufdrop]
  repeat (any_goals (first | assumption | wp_step))
theorem ba_bytesnew {D : Addr} {b : Array UInt8} {Q : Val → Shared → Prop} (hD : s.heap.get? D = some (baObj b)) (hz : b.size ≤ 8)
    (hQ : ∀ t k, Q (.bytes b t) { s with toks := k }) : codeAny (model prog w) A (.call (.builtin "bytes.__new__") ⟨[.type "bytes", .ref D], []⟩) (wants Q E) s := by
  refine codeAny_of_tree ?_
  show wpAny _ A.in1 (do checkBuiltinCall "bytes.__new__" ⟨[.type "bytes", .ref D], []⟩; again (.builtin "bytes.__new__" ⟨[.type "bytes", .ref D], []⟩)) _ _ s
  refine wpAny_bind (wpAny_of_eq (PySem.F.bm_newCall _) (wpAny_pure ⟨plainId_quiet PySem.F.bm_plain _, codeAny_builtin PySem.F.bm_entry ?_⟩))
  rw [Around.under_plainId PySem.F.bm_plain _]
  have hT : s.TypeIs (.ref D) "bytearray" := ⟨_, hD, rfl⟩
  unfold Builtin.«bytes.__new__»
  refine wpAny_bind (wpAny_of_eq (a := true) rfl ?_)
  refine bm_if_false rfl ?_
  refine wpAny_bind (wpAny_of_eq PySem.F.bm_sub ?_)
  refine bm_if_false rfl ?_
  refine wpAny_bind (wpAny_of_eq (PySem.F.bm_bind _) ?_)
  refine wpAny_bind (wpAny_of_eq (a := ()) rfl ?_)
  refine wpAny_bind (wpAny_of_eq (a := ()) rfl ?_)
  refine bm_if_false rfl ?_
  refine wpAny_bind (wpAny_specialOf hT ba_no_bytes ?_)
  refine wpAny_bind (wpAny_bind ?_)
  show wpAny _ _ (load D >>= _) _ _ _
  refine wpAny_bind (wpAny_load hD ?_)
  refine wpAny_pure (wpAny_pure ?_)
  refine bm_if_false rfl ?_
  refine wpAny_bind (wpAny_specialOf hT ba_no_index ?_)
  refine bm_if_true rfl ?_
  first
    | show wpAny _ _ (Builtin.Bytes.buffer? "bytes.__new__" (.ref D) true >>= _) _ _ _
    | (refine wpAny_bind ?_; show wpAny _ _ (Builtin.Bytes.buffer? "bytes.__new__" (.ref D) true >>= _) _ _ _)
  refine wpAny_bind ?_
  unfold Builtin.Bytes.buffer?
  refine wpAny_bind (wpAny_specialOf hT ba_buffer ?_)
  refine wpAny_bind (ba_bufown hD ?_)
  refine bm_if_false rfl ?_
  refine wpAny_bind (wpAny_specialOf hT ba_buffer ?_)
  refine wpAny_bind (ba_own hD ?_)
  refine bm_if_false rfl ?_
  unfold Builtin.Bytes.payload Builtin.Bytes.payload?
  refine wpAny_bind (wpAny_bind (wpAny_bind (wpAny_load hD (wpAny_pure (wpAny_pure (wpAny_pure ?_))))))
  refine wpAny_bind (wpAny_rule ?_)
  refine wpAny_bind (wpAny_mkBytes ?_ (Nat.le_trans hz (by rw [sizeLine_eq]; decide)))
  show wpAny _ _ (if (Value.type "bytes" == Value.type "bytes") = true then _ else _) _ _ _
  refine bm_if_true (by decide) ?_
  first
    | exact wpAny_pure (hQ _ _)
    | exact wpAny_bind (wpAny_pure (wpAny_pure (hQ _ _)))
theorem call_bytes_ba {D : Addr} {b : Array UInt8} {Q : Val → Shared → Prop} (hD : s.heap.get? D = some (baObj b)) (hz : b.size ≤ 8) (hQ : ∀ t k, Q (.bytes b t) { s with toks := k }) :
    wpAny (model prog w) A (call (.type "bytes") [.ref D]) Q E s := by
  refine callType_codes (Q₁ := fun obj s₁ => s₁.TypeIs obj "bytes" ∧ Q obj s₁) PySem.F.bm_called (PySem.F.bm_typeCall _) PySem.F.entry_object_init
    (ba_bytesnew hD hz fun t k => ⟨PySem.W.typeIs_bytes _ _ _, hQ t k⟩) fun obj s₁ h₁ => ?_
  exact ⟨h₁.1, PySem.F.args_object_init_2 obj _, object_init_meets PySem.F.bm_called.init.lookup PySem.F.bm_called.made (by decide) prog w A.in1 _ s₁ ⟨h₁.1, rfl, h₁.2⟩⟩
theorem call_bytes_baK {D : Addr} {b : Array UInt8} {Q : Val → Shared → Prop} {h₀ : Heap} {L : Addr} {m : PStr → Option Val} {news : Led} (F : Fr h₀ L s.heap m) (N : News h₀ L s.heap news) (hm : (D, baObj b) ∈ news) (hz : b.size ≤ 8)
    (hQ : ∀ h' t k, Fr h₀ L h' m → News h₀ L h' news → Q (.bytes b t) { s with heap := h', toks := k }) : wpAny (model prog w) A (call (.type "bytes") [.ref D]) Q E s :=
  call_bytes_ba (N _ hm).1 hz fun t k => hQ _ t k F N
theorem ba_setK {D : Addr} {b : Array UInt8} {k v : Int} {t u : Tok} {Q : Unit → Shared → Prop} {h₀ : Heap} {L : Addr} {m : PStr → Option Val} {rest : Led} (F : Fr h₀ L s.heap m) (N : News h₀ L s.heap ((D, baObj b) :: rest)) (hne : ∀ p ∈ rest, p.1 ≠ D)
    (hk : k = 0 ∨ k = 1) (hn : k < b.size) (hb : b.size ≤ 8) (v0 : 0 ≤ v) (v1 : v < 256)
    (h : ∀ h', Fr h₀ L h' m → News h₀ L h' ((D, baObj (b.setIfInBounds k.toNat v.toNat.toUInt8)) :: rest) → Q () { s with heap := h' }) : wpAny (model prog w) A (setItem (.ref D) (.int k t) (.int v u)) Q E s :=
  ba_set (N _ (.head _)).1 hk hn hb v0 v1 fun h' sb hD => h h' (F.change sb (N _ (.head _)).2.1 (N _ (.head _)).2.2) fun p hp => by
    rcases List.mem_cons.mp hp with rfl | hp
    · exact ⟨hD, (N _ (.head _)).2⟩
    · exact ⟨(sb.2 _ (hne p hp)).trans (N p (.tail _ hp)).1, (N p (.tail _ hp)).2⟩
theorem ba_setU {D : Addr} {b : Array UInt8} {k v : Int} {t u : Tok} {Q : Unit → Shared → Prop} {h₀ : Heap} {L : Addr} {m : PStr → Option Val} {news news' : Led} (F : Fr h₀ L s.heap m) (N : News h₀ L s.heap news) (U : Upd D (baObj b) (baObj (b.setIfInBounds k.toNat v.toNat.toUInt8)) news news')
    (hk : k = 0 ∨ k = 1) (hn : k < b.size) (hb : b.size ≤ 8) (v0 : 0 ≤ v) (v1 : v < 256)
    (h : ∀ h', Fr h₀ L h' m → News h₀ L h' news' → Q () { s with heap := h' }) : wpAny (model prog w) A (setItem (.ref D) (.int k t) (.int v u)) Q E s := by
  obtain ⟨pre, post, rfl, rfl, h1, h2⟩ := U.split
  have z := N (D, baObj b) (List.mem_append_right _ (.head _))
  exact ba_set z.1 hk hn hb v0 v1 fun h' sb hD => h h' (F.change sb z.2.1 z.2.2) fun p hp => by
    rcases List.mem_append.mp hp with hp | hp
    · exact ⟨(sb.2 _ (h1 p hp)).trans (N p (List.mem_append_left _ hp)).1, (N p (List.mem_append_left _ hp)).2⟩
    · rcases List.mem_cons.mp hp with rfl | hp
      · exact ⟨hD, z.2⟩
      · exact ⟨(sb.2 _ (h2 p hp)).trans (N p (List.mem_append_right _ (.tail _ hp))).1, (N p (List.mem_append_right _ (.tail _ hp))).2⟩
end

-- part X9
section
variable {prog : Program} {w : World} {A : Around} {s : Shared} {env : Env} {target : PySem.Expr} {body : List Stmt}
theorem forC_turn {it : Val} {R : Result → Shared → Prop}
    (h : wpAny (model prog w) A (pyNext it) (fun r s₁ => match r with
      | none => R (.ok .next) s₁
      | some v => wpAny (model prog w) A (letOwnedTupleGo target it v) (fun _ s₁' => wpAny (model prog w) A (assign target env v) (fun _ s₂ => wpC (model prog w) A (execs body env) (fun f s₃ => match f with
          | .next | .cont => codeC (model prog w) A (.forLoop target it body [] env) R s₃
          | .brk => R (.ok .next) s₃
          | .ret v => R (.ok (.ret v)) s₃) (notedBy (model prog w) A env fun e s' => R (.error e) s') s₂) (notedBy (model prog w) A env fun e s' => R (.error e) s') s₁') (notedBy (model prog w) A env fun e s' => R (.error e) s') s₁)
      (notedBy (model prog w) A env fun e s' => R (.error e) s') s) : codeC (model prog w) A (.forLoop target it body [] env) R s := by
  refine codeC_of_tree rfl ?_
  show wpC _ A ((forTurn target it body [] env).onRaise (fun x => do noteFrame x env; theTreesLotGoes x)) _ _ s
  refine wpC_onRaise (E := fun e s' => R (.error e) s') (wpC_mono (E := notedBy (model prog w) A env fun e s' => R (.error e) s') ?_ (fun _ _ q => q) fun _ _ hx => wpAny_bind (wpAny_mono hx (fun _ _ e => wpAny_theTreesLotGoes e) fun _ _ e => e))
  simp only [forTurn]
  refine wpC_bind (of_any (wpAny_standAt (wpC_bind (of_any (wpAny_onRaise (wpAny_mono h (fun r s₁ h₁ => ?_) fun _ _ h' => wpAny_standAt h'))))))
  cases r with
  | none => exact wpC_pure ⟨rfl, code_of_any (codeAny_block (wpAny_execs_nil h₁))⟩
  | some v =>
    refine wpC_bind (of_any (wpAny_mono h₁ (fun _ s₁' h₁' => ?_) fun _ _ h' => h'))
    refine wpC_bind (of_any (wpAny_mono h₁' (fun _ s₂ h₂ => wpC_bind (wpC_mono h₂ (fun f s₃ h₃ => ?_) fun _ _ h' => h')) fun _ _ h' => h'))
    cases f with
    | next => exact wpC_pure ⟨rfl, h₃⟩
    | cont => exact wpC_pure ⟨rfl, h₃⟩
    | brk => exact wpC_pure h₃
    | ret v => exact wpC_pure h₃
theorem ForC {iter : PySem.Expr} {pos : PySem.Pos} {Q : Flow → Shared → Prop} {E : Val → Shared → Prop}
    (h : wpAny (model prog w) A (eval iter env) (fun x s₁ => wpAny (model prog w) A (pyIter x) (fun it s₂ =>
      codeC (model prog w) A (.forLoop target it body [] env) (fun r s' => match r with | .ok f => Q f s' | .error e => cameBackBy (model prog w) A env E e s') s₂) E s₁) E s)
    (hs : ∀ x, foldedSetIterable iter env x = pure x := by intro _; rfl) : wpC (model prog w) A (exec (.For target iter body [] pos) env) Q E s := by
  rw [exec_For]
  refine wpC_bind (of_any (wpAny_standAt (wpC_bind (of_any (wpAny_mono h (fun x s₁ h₁ => wpC_bind (of_any (wpAny_of_eq (hs x) (wpC_bind (of_any (wpAny_standAt (wpC_bind (wpC_holding (of_any
    (wpAny_mono h₁ (fun it s₂ h₂ => ?_) fun _ _ h' => h')))))))))) fun _ _ h' => h')))))
  unfold runOwn
  exact wpC_onRaise (wpC_run h₂)
end

-- part X10
section
variable {prog : Program} {w : World} {A : Around} {E : Val → Shared → Prop} {s : Shared} {h₀ : Heap} {L l I : Addr} {m : PStr → Option Val} {news : Led} {items : Array Val} {n i : Nat} {o : Obj}
/-- a list iterator at a place -/
def ItAt (l : Addr) (i : Nat) (o : Obj) : Prop := o.cls = .type "list_iterator" ∧ o.data = .fields #[.ref l, .int i 0]
theorem iterK {Q : Val → Shared → Prop} (F : Fr h₀ L s.heap m) (N : News h₀ L s.heap news) (hm : (l, PySem.W.listOf items n) ∈ news)
    (h : ∀ (I : Addr) o h', ItAt l 0 o → (∀ p ∈ news, p.1 < I) → @LT.lt Nat _ L I → Fr h₀ L h' m → News h₀ L h' ((I, o) :: news) → Q (.ref I) { s with heap := h' }) : wpAny (model prog w) A (pyIter (.ref l)) Q E s := by
  refine wpAny_pyIter_list (items := items) ⟨_, (N _ hm).1, rfl, _, rfl⟩ ?_
  refine h s.heap.objs.size { cls := .type "list_iterator", data := .fields #[.ref l, .int 0 0] } _ ⟨rfl, rfl⟩ (fun p hp => Heap.lt_size (N p hp).1) F.ns.lt (F.keeps fun b o e => Heap.get?_push_of_some _ e) (fun p hp => ?_)
  rcases List.mem_cons.mp hp with rfl | hp
  · refine ⟨Heap.get?_push_size _ rfl, Nat.ne_of_gt F.ns.lt, ?_⟩
    cases q : h₀.get? s.heap.objs.size with
    | none => rfl
    | some o => exact absurd (Heap.lt_size (F.keep _ _ q)) (Nat.lt_irrefl _)
  · exact ⟨Heap.get?_push_of_some _ (N p hp).1, (N p hp).2⟩
theorem nextK {x : Val} {Q : Option Val → Shared → Prop} (F : Fr h₀ L s.heap m) (N : News h₀ L s.heap ((I, o) :: news)) (ne : ∀ p ∈ news, p.1 ≠ I) (hi : ItAt l i o) (hm : (l, PySem.W.listOf items n) ∈ news) (hx : items[i]? = some x)
    (h : ∀ o' h', ItAt l (i + 1) o' → Fr h₀ L h' m → News h₀ L h' ((I, o') :: news) → Q (some x) { s with heap := h' }) : wpAny (model prog w) A (pyNext (.ref I)) Q E s := by
  have z := N _ (.head _)
  refine wpAny_pyNext_list_item (l := l) (i := i) (items := items) ⟨o, z.1, hi.1, hi.2⟩ ⟨_, (N _ (.tail _ hm)).1, rfl, _, rfl⟩ hx fun h' hit sb => ?_
  obtain ⟨o', ho', hc, hd⟩ := hit
  refine h o' h' ⟨hc, hd⟩ (F.change sb z.2.1 z.2.2) fun p hp => ?_
  rcases List.mem_cons.mp hp with rfl | hp
  · exact ⟨ho', z.2⟩
  · exact ⟨(sb.2 _ (ne p hp)).trans (N p (.tail _ hp)).1, (N p (.tail _ hp)).2⟩
theorem nextK_end {Q : Option Val → Shared → Prop} (hh : A.handled = none) (F : Fr h₀ L s.heap m) (N : News h₀ L s.heap ((I, o) :: news)) (ne : ∀ p ∈ news, p.1 ≠ I) (hi : ItAt l i o) (hm : (l, PySem.W.listOf items n) ∈ news) (hx : items[i]? = none)
    (h : ∀ h', Fr h₀ L h' m → News h₀ L h' news → Q none { s with heap := h' }) : wpAny (model prog w) A (pyNext (.ref I)) Q E s := by
  have z := N _ (.head _)
  refine wpAny_pyNext_list_end (l := l) (i := i) (items := items) hh ⟨o, z.1, hi.1, hi.2⟩ ⟨_, (N _ (.tail _ hm)).1, rfl, _, rfl⟩ hx fun h' sb => ?_
  refine h h' ⟨F.ns.at' fun o e => sb L o (Ne.symm z.2.1) e, fun b o e => sb b o (fun q => by have := z.2.2; rw [← q, e] at this; cases this) (F.keep b o e), F.above⟩ fun p hp => ?_
  exact ⟨sb _ _ (ne p hp) (N p (.tail _ hp)).1, (N p (.tail _ hp)).2⟩
theorem loopC {env : Env} {target : PySem.Expr} {body : List Stmt} {R : Result → Shared → Prop} {it : Val} {n : Nat} (St : Nat → Shared → Prop)
    (turn : ∀ i s, St i s → i < n → wpAny (model prog w) A (pyNext it) (fun r s₁ => match r with
      | none => False
      | some v => wpAny (model prog w) A (letOwnedTupleGo target it v) (fun _ s₁' => wpAny (model prog w) A (assign target env v) (fun _ s₂ => wpC (model prog w) A (execs body env) (fun f s₃ => match f with
          | .next | .cont => St (i + 1) s₃
          | .brk => R (.ok .next) s₃
          | .ret v => R (.ok (.ret v)) s₃) (notedBy (model prog w) A env fun e s' => R (.error e) s') s₂) (notedBy (model prog w) A env fun e s' => R (.error e) s') s₁') (notedBy (model prog w) A env fun e s' => R (.error e) s') s₁)
      (notedBy (model prog w) A env fun e s' => R (.error e) s') s)
    (fin : ∀ s, St n s → wpAny (model prog w) A (pyNext it) (fun r s₁ => r = none ∧ R (.ok .next) s₁) (notedBy (model prog w) A env fun e s' => R (.error e) s') s) :
    ∀ (k i : Nat) (s : Shared), i + k = n → St i s → codeC (model prog w) A (.forLoop target it body [] env) R s
  | 0, i, s, e, h => by
    obtain rfl : i = n := e
    exact forC_turn (wpAny_mono (fin s h) (fun r s₁ h₁ => by obtain ⟨rfl, h₁⟩ := h₁; exact h₁) fun _ _ z => z)
  | k + 1, i, s, e, h => forC_turn (wpAny_mono (turn i s h (by omega)) (fun r s₁ h₁ => by
      cases r with
      | none => exact h₁.elim
      | some v => exact wpAny_mono h₁ (fun _ s₁' h₁' => wpAny_mono h₁' (fun _ s₂ h₂ => wpC_mono h₂ (fun f s₃ h₃ => by
          cases f with
          | next => exact loopC St turn fin k (i + 1) s₃ (by omega) h₃
          | cont => exact loopC St turn fin k (i + 1) s₃ (by omega) h₃
          | brk => exact h₃
          | ret v => exact h₃) fun _ _ z => z) fun _ _ z => z) fun _ _ z => z) fun _ _ z => z)
end

-- part X6
section
variable {prog : Program} {w : World} {A : Around} {E : Val → Shared → Prop} {s : Shared}
theorem keeper_type {M : Model} {h : Heap} : Looks M h (keeperOf (.type "bytearray")) Keeper.machine := Looks.of_pure (by kernel_rfl)
end
theorem u8_mod (y : Int) : ((y.fmod 256).toNat.toUInt8.toNat : Int) = y % 256 := by
  rw [Int.fmod_eq_emod_of_nonneg _ (by decide)]
  have h : (y % 256).toNat.toUInt8.toNat = (y % 256).toNat := by
    show (y % 256).toNat % 256 = (y % 256).toNat
    omega
  rw [h]; omega
theorem ba_ints1 (c : UInt8) : KBw.bInts ((Array.replicate (Int.toNat 1) 0).setIfInBounds (Int.toNat 0) c) = [(c.toNat : Int)] := rfl
theorem ba_ints2 (c d : UInt8) : KBw.bInts (((Array.replicate (Int.toNat 2) 0).setIfInBounds (Int.toNat 1) c).setIfInBounds (Int.toNat 0) d) = [(d.toNat : Int), (c.toNat : Int)] := rfl
section
set_option maxHeartbeats 8000000 in
theorem put_whole_1 {w : World} {mean mg mb} {x : Int} {t1 t2 : Tok} (h0 : 0 ≤ x) (h1 : x < 256) :
    PwC w mean mg mb [] 10 82 [.int x t1, .int 1 t2] (RetB [x]) := by
  walk_at "fill_k"
  intro dp un cn cs a ccd cl outer A₀ base h₀ L m news s Q E B F X N T hkk ha hdp hu hret
  walk_at "my_enterC"
  refine execsC_cons (of_any ?_)
  k_steps
  · rename_i hbad
    exact absurd (show x.fdiv (2 ^ (8 * 1 : Int).toNat) = 0 by
      show x.fdiv (2 ^ 8) = 0
      rw [Int.fdiv_eq_ediv_of_nonneg _ (by decide)]; omega) hbad
  dsimp only
  refine execsC_cons (AssignC (CallC ?_))
  k_steps
  refine callWithB (of_any ?_)
  k_steps
  · trivial
  (try dsimp only)
  refine call_baK (by k_asm) (by k_asm) rfl (.inl rfl) ?_
  intro D h2 F2 N2 lD hLD
  k_lt lD
  k_steps
  (try dsimp only)
  refine of_any ?_
  k_steps
  refine' ba_setU ?sF ?sN ?sU (.inl rfl) ?sn ?sb ?s0 ?s1 ?_
  case sF => k_asm
  case sN => k_asm
  case sU => k_upd
  case sn => decide
  case sb => decide
  case s0 => rw [Int.fmod_eq_emod_of_nonneg _ (by decide)]; omega
  case s1 => rw [Int.fmod_eq_emod_of_nonneg _ (by decide)]; omega
  intro h3 F3 N3
  k_steps
  refine call_bytes_baK (by k_asm) (by k_asm) (by k_mem) (by simp) ?_
  intro h4 t4 k4 F4 N4
  k_steps
  refine ret_b hret ?_ (by k_asm) (by k_asm)
  rw [ba_ints1, u8_mod]
  rw [show x % 256 = x by omega]
set_option maxHeartbeats 8000000 in
theorem put_whole_2 {w : World} {mean mg mb} {x : Int} {t1 t2 : Tok} (h0 : 0 ≤ x) (h1 : x < 65536) :
    PwC w mean mg mb [] 10 82 [.int x t1, .int 2 t2] (RetB [x / 256, x % 256]) := by
  walk_at "fill_k"
  intro dp un cn cs a ccd cl outer A₀ base h₀ L m news s Q E B F X N T hkk ha hdp hu hret
  walk_at "my_enterC"
  refine execsC_cons (of_any ?_)
  k_steps
  · rename_i hbad
    exact absurd (show x.fdiv (2 ^ (8 * 2 : Int).toNat) = 0 by
      show x.fdiv (2 ^ 16) = 0
      rw [Int.fdiv_eq_ediv_of_nonneg _ (by decide)]; omega) hbad
  dsimp only
  refine execsC_cons (AssignC (CallC ?_))
  k_steps
  refine callWithB (of_any ?_)
  k_steps
  · trivial
  (try dsimp only)
  refine call_baK (by k_asm) (by k_asm) rfl (.inr rfl) ?_
  intro D h2 F2 N2 lD hLD
  k_lt lD
  k_steps
  (try dsimp only)
  refine of_any ?_
  k_steps
  refine' ba_setU ?sFa ?sNa ?sUa (.inr rfl) ?sna ?sba ?s0a ?s1a ?_
  case sFa => k_asm
  case sNa => k_asm
  case sUa => k_upd
  case sna => simp
  case sba => simp
  case s0a => rw [Int.fmod_eq_emod_of_nonneg _ (by decide)]; omega
  case s1a => rw [Int.fmod_eq_emod_of_nonneg _ (by decide)]; omega
  intro h3a F3a N3a
  k_steps
  refine' ba_setU ?sFb ?sNb ?sUb (.inl rfl) ?snb ?sbb ?s0b ?s1b ?_
  case sFb => k_asm
  case sNb => k_asm
  case sUb => k_upd
  case snb => simp
  case sbb => simp
  case s0b => rw [Int.fmod_eq_emod_of_nonneg _ (by decide)]; omega
  case s1b => rw [Int.fmod_eq_emod_of_nonneg _ (by decide)]; omega
  intro h3b F3b N3b
  k_steps
  refine call_bytes_baK (by k_asm) (by k_asm) (by k_mem) (by simp) ?_
  intro h4 t4 k4 F4 N4
  k_steps
  refine ret_b hret ?_ (by k_asm) (by k_asm)
  rw [ba_ints2, u8_mod, u8_mod, Int.fdiv_eq_ediv_of_nonneg _ (by decide)]
  rw [show x / 256 % 256 = x / 256 by omega]
end

-- part Y1
local macro_rules | `(tactic| walk_at "exec For Name Name") => `(tactic| (k_here; (with_reducible show wpAny _ _ (exec (Stmt.For _ (Expr.Name ("VARINT_SIZES" : PStr) _) _ _ _) _) _ _ _); (rename Fr _ _ _ _ => lF'); (with_unfolding_all refine' For_turns lF' ?_; k_whole)))
local macro_rules | `(tactic| walk_at "exec For Name Name cons nil") => `(tactic| (k_here; (with_reducible show wpAny _ _ (exec (Stmt.For _ (Expr.Name ("VARINT_SIZES" : PStr) _) _ _ _) _) _ _ _); (rename Fr _ _ _ _ => lF'); (with_unfolding_all refine' For_turns lF' ?_; k_whole)))
local macro_rules | `(tactic| walk_at "pyIter ref") => `(tactic| (k_here; (with_reducible show wpAny _ _ (pyIter (Value.ref _)) (fun it s₂ => TurnsAt _ _ _ _ _ _ _ _ _ it s₂) _ _); k_dflt (refine' iter_tupK ?hh ?F ?N ?X ?k ?c ?d ?z ?_; (case hh => rfl); (case F => k_asm); (case N => k_asm); (case X => k_asm); (case k => k_is); (case c => rfl); (case d => rfl); (case z => decide); k_whole); intro I lI; (try k_lt lI)))
section
set_option maxHeartbeats 8000000 in
theorem varint_size_1 {w : World} {mean mg mb} {x : Int} {t1 : Tok} (h0 : 0 ≤ x) (h1 : x < 64) :
    Pw w mean mg mb [] 10 96 [.int x t1] (RetV fun t => .int 1 t) := by
  walk_at "fill_k"
  intro dp un gd cn cs a ccd cl outer A₀ base h₀ L m news s Q E B F X N T hkk ha hdp hu hret
  have e6 : (1 * 2 ^ (8 * 1 - 2 : Int).toNat : Int) = 64 := rfl
  have e14 : (1 * 2 ^ (8 * 2 - 2 : Int).toNat : Int) = 16384 := rfl
  walk_at "my_enter"
  k_steps
  exact ret_v hret rfl (by k_asm) (by k_asm)
set_option maxHeartbeats 8000000 in
theorem varint_size_2 {w : World} {mean mg mb} {x : Int} {t1 : Tok} (h0 : 64 ≤ x) (h1 : x < 16384) :
    Pw w mean mg mb [] 10 96 [.int x t1] (RetV fun t => .int 2 t) := by
  walk_at "fill_k"
  intro dp un gd cn cs a ccd cl outer A₀ base h₀ L m news s Q E B F X N T hkk ha hdp hu hret
  have e6 : (1 * 2 ^ (8 * 1 - 2 : Int).toNat : Int) = 64 := rfl
  have e14 : (1 * 2 ^ (8 * 2 - 2 : Int).toNat : Int) = 16384 := rfl
  walk_at "my_enter"
  k_steps
  exact ret_v hret rfl (by k_asm) (by k_asm)
end

-- part Y3
theorem wpAny_eqt {α : Type} {M : Model} {A : Around} {t t' : Sem α} {Q : α → Shared → Prop} {E : Val → Shared → Prop} {s : Shared} (e : t = t') (h : wpAny M A t' Q E s) : wpAny M A t Q E s := e ▸ h
section
variable {prog : Program} {w : World} {A : Around} {E : Val → Shared → Prop} {s : Shared} {K : Frag} {h₀ : Heap} {L T : Addr} {m : PStr → Option Val} {n : Nat} {sl : Array (Option Val)} {a b c d : Tok}
theorem sizes_tup (F : Fr h₀ L s.heap m) (X : K.In h₀) (hl : K.lookup T = some ⟨.type "tuple", none, .seq #[.int 1 a, .int 2 b, .int 4 c, .int 8 d] n, sl⟩) : IsTup s.heap T #[.int 1 a, .int 2 b, .int 4 c, .int 8 d] :=
  tupK (l := [.int 1 a, .int 2 b, .int 4 c, .int 8 d]) (X.keeps F.keep) hl
theorem sizes_notin {x : Int} {u : Tok} {Q : Val → Shared → Prop} (F : Fr h₀ L s.heap m) (X : K.In h₀) (hl : K.lookup T = some ⟨.type "tuple", none, .seq #[.int 1 a, .int 2 b, .int 4 c, .int 8 d] n, sl⟩) (hx : x = 1 ∨ x = 2)
    (h : Q (.bool false) s) : wpAny (model prog w) A (compareOp .NotIn (.int x u) (.ref T)) Q E s :=
  notin_tuple_ints (sizes_tup F X hl) (ns := [1, 2, 4, 8]) (by repeat constructor) (by rcases hx with rfl | rfl <;> exact h)
theorem sizes_method {pl : Sem Bool} {Q : Val × List Val → Shared → Prop} (F : Fr h₀ L s.heap m) (X : K.In h₀) (hl : K.lookup T = some ⟨.type "tuple", none, .seq #[.int 1 a, .int 2 b, .int 4 c, .int 8 d] n, sl⟩)
    (h : Q (.builtin "tuple.index", [.ref T]) s) : wpAny (model prog w) A (getMethod (.ref T) "index" pl) Q E s := by
  have hT : s.TypeIs (.ref T) "tuple" := ⟨_, (X.keeps F.keep) _ _ hl, rfl⟩
  exact getMethod_builtin hT PySem.F.plainAttrs_tuple PySem.F.slot_tuple_index PySem.F.type_tuple_index (fun a e => by cases e; exact ⟨_, (X.keeps F.keep) _ _ hl, rfl⟩) h
theorem sizes_index {x : Int} {u : Tok} {Q : Val → Shared → Prop} (F : Fr h₀ L s.heap m) (X : K.In h₀) (hl : K.lookup T = some ⟨.type "tuple", none, .seq #[.int 1 a, .int 2 b, .int 4 c, .int 8 d] n, sl⟩) (hx : x = 1 ∨ x = 2)
    (h : ∀ t k, Q (.int (x - 1) t) { s with toks := k }) : wpAny (model prog w) A (call (.builtin "tuple.index") [.ref T, .int x u]) Q E s := by
  have ho := (X.keeps F.keep) _ _ hl
  have hT : s.TypeIs (.ref T) "tuple" := ⟨_, ho, rfl⟩
  refine wpAny_call_entry PySem.F.slot_tuple_index hT PySem.F.entry_tuple_index ?_ (PySem.F.args_tuple_index_2 _ _)
  unfold Builtin.«tuple.index»
  refine wpAny_bind (wpAny_eqt (t' := pure (.ref T, [.int x u])) (by kernel_rfl) (wpAny_pure ?_))
  dsimp only
  refine wpAny_bind ?_
  unfold Builtin.Tuple.tupleItemsOf
  refine wpAny_bind (wpAny_seqItems ho rfl (wpAny_pure ?_))
  refine wpAny_bind (wpAny_pure (wpAny_bind (wpAny_pure ?_)))
  have e4 : min (#[Value.int 1 a, Value.int 2 b, Value.int 4 c, Value.int 8 d].size) (#[Value.int 1 a, Value.int 2 b, Value.int 4 c, Value.int 8 d].size) = 4 := rfl
  rw [e4]
  rw [Std.Legacy.Range.forIn_eq_forIn_range']
  have er : List.range' ([0:4] : Std.Legacy.Range).start ([0:4] : Std.Legacy.Range).size ([0:4] : Std.Legacy.Range).step = [0, 1, 2, 3] := rfl
  rw [er]
  simp only [List.forIn_cons]
  refine wpAny_bind (wpAny_bind ?_)
  show wpAny _ _ (eqBool (.int 1 a) (.int x u) >>= _) _ _ _
  refine wpAny_bind (wpAny_eqBool_int ?_)
  rcases hx with rfl | rfl
  · rw [if_pos (by decide)]
    refine wpAny_bind ?_
    unfold retInt
    refine wpAny_bind (wpAny_mkInt (wpAny_pure (wpAny_pure (wpAny_pure ?_))))
    exact wpAny_pure ⟨_, rfl, h _ _⟩
  · rw [if_neg (by decide)]
    refine wpAny_pure ?_
    refine wpAny_bind ?_
    show wpAny _ _ (eqBool (.int 2 b) (.int 2 u) >>= _) _ _ _
    refine wpAny_bind (wpAny_eqBool_int ?_)
    rw [if_pos (by decide)]
    refine wpAny_bind ?_
    unfold retInt
    refine wpAny_bind (wpAny_mkInt (wpAny_pure (wpAny_pure (wpAny_pure ?_))))
    exact wpAny_pure ⟨_, rfl, h _ _⟩
end

-- part Y0
theorem and_two_pow_lt {n k : Nat} (h : n < 2 ^ k) : 2 ^ k &&& n = 0 := by
  apply Nat.eq_of_testBit_eq
  intro i
  rw [Nat.testBit_and, Nat.testBit_two_pow, Nat.zero_testBit]
  by_cases e : k = i
  · subst e
    rw [Nat.testBit_lt_two_pow h, Bool.and_false]
  · simp [e]
theorem bitOr_0 {x : Int} (h0 : 0 ≤ x) : Builtin.bitOr ((1 - 1) * 2 ^ (8 * 1 - 2 : Int).toNat) x = x := by
  rw [bitOr_and]
  show (0 : Int) + x - Builtin.bitAnd 0 x = x
  have : Builtin.bitAnd 0 x = 0 := by
    unfold Builtin.bitAnd
    rw [decide_eq_true h0]
    simp
  rw [this]; omega
theorem bitOr_14 {x : Int} (h0 : 0 ≤ x) (h1 : x < 16384) : Builtin.bitOr ((2 - 1) * 2 ^ (8 * 2 - 2 : Int).toNat) x = 16384 + x := by
  rw [bitOr_and]
  show (16384 : Int) + x - Builtin.bitAnd 16384 x = 16384 + x
  have : Builtin.bitAnd 16384 x = 0 := by
    unfold Builtin.bitAnd
    rw [decide_eq_true h0]
    show ((16384 &&& x.toNat : Nat) : Int) = 0
    have := and_two_pow_lt (n := x.toNat) (k := 14) (by show x.toNat < 16384; omega)
    rw [show (16384 : Nat) = 2 ^ 14 from rfl, this]
    rfl
  rw [this]; omega

-- part Y2
local macro_rules | `(tactic| walk_at "compareOp NotIn int ref") => `(tactic| (k_here; k_dflt (refine' sizes_notin ?F ?X ?l ?i ?_; (case F => k_asm); (case X => k_asm); (case l => k_is); (case i => decide))))
local macro_rules | `(tactic| walk_at "getMethod ref") => `(tactic| (k_here; (with_reducible show wpAny _ _ (getMethod (Value.ref _) (PySem.Str.ofString "index") _) _ _ _); k_dflt (refine' sizes_method ?F ?X ?l ?_; (case F => k_asm); (case X => k_asm); (case l => k_is))))
local macro_rules | `(tactic| walk_at "call builtin:tuple.index") => `(tactic| (k_here; k_dflt (refine' sizes_index ?F ?X ?l ?i ?_; (case F => k_asm); (case X => k_asm); (case l => k_is); (case i => decide)); intro t' k'))
section
set_option maxHeartbeats 8000000 in
theorem put_varint_1 {w : World} {mean mg mb} {x : Int} {t1 : Tok} (h0 : 0 ≤ x) (h1 : x < 64) :
    PwC w mean mg mb [] 24 103 [.int x t1, .none] (RetB [x]) := by
  walk_at "fill_k"
  intro dp un cn cs a ccd cl outer A₀ base h₀ L m news s Q E B F X N T hkk ha hdp hu hret
  walk_at "my_enterC"
  refine execsC_cons (of_any ?_)
  k_steps
  refine use_pw (varint_size_1 h0 h1) (by k_asm) (by k_asm) (by k_asm) (by k_asm) (by k_asm) (by exact rfl) (by walk_at "my_sub") (by ktr_room) (by ktr_units) ?_
  intro t2 h2 tk2 F2 N2
  k_steps
  (try dsimp only)
  refine execsC_cons (of_any ?_)
  k_steps
  (try dsimp only)
  refine execsC_cons (of_any ?_)
  k_steps
  (try dsimp only)
  refine execsC_cons (ReturnC (CallC ?_))
  k_steps
  refine callWithC (K := hd.heap_39 w.params) (by k_is) (of_any ?_)
  k_steps
  simp only [List.nil_append, bitOr_0 h0]
  refine use_pwC (put_whole_1 h0 (by omega)) (by k_asm) (by k_asm) (by k_asm) (by k_asm) (by k_asm) (by exact rfl) (by walk_at "my_sub") (by ktr_room) (by ktr_units) ?_
  intro t9 b9 h9 tk9 F9 N9 e9
  k_steps
  exact ret_b hret e9 (by k_asm) (by k_asm)
set_option maxHeartbeats 8000000 in
theorem put_varint_2 {w : World} {mean mg mb} {x : Int} {t1 : Tok} (h0 : 64 ≤ x) (h1 : x < 16384) :
    PwC w mean mg mb [] 24 103 [.int x t1, .none] (RetB [64 + x / 256, x % 256]) := by
  walk_at "fill_k"
  intro dp un cn cs a ccd cl outer A₀ base h₀ L m news s Q E B F X N T hkk ha hdp hu hret
  walk_at "my_enterC"
  refine execsC_cons (of_any ?_)
  k_steps
  refine use_pw (varint_size_2 h0 h1) (by k_asm) (by k_asm) (by k_asm) (by k_asm) (by k_asm) (by exact rfl) (by walk_at "my_sub") (by ktr_room) (by ktr_units) ?_
  intro t2 h2 tk2 F2 N2
  k_steps
  (try dsimp only)
  refine execsC_cons (of_any ?_)
  k_steps
  (try dsimp only)
  refine execsC_cons (of_any ?_)
  k_steps
  (try dsimp only)
  refine execsC_cons (ReturnC (CallC ?_))
  k_steps
  refine callWithC (K := hd.heap_39 w.params) (by k_is) (of_any ?_)
  k_steps
  simp only [List.nil_append, bitOr_14 (show 0 ≤ x by omega) h1]
  refine use_pwC (put_whole_2 (x := 16384 + x) (by omega) (by omega)) (by k_asm) (by k_asm) (by k_asm) (by k_asm) (by k_asm) (by exact rfl) (by walk_at "my_sub") (by ktr_room) (by ktr_units) ?_
  intro t9 b9 h9 tk9 F9 N9 e9
  k_steps
  exact ret_b hret (e9.trans (by rw [show (16384 + x) / 256 = 64 + x / 256 by omega, show (16384 + x) % 256 = x % 256 by omega])) (by k_asm) (by k_asm)
theorem put_varint_e {w : World} {mean mg mb} {x : Int} {t1 : Tok} (h0 : 0 ≤ x) (h1 : x < 16384) : PwC w mean mg mb [] 24 103 [.int x t1, .none] (RetB (enc x)) := by
  unfold enc
  by_cases h : x < 64
  · rw [if_pos h]; exact put_varint_1 h0 h
  · rw [if_neg h]; exact put_varint_2 (by omega) h1
end

-- part Y4
section
set_option maxHeartbeats 8000000 in
theorem put_plain_c {w : World} {mean mg mb} {arr : Array UInt8} {ks : List Int} {t1 t2 : Tok} (hk : KBw.bInts arr = ks) (hz : ks.length ≤ 100) :
    PwC w mean mg mb [] 30 123 [.int 4 t1, .bytes arr t2] (RetB (enc 4 ++ enc ks.length ++ ks)) := by
  have l1 := enc_len_le 4
  have l2 := enc_len_le (ks.length : Int)
  walk_at "fill_k"
  intro dp un cn cs a ccd cl outer A₀ base h₀ L m news s Q E B F X N T hkk ha hdp hu hret
  walk_at "my_enterC"
  refine execsC_cons (ReturnC (BinOpC (BinOpC (CallC ?_))))
  k_steps
  refine callWithC (K := hd.heap_39 w.params) (by k_is) (of_any ?_)
  k_steps
  (try dsimp only)
  (try simp only [List.nil_append])
  refine use_pwC (put_varint_e (by decide) (by decide)) (by k_asm) (by k_asm) (by k_asm) (by k_asm) (by k_asm) (by exact rfl) (by walk_at "my_sub") (by ktr_room) (by ktr_units) ?_
  intro t3 b3 h3 tk3 F3 N3 e3
  refine CallC ?_
  k_steps
  refine callWithC (K := hd.heap_39 w.params) (by k_is) (of_any ?_)
  k_steps
  (try dsimp only)
  (try simp only [List.nil_append])
  refine use_pwC (put_varint_e (by omega) (by omega)) (by k_asm) (by k_asm) (by k_asm) (by k_asm) (by k_asm) (by exact rfl) (by walk_at "my_sub") (by ktr_room) (by ktr_units) ?_
  intro t4 b4 h4 tk4 F4 N4 e4
  k_steps
  refine of_any ?_
  k_steps
  exact ret_b hret (by assumption) (by k_asm) (by k_asm)
end

-- part Y5
def encs (qs : List (Int × Int)) : List Int := qs.flatMap fun q => enc q.1 ++ enc q.2
/-- args hold a list D of pairs -/
structure PairList (args : Led) (D : Addr) (items : Array Val) (n : Nat) (qs : List (Int × Int)) : Prop where
  mem : (D, PySem.W.listOf items n) ∈ args
  size : items.size = qs.length
  pair : ∀ (i : Nat) (q : Int × Int), qs[i]? = some q → ∃ a t u k, items[i]? = some (.ref a) ∧ (a, (⟨.type "tuple", none, .seq #[.int q.1 t, .int q.2 u] k, #[]⟩ : Obj)) ∈ args
  rng : ∀ q ∈ qs, 0 ≤ q.1 ∧ q.1 < 16384 ∧ 0 ≤ q.2 ∧ q.2 < 16384
theorem encs_len : ∀ l : List (Int × Int), (encs l).length ≤ 4 * l.length := fun l => by
  induction l with
  | nil => exact Nat.le_refl _
  | cons p r ih =>
    have b1 := enc_len_le p.1
    have b2 := enc_len_le p.2
    simp only [encs, List.flatMap_cons, List.length_append, List.length_cons] at ih ⊢
    omega
section
set_option maxHeartbeats 8000000 in
theorem put_settings_c {w : World} {mean mg mb} {args : Led} {D : Addr} {items : Array Val} {n : Nat} {qs : List (Int × Int)} (hP : PairList args D items n qs) (hn : qs.length ≤ 3) :
    PwC w mean mg mb args 34 130 [.ref D] (RetB (encs qs)) := by
  walk_at "fill_k"
  intro dp un cn cs a ccd cl outer A₀ base h₀ L m news s Q E B F X N T hkk ha hdp hu hret
  walk_at "my_enterC"
  refine execsC_cons (of_any ?_)
  k_steps
  (try dsimp only)
  refine execsC_cons (ForC ?_)
  k_steps
  rename_i g0 L0 _ FG0 B0 X0 T0 hL1 hL2 la _ F0 N0 
  refine iterK F0 N0 hP.mem ?_
  intro I o h1 hi lI hLI F1 N1
  refine loopC (n := qs.length) (fun i s' => ∃ (b : Array UInt8) (t : Tok) (m₁ : PStr → Option Val) (o : Obj) (h : Heap) (tk : Nat), s' = { s with heap := h, toks := tk } ∧ KBw.bInts b = encs (qs.take i) ∧ ItAt D i o ∧ Fr g0 L0 h (fun y => if y = "found" then some (.bytes b t) else m₁ y) ∧ News g0 L0 h ((I, o) :: args)) ?turn ?fin qs.length 0 _ (Nat.zero_add _) ⟨#[], _, _, o, h1, _, rfl, ?e0, hi, F1, N1⟩
  case e0 => rfl
  case fin =>
    rintro s' ⟨b, t, m₁, o, h, tk, rfl, eb, hi, F2, N2⟩
    refine nextK_end rfl F2 N2 (fun p hp => Nat.ne_of_lt (lI p hp)) hi hP.mem (by rw [Array.getElem?_eq_none]; rw [hP.size]; exact Nat.le_refl _) ?_
    intro h3 F3 N3
    refine ⟨rfl, ?_⟩
    dsimp only
    refine execsC_cons (of_any ?_)
    k_steps
    exact ret_b (news' := args) hret (eb.trans (by rw [List.take_length])) (by k_asm) (by k_asm)
  case turn =>
    rintro i s' ⟨b, t, m₁, o, h, tk, rfl, eb, hi, F2, N2⟩ hlt
    obtain ⟨q, hq⟩ : ∃ q, qs[i]? = some q := ⟨_, List.getElem?_eq_getElem hlt⟩
    obtain ⟨ai, t1, u1, k1, hitem, hmem⟩ := hP.pair i q hq
    obtain ⟨r1, r2, r3, r4⟩ := hP.rng q (List.mem_of_getElem? hq)
    have hz0 : (encs (qs.take i)).length ≤ 12 := by
      have h1 := encs_len (qs.take i)
      have h2 : (qs.take i).length ≤ qs.length := by rw [List.length_take]; exact Nat.min_le_right _ _
      omega
    have z1 := enc_len_le q.1
    have z2 := enc_len_le q.2
    have lI2 : ∀ p ∈ args, p.1 ≠ I := fun p hp => Nat.ne_of_lt (lI p hp)
    refine nextK F2 N2 lI2 hi hP.mem hitem ?_
    intro o' h3 hi' F3 N3
    dsimp only
    refine shrink (keep := (I, o') :: (ai, ⟨.type "tuple", none, .seq #[.int q.1 t1, .int q.2 u1] k1, #[]⟩) :: args) N3 (fun p hp => by
      rcases List.mem_cons.mp hp with rfl | hp
      · exact .head _
      · rcases List.mem_cons.mp hp with rfl | hp
        · exact .tail _ hmem
        · exact .tail _ hp) ?_
    intro N4
    refine letGo_listiter ⟨o', (N4 _ (.head _)).1, hi'.1, hi'.2⟩ ?_
    k_steps
    refine execsC_cons (AssignC (BinOpC (BinOpC (of_any ?_))))
    k_steps
    refine CallC ?_
    k_steps
    refine callWithC (K := hd.heap_39 w.params) (by k_is) (of_any ?_)
    k_steps
    (try dsimp only)
    (try simp only [List.nil_append])
    refine use_pwC (put_varint_e r1 r2) (by k_asm) (by k_asm) (by k_asm) (by k_asm) (by k_asm) (by exact rfl) (by walk_at "my_sub") (by ktr_room) (by ktr_units) ?_
    intro t3 b3 h3' tk3 F3' N3' e3
    k_steps
    refine CallC ?_
    k_steps
    refine callWithC (K := hd.heap_39 w.params) (by k_is) (of_any ?_)
    k_steps
    (try dsimp only)
    (try simp only [List.nil_append])
    refine use_pwC (put_varint_e r3 r4) (by k_asm) (by k_asm) (by k_asm) (by k_asm) (by k_asm) (by exact rfl) (by walk_at "my_sub") (by ktr_room) (by ktr_units) ?_
    intro t4 b4 h4' tk4 F4' N4' e4
    k_steps
    refine of_any (wpAny_execs_nil ?_)
    dsimp only
    refine ⟨_, _, _, o', _, _, rfl, ?e1, hi', by k_asm, ?n1⟩
    case e1 =>
      rename_i hb _ _ _
      refine Eq.trans (by assumption) ?_
      rw [List.take_succ, hq]
      simp [encs, List.flatMap_append, List.append_assoc]
    case n1 =>
      exact shrink (by assumption) (fun p hp => by
        rcases List.mem_cons.mp hp with rfl | hp
        · exact .head _
        · exact .tail _ (.tail _ hp)) id
end

-- part Y6
section
set_option maxHeartbeats 8000000 in
theorem put_h3_c {w : World} {mean mg mb} {args : Led} {T D : Addr} {items : Array Val} {n k : Nat} {qs : List (Int × Int)} {t : Tok} (hP : PairList args D items n qs) (hn : qs.length ≤ 3) :
    PwC w mean mg mb ((T, ⟨.type "tuple", none, .seq #[.str "settings" t, .ref D] k, #[]⟩) :: args) 46 137 [.ref T] (RetB (enc 4 ++ enc (encs qs).length ++ encs qs)) := by
  have hz : (encs qs).length ≤ 100 := by
    have := encs_len qs
    omega
  walk_at "fill_k"
  intro dp un cn cs a ccd cl outer A₀ base h₀ L m news s Q E B F X N TT hkk ha hdp hu hret
  walk_at "my_enterC"
  refine execsC_cons (of_any ?_)
  k_steps
  (try dsimp only)
  refine execsC_cons (of_any ?_)
  k_steps
  (try dsimp only)
  refine execsC_cons (IfC (of_any ?_))
  k_steps
  (try dsimp only)
  refine execsC_cons (ReturnC (CallC ?_))
  k_steps
  refine callWithC (K := hd.heap_39 w.params) (by k_is) ?_
  refine splicedC_cons (x := eval _ _) (of_any ?_)
  k_steps
  refine splicedC_cons (x := eval _ _) (CallC ?_)
  k_steps
  refine callWithC (K := hd.heap_39 w.params) (by k_is) (of_any ?_)
  k_steps
  (try dsimp only)
  (try simp only [List.nil_append])
  refine use_pwC (put_settings_c hP hn) (by k_asm) (by k_asm) (by k_asm) (by k_asm) (by k_asm) (by exact rfl) (fun p hp => .tail _ hp) (by ktr_room) (by ktr_units) ?_
  intro t3 b3 h3' tk3 F3' N3' e3
  refine splicedC_nil ⟨by k_in, ?_⟩
  (try dsimp only)
  (try simp only [List.nil_append])
  refine use_pwC (put_plain_c e3 hz) (by k_asm) (by k_asm) (by k_asm) (by k_asm) (by k_asm) (by exact rfl) (by walk_at "my_sub") (by ktr_room) (by ktr_units) ?_
  intro t9 b9 h9 tk9 F9 N9 e9
  k_steps
  exact ret_b hret e9 (by k_asm) (by k_asm)
end

-- part Z1
theorem u8_n {y : Int} (h : 0 ≤ y ∧ y < 256) : (y.toNat.toUInt8.toNat : Int) = y := by
  have e : y.toNat.toUInt8.toNat = y.toNat := by
    show y.toNat % 256 = y.toNat
    omega
  rw [e]; omega
section
set_option maxHeartbeats 8000000 in
theorem law_octets_1 {w : World} {mean mg mb} {x : Int} {t1 : Tok} (h0 : 0 ≤ x) (h1 : x < 64) :
    Pw w mean mg mb [] 6 226 [.int x t1] (RetB [x]) := by
  walk_at "fill_k"
  intro dp un gd cn cs a ccd cl outer A₀ base h₀ L m news s Q E B F X N T hkk ha hdp hu hret
  walk_at "my_enter"
  k_steps
  refine ret_b hret ?_ (by k_asm) (by k_asm)
  show [(x.toNat.toUInt8.toNat : Int)] = [x]
  rw [u8_n ⟨h0, by omega⟩]
set_option maxHeartbeats 8000000 in
theorem law_octets_2 {w : World} {mean mg mb} {x : Int} {t1 : Tok} (h0 : 64 ≤ x) (h1 : x < 16384) :
    Pw w mean mg mb [] 6 226 [.int x t1] (RetB [64 + x / 256, x % 256]) := by
  have r1 : 0 ≤ 64 + x.fdiv 256 ∧ 64 + x.fdiv 256 < 256 := by rw [Int.fdiv_eq_ediv_of_nonneg _ (by decide)]; omega
  have r2 : 0 ≤ x.fmod 256 ∧ x.fmod 256 < 256 := by rw [Int.fmod_eq_emod_of_nonneg _ (by decide)]; omega
  walk_at "fill_k"
  intro dp un gd cn cs a ccd cl outer A₀ base h₀ L m news s Q E B F X N T hkk ha hdp hu hret
  walk_at "my_enter"
  k_steps
  refine ret_b hret ?_ (by k_asm) (by k_asm)
  show [((64 + x.fdiv 256).toNat.toUInt8.toNat : Int), ((x.fmod 256).toNat.toUInt8.toNat : Int)] = [64 + x / 256, x % 256]
  rw [u8_n r1, u8_n r2, Int.fdiv_eq_ediv_of_nonneg _ (by decide), Int.fmod_eq_emod_of_nonneg _ (by decide)]
theorem law_octets_e {w : World} {mean mg mb} {x : Int} {t1 : Tok} (h0 : 0 ≤ x) (h1 : x < 16384) : Pw w mean mg mb [] 6 226 [.int x t1] (RetB (enc x)) := by
  unfold enc
  by_cases h : x < 64
  · rw [if_pos h]; exact law_octets_1 h0 h
  · rw [if_neg h]; exact law_octets_2 (by omega) h1
end

-- part Z2
section
variable {prog : Program} {w : World} {A : Around} {s : Shared} {env : Env} {target : PySem.Expr} {body : List Stmt}
theorem loopA {R : Result → Shared → Prop} {it : Val} {n : Nat} (St : Nat → Shared → Prop)
    (turn : ∀ i s, St i s → i < n → wpAny (model prog w) A (pyNext it) (fun r s₁ => match r with
      | none => False
      | some v => wpAny (model prog w) A (letOwnedTupleGo target it v) (fun _ s₁' => wpAny (model prog w) A (assign target env v) (fun _ s₂ => wpAny (model prog w) A (execs body env) (fun f s₃ => match f with
          | .next | .cont => St (i + 1) s₃
          | .brk => R (.ok .next) s₃
          | .ret v => R (.ok (.ret v)) s₃) (notedBy (model prog w) A env fun e s' => R (.error e) s') s₂) (notedBy (model prog w) A env fun e s' => R (.error e) s') s₁') (notedBy (model prog w) A env fun e s' => R (.error e) s') s₁)
      (notedBy (model prog w) A env fun e s' => R (.error e) s') s)
    (fin : ∀ s, St n s → wpAny (model prog w) A (pyNext it) (fun r s₁ => r = none ∧ R (.ok .next) s₁) (notedBy (model prog w) A env fun e s' => R (.error e) s') s)
    (k i : Nat) (s : Shared) (e : i + k = n) (h : St i s) : codeAny (model prog w) A (.forLoop target it body [] env) R s := by
  refine codeAny_forLoop_any (fun k s => ∃ i, i + k = n ∧ St i s) (fun k s hI => ?_) k ⟨i, e, h⟩
  obtain ⟨i, e, h⟩ := hI
  cases k with
  | zero =>
    obtain rfl : i = n := e
    exact wpAny_mono (fin s h) (fun r s₁ h₁ => by obtain ⟨rfl, h₁⟩ := h₁; exact wpAny_execs_nil h₁) fun _ _ z => z
  | succ k =>
    refine wpAny_mono (turn i s h (by omega)) (fun r s₁ h₁ => ?_) fun _ _ z => z
    cases r with
    | none => exact h₁.elim
    | some v => exact wpAny_mono h₁ (fun _ s₁' h₁' => wpAny_mono h₁' (fun _ s₂ h₂ => wpAny_mono h₂ (fun f s₃ h₃ => by
          cases f with
          | next => exact ⟨k, by omega, i + 1, by omega, h₃⟩
          | cont => exact ⟨k, by omega, i + 1, by omega, h₃⟩
          | brk => exact h₃
          | ret v => exact h₃) fun _ _ z => z) fun _ _ z => z) fun _ _ z => z
end

-- part Z3
/-- numbers: none of an elder version, none twice -/
def okX (seen : List Int) : List Int → Bool
  | [] => true
  | x :: r => !oldN x && !(seen.any fun y => y == x) && okX (seen ++ [x]) r
theorem okFrom_okX (ps : List PairC) : ∀ seen, okFrom seen ps = okX seen (ps.map (·.x)) := by
  induction ps with
  | nil => intro _; rfl
  | cons p r ih => intro seen; simp only [okFrom, okX, List.map_cons, ih]
def dueSt (g0 : Heap) (L0 DM D I : Addr) (args : Led) (qs : List (Int × Int)) (s : Shared) (i : Nat) (s' : Shared) : Prop :=
  ∃ (vs : List Val) (c : Nat) (m₁ : PStr → Option Val) (o : Obj) (h : Heap) (tk : Nat), s' = { s with heap := h, toks := tk } ∧ m₁ "pairs" = some (.ref D) ∧ okX [] (qs.map (·.1)) = okX ((qs.map (·.1)).take i) ((qs.map (·.1)).drop i) ∧ IntsAre vs ((qs.map (·.1)).take i) ∧ ItAt D i o ∧ Fr g0 L0 h (fun y => if y = "met" then some (.ref DM) else m₁ y) ∧ News g0 L0 h ((I, o) :: (DM, PySem.W.listOf vs.toArray c) :: args)
theorem ints_snoc {vs : List Val} {ns : List Int} (h : IntsAre vs ns) (x : Int) (t : Tok) : IntsAre (vs ++ [.int x t]) (ns ++ [x]) := h.append (.cons _ _ .nil)
section
set_option maxHeartbeats 8000000 in
theorem law_due_c {w : World} {mean mg mb} {args : Led} {D : Addr} {items : Array Val} {n : Nat} {qs : List (Int × Int)} (hP : PairList args D items n qs) (hn : qs.length ≤ 3) :
    Pw w mean mg mb args 10 233 [.ref D] (fun news h₀ L m s Q => (okX [] (qs.map (·.1)) = true → ∀ (q q2 : Addr) (t : Tok) (k1 k2 : Nat) h' tk', (∀ p ∈ news, p.1 < q2) → @LT.lt Nat _ q2 q → Fr h₀ L h' m → News h₀ L h' ((q, PySem.W.listOf #[.ref q2] k1) :: (q2, ⟨.type "tuple", none, .seq #[.str "settings" t, .ref D] k2, #[]⟩) :: news) → Q (.ref q) { s with heap := h', toks := tk' }) ∧
      (okX [] (qs.map (·.1)) = false → ∀ (t : Tok) h' tk', Fr h₀ L h' m → News h₀ L h' news → Q (.int 265 t) { s with heap := h', toks := tk' })) := by
  walk_at "fill_k"
  intro dp un gd cn cs a ccd cl outer A₀ base h₀ L m news s Q E B F X N T hkk ha hdp hu hret
  walk_at "my_enter"
  rename_i g0 L0 _ FG0 _ _ B0 X0 T0 hL1 hL2 la
  refine wpAny_execs_cons ?_
  k_steps
  rename_i DM _ lDM lLM _ F0 N0
  refine wpAny_For ?_
  k_steps
  refine iterK (by k_asm) (by k_asm) (.tail _ hP.mem) ?_
  intro I o h1 hi lI hLI F1 N1
  have lI0 : ∀ p ∈ (DM, PySem.W.listOf #[] 0) :: args, p.1 ≠ I := fun p hp => Nat.ne_of_lt (lI p hp)
  have nDM : ∀ p ∈ args, p.1 ≠ DM := fun p hp => Nat.ne_of_lt (lDM p hp)
  have nDI : DM ≠ I := lI0 _ (.head _)
  have nAI : ∀ p ∈ args, p.1 ≠ I := fun p hp => lI0 p (.tail _ hp)
  refine loopA (n := qs.length) (dueSt g0 L0 DM D I args qs s) ?turn ?fin qs.length 0 _ (Nat.zero_add _) ⟨[], 0, _, o, h1, _, rfl, by with_unfolding_all rfl, rfl, .nil, hi, F1, N1⟩
  case fin =>
    rintro s' ⟨vs, c, m₁, o, h, tk, rfl, hm1, eb, hv, hi, F2, N2⟩
    refine nextK_end rfl F2 N2 (fun p hp => by
      rcases List.mem_cons.mp hp with rfl | hp
      · exact nDI
      · exact nAI p hp) hi (.tail _ hP.mem) (by rw [Array.getElem?_eq_none]; rw [hP.size]; exact Nat.le_refl _) ?_
    intro h3 F3 N3
    refine ⟨rfl, ?_⟩
    have em : (fun y : PStr => if y = "met" then some (.ref DM) else m₁ y) = (fun y : PStr => if y = "met" then some (Value.ref DM) else if y = "pairs" then some (.ref D) else m₁ y) := by
      funext y
      by_cases h2 : y = "pairs"
      · subst h2
        simp [hm1]
      · simp [h2]
    rw [em] at F3
    have hok : okX [] (qs.map (·.1)) = true := by
      rw [eb, List.drop_of_length_le (by rw [List.length_map]; exact Nat.le_refl _)]
      rfl
    dsimp only
    k_steps
    rename_i q2 _ lq2 _ q1 _ _ _ _ lq1 kF kN _ _
    exact hret.1 hok q1 q2 _ _ _ _ _ (fun p hp => Nat.lt_trans (hL2 p hp) lq2) lq1.1 kF (fun p hp => kN p (by
      rcases List.mem_cons.mp hp with rfl | hp
      · exact .head _
      · rcases List.mem_cons.mp hp with rfl | hp
        · exact .tail _ (.head _)
        · exact List.mem_append_right _ hp))
  case turn =>
    rintro i s' ⟨vs, c, m₁, o, h, tk, rfl, hm1, eb, hv, hi, F2, N2⟩ hlt
    obtain ⟨q, hq⟩ : ∃ q, qs[i]? = some q := ⟨_, List.getElem?_eq_getElem hlt⟩
    obtain ⟨ai, t1, u1, k1, hitem, hmem⟩ := hP.pair i q hq
    refine nextK F2 N2 (fun p hp => by
      rcases List.mem_cons.mp hp with rfl | hp
      · exact nDI
      · exact nAI p hp) hi (.tail _ hP.mem) hitem ?_
    intro o' h3 hi' F3 N3
    dsimp only
    refine shrink (keep := (I, o') :: (DM, PySem.W.listOf vs.toArray c) :: (ai, ⟨.type "tuple", none, .seq #[.int q.1 t1, .int q.2 u1] k1, #[]⟩) :: args) N3 (fun p hp => by
      rcases List.mem_cons.mp hp with rfl | hp
      · exact .head _
      · rcases List.mem_cons.mp hp with rfl | hp
        · exact .tail _ (.head _)
        · rcases List.mem_cons.mp hp with rfl | hp
          · exact .tail _ (.tail _ hmem)
          · exact .tail _ (.tail _ hp)) ?_
    intro N4
    refine letGo_listiter ⟨o', (N4 _ (.head _)).1, hi'.1, hi'.2⟩ ?_
    have hdr : (qs.map (·.1)).drop i = q.1 :: (qs.map (·.1)).drop (i + 1) := by
      rw [List.drop_eq_getElem_cons (by rw [List.length_map]; exact hlt)]
      congr 1
      rw [List.getElem_map]
      have := List.getElem?_eq_some_iff.mp hq
      rw [this.2]
    rw [hdr] at eb
    have htk : (qs.map (·.1)).take (i + 1) = (qs.map (·.1)).take i ++ [q.1] := by
      rw [List.take_succ, List.getElem?_map, hq]; rfl
    have fin265 : okX [] (qs.map (·.1)) = false → ∀ (t : Tok) h' tk', Fr h₀ L h' m → News h₀ L h' news → Q (.int 265 t) { s with heap := h', toks := tk' } := hret.2
    k_steps
    · exact fin265 (by
      have ho : oldN q.1 = true := by assumption
      rw [eb]; simp [okX, ho]) _ _ _ (by k_asm) (shrink (by assumption) (fun p hp => List.mem_append_right _ hp) id)
    · exact fin265 (by
      rw [eb]
      cases hany : (List.take i (qs.map (·.1))).any (fun y => y == q.1) with
      | true => simp [okX, hany]
      | false => simp_all) _ _ _ (by k_asm) (shrink (by assumption) (fun p hp => List.mem_append_right _ hp) id)
    refine shrink (keep := (I, o') :: (DM, PySem.W.listOf vs.toArray c) :: args) (by assumption) (fun p hp => by
      rcases List.mem_cons.mp hp with rfl | hp
      · first | exact .head _ | exact .tail _ (.head _)
      · rcases List.mem_cons.mp hp with rfl | hp
        · first | exact .tail _ (.head _) | exact .tail _ (.tail _ (.head _))
        · first | exact .tail _ (.tail _ (.tail _ hp)) | exact .tail _ (.tail _ (.tail _ (.tail _ hp)))) ?_
    intro N5
    refine append_K (by k_asm) N5 (.tail (Ne.symm nDI) (.head nDM)) ?_
    intro h5 F5 N6
    k_steps
    refine ⟨vs ++ [.int q.1 t1], c + 1, (fun y : PStr => if y = "value" then some (Value.int q.2 u1) else if y = "number" then some (Value.int q.1 t1) else m₁ y), o', h5, _, rfl, ?em1, ?eo1, ?ei1, hi', ?ef1, ?en1⟩
    case ef1 =>
      have em : (fun y : PStr => if y = "value" then some (Value.int q.2 u1) else if y = "number" then some (.int q.1 t1) else if y = "met" then some (.ref DM) else m₁ y) = (fun y : PStr => if y = "met" then some (Value.ref DM) else (fun y : PStr => if y = "value" then some (Value.int q.2 u1) else if y = "number" then some (.int q.1 t1) else m₁ y) y) := by
        funext y
        by_cases h2 : y = "met"
        · subst h2
          rw [if_neg (by decide), if_neg (by decide), if_pos rfl, if_pos rfl]
        · rw [if_neg (c := y = "met") h2]; simp only [if_neg h2]
      exact em ▸ F5
    case em1 =>
      show (if _ then _ else if _ then _ else _) = _
      rw [if_neg (by decide), if_neg (by decide)]; exact hm1
    case eo1 =>
      rw [eb, htk]
      cases hold : oldN q.1 with
      | true => unfold oldN at hold; simp_all
      | false =>
        cases hany : (List.take i (qs.map (·.1))).any (fun y => y == q.1) with
        | true => simp_all
        | false => simp [okX, hany, hold]
    case ei1 =>
      rw [htk]
      exact ints_snoc hv q.1 t1
    case en1 => simpa using N6
end

-- part J1
theorem raise_on {w : World} {A : Around} {base g h₀ : Heap} {outer : List Env} {envc : Env} {L L' C a : Addr} {m m' : PStr → Option Val} {P P' : List DictEntry → Prop} {s s1 : Shared} {E : Val → Shared → Prop} {name : PStr} {scope : Scope} {cd : Val}
    (hrs : RaiseX C P envc outer base h₀ L m s E) (FG : Fr h₀ L g m) (B : Below A base (envc :: outer) g) (hp : ∀ es, P' es → P es) (hs : ∀ h tk, ({ s1 with heap := h, toks := tk } : Shared) = { s with heap := h, toks := tk }) :
    RaiseX C P' (envOf name scope L' a cd) (envc :: outer) base g L' m' s1 (fun e s' => wpAny (model PySem.Challenge.rw_pf0260_01.row.prog w) (A.deeper (envOf name scope L' a cd)) (leaving (envOf name scope L' a cd) e) (fun _ s'' => E e s'') (fun e' s'' => E e' s'') s') := by
  intro G e t dx es n vs h' tk' F R p U
  refine leave_onD B F R U fun h2 R2 U2 => ?_
  have := hrs g e t dx es n vs h2 tk' FG R2 (hp es p) U2
  rw [← hs] at this
  exact this
/-- a type that elder versions had -/
def oldT (x : Int) : Bool := [2, 6, 8, 9].any (· == x)
theorem in_oldT {prog : Program} {w : World} {A : Around} {E : Val → Shared → Prop} {s : Shared} {K : Frag} {h₀ : Heap} {L t : Addr} {m : PStr → Option Val} {n : Nat} {sl : Array (Option Val)} {dd : Option Addr} {l : List Val} {u : Tok} {Q : Val → Shared → Prop} (F : Fr h₀ L s.heap m) (X : K.In h₀)
    (hl : K.lookup t = some ⟨.type "tuple", dd, .seq l.toArray n, sl⟩) (hi : IntsAre l [2, 6, 8, 9]) (h : Q (.bool false) s) : wpAny (model prog w) A (compareOp .In (.int 4 u) (.ref t)) Q E s :=
  in_tuple_ints (tupK (X.keeps F.keep) hl) hi h
local macro_rules | `(tactic| walk_at "compareOp In int ref") => `(tactic| (k_here; k_dflt (refine' in_oldT ?F ?X ?l ?i ?_; (case F => k_asm); (case X => k_asm); (case l => k_is); (case i => repeat constructor))))
/-- the objects of a frame of settings -/
def PayObjs (ps : List PairC) (q : Addr) (tl : Led) : Prop :=
  ∃ q' tl' n t, SetObjs ps q' tl' ∧ (∀ r ∈ tl', r.1 < q) ∧ tl = (q, ⟨.type "tuple", none, .seq #[.str "settings" t, .ref q'] n, #[]⟩) :: tl'
theorem ret_pay {ps : List PairC} {news tl : Led} {h₀ : Heap} {L L' D q : Addr} {m : PStr → Option Val} {s : Shared} {Q : Val → Shared → Prop} {h' : Heap} {tk' n : Nat} {t : Tok} (hret : RetL (PayObjs ps) news h₀ L m s Q) (hL : ∀ p ∈ news, p.1 < L') (hLL : @LT.lt Nat _ L L')
    (F : Fr h₀ L h' m) (N : News h₀ L h' (((D, (⟨.type "tuple", none, .seq #[.str "settings" t, .ref q] n, #[]⟩ : Obj)) :: (tl ++ [])) ++ news)) (hD : ∀ p ∈ tl ++ ([] : Led), p.1 < D) (hLD : @LT.lt Nat _ L' D) (hLt : ∀ r ∈ tl, @LT.lt Nat _ L' r.1) (hs : SetObjs ps q tl) : Q (.ref D) { s with heap := h', toks := tk' } :=
  ret_l (tl := (D, ⟨.type "tuple", none, .seq #[.str "settings" t, .ref q] n, #[]⟩) :: tl) hret hL hLL F N (fun r hr => by
    rcases List.mem_cons.mp hr with rfl | hr
    · exact .head _
    · exact .tail _ (List.mem_append_left _ hr)) (fun r hr => by
    rcases List.mem_cons.mp hr with rfl | hr
    · exact hLD
    · exact hLt r hr) ⟨q, tl, _, _, hs, fun r hr => hD r (List.mem_append_left _ hr), rfl⟩
section
set_option maxHeartbeats 8000000 in
theorem read_payload_c {w : World} {mean mg mb} {arr : Array UInt8} {ps : List PairC} {t1 t2 : Tok} (hk : KBw.bInts arr = octs ps) (hn : ps ≠ []) (hn3 : ps.length ≤ 3) :
    PwR w mean mg mb [] 16 163 [.int 4 t1, .bytes arr t2] (fun news h₀ L m s Q => okFrom [] ps = true → RetL (PayObjs ps) news h₀ L m s Q) 51 (fun es => okFrom [] ps = false ∧ ∃ tk, getL "code" es = some (some (.int 265 tk))) := by
  walk_at "fill_k"
  intro dp un gd cn cs a ccd cl outer A₀ base h₀ L m news s Q E B F X N T hkk ha hdp hu hret hrs
  walk_at "my_enter"
  k_steps
  refine use_pwR (read_settings_c hk hn hn3) (by k_asm) (by k_asm) (by k_asm) (by k_asm) (by k_asm) (by exact rfl) (by walk_at "my_sub") (by ktr_room) (by ktr_units) ?_ ?_
  rotate_left
  · exact raise_on hrs (by k_asm) (by k_asm) (fun _ h => h) (fun _ _ => rfl)
  intro hok q tl h1 tk1 hs hlt hL F1 N1
  (try dsimp only)
  k_steps
  exact ret_pay (hret hok) (by assumption) (by assumption) (by k_asm) (by k_asm) (by assumption) (by assumption) hL hs
end

-- part J2
local macro_rules | `(tactic| k_call_rec "my_mutc" $args $oth $z) => `(tactic| (k_dflt (refine' code_mut (args := $args) (oth := $oth) ?k1 ?k2 ?k3 ?k4 ?k5 ?kA ?kF ?kK ?k6 ?k7 ?k8 ?k9 ?kB ?ka ?_ ?c2 ?c3 ?c4 ?c5; (case kA => exact rfl); (case kF => exact rfl); (case kK => first | assumption | exact rfl); (case k1 => k_asm); (case k2 => k_asm); (case k3 => k_asm); (case k4 => first | assumption | k_asm); (case k5 => k_asm); (case k6 => k_is); (case k7 => k_is); (case k8 => ktr_room); (case k9 => exact BindsTo.of_eq rfl); (case c5 => decide); (case kB => exact locs rfl); (case c2 => exact rfl); (case c3 => exact rfl); (case c4 => exact rfl); (case ka => assumption); k_whole; intro g' L' h' FG' F' N' B' X' T' l1 hL1 hL2; (try k_lt l1); (try dsimp only); (try k_lift B'); (try k_fold))))
/-- the dict of a stream -/
abbrev strm (w : World) (a b c d : Tok) (arr : Array UInt8) : List DictEntry := [⟨PyData.keyHash w.params "most", .str "most" a, .int 40 b⟩, ⟨PyData.keyHash w.params "rest", .str "rest" c, .bytes arr d⟩]
abbrev strmObjs (w : World) (x dx : Addr) (a b c d : Tok) (arr : Array UInt8) : Led := [(x, instObj 201 dx), (dx, dictOf (strm w a b c d arr) 2)]
abbrev RetO (w : World) (news : Led) (h₀ : Heap) (L : Addr) (m : PStr → Option Val) (s : Shared) (Q : Val → Shared → Prop) : Prop :=
  ∀ (x dx : Addr) (a b c d : Tok) (h' : Heap) (tk' : Nat), (∀ p ∈ news, p.1 < dx) → @LT.lt Nat _ dx x → Fr h₀ L h' m → News h₀ L h' (strmObjs w x dx a b c d #[] ++ news) → Q (.ref x) { s with heap := h', toks := tk' }
section
set_option maxHeartbeats 8000000 in
theorem stream_make {w : World} {mean mg mb} {t1 : Tok} :
    Pw w mean mg mb [] 8 201 [.int 40 t1] (RetO w) := by
  walk_at "fill_k"
  intro dp un gd cn cs a ccd cl outer A₀ base h₀ L m news s Q E B F X N T hkk ha hdp hu hret
  refine call_cls (by k_asm) (by k_asm) (by k_asm) (by k_is) (by k_is) (by k_is) ?_
  intro x dx h1 F1 N1 lx ldx
  have ldx0 := ldx
  k_lt2 ldx
  have hdis : ∀ p ∈ news, p.1 ∉ ([(x, instObj 201 dx), (dx, dictOf [] 0)] : Led).map (·.1) := fun p hp => by
    have h2 := lx p hp
    simp only [List.map_cons, List.map_nil, List.mem_cons, List.not_mem_nil, or_false, not_or]
    exact ⟨Nat.ne_of_lt (Nat.lt_trans h2 ldx), Nat.ne_of_lt h2⟩
  k_call_rec "my_mutc" [(x, instObj 201 dx), (dx, dictOf [] 0)] news rfl
  k_steps
  exact ⟨rfl, hret x dx _ _ _ _ _ _ lx ldx (by k_asm) (by k_asm)⟩
end

-- part J3
/-- like PwR, for a callee that may change what it is handed (args), beside the rest of the ledger (oth) -/
abbrev PwM (w : World) (mean : ExcName → Option Val) (mg mb : PStr → Option Val) (args oth : Led) (k : Nat) (f : Addr) (vs : List Val) (Ret : Heap → Addr → (PStr → Option Val) → Shared → (Val → Shared → Prop) → Prop) (C : Addr) (P : List DictEntry → Prop) : Prop :=
  ∀ (dp un : Nat) (gd : Option (List Code)) (cn : PStr) (cs : Scope) (a : Addr) (ccd : Val) (cl : List (PStr × Addr)) (outer : List Env) (A₀ : Around) (base h₀ : Heap) (L : Addr) (m : PStr → Option Val) (s : Shared) (Q E : Val → Shared → Prop),
    Below A₀ base outer h₀ → Fr h₀ L s.heap m → (hd.heap_39 w.params).In h₀ → News h₀ L s.heap (args ++ oth) → Top hd.view_39 (looseW hd.view_39 []) mean mg mb h₀ → cs.kind = .function → (∀ p ∈ oth, p.1 ∉ args.map (·.1)) → dp + k < recursionLimit → un + 8 * k < cLine →
    Ret h₀ L m s Q → RaiseX C P (envX cn cs L a ccd cl) outer base h₀ L m s E →
    wpAny (model PySem.Challenge.rw_pf0260_01.row.prog w) (ktrTop dp un gd cn cs L a ccd cl outer) (call (.ref f) vs) Q E s
theorem picked_mid {b : Array UInt8} {ks : List Int} {n k : Nat} {i j : Int} (hk : KBw.bInts b = ks) (hi : i = (n : Nat)) (hj : j = ((n + k : Nat) : Int)) (hn : n + k ≤ ks.length) : KBw.bInts (KBy.picked b (some i) (some j)) = (ks.drop n).take k := by
  subst hi hj
  rw [KBc.ints_picked hk]
  show List.take (clipAt ks.length ((n + k : Nat) : Int) - clipAt ks.length (n : Int)) (List.drop (clipAt ks.length (n : Int)) ks) = _
  rw [clipAt_nat, clipAt_nat, Nat.min_eq_left hn, Nat.min_eq_left (Nat.le_trans (Nat.le_add_right n k) hn), Nat.add_sub_cancel_left]
theorem picked_end {b : Array UInt8} {ks : List Int} {n : Nat} {i : Int} (hk : KBw.bInts b = ks) (hi : i = (n : Nat)) (hn : n ≤ ks.length) : KBw.bInts (KBy.picked b (some i) none) = ks.drop n := by
  subst hi
  rw [KBc.ints_picked hk]
  show List.take (ks.length - clipAt ks.length (n : Int)) (List.drop (clipAt ks.length (n : Int)) ks) = _
  rw [clipAt_nat, Nat.min_eq_left hn, ← List.length_drop, List.take_length]
theorem keep_mid {tl mid mid' oth : Led} (h : ∀ p ∈ mid', p ∈ mid) : ∀ p ∈ tl ++ mid' ++ oth, p ∈ (tl ++ mid) ++ oth := fun p hp => by
  rcases List.mem_append.mp hp with hp | hp
  · rcases List.mem_append.mp hp with hp | hp
    · exact List.mem_append_left _ (List.mem_append_left _ hp)
    · exact List.mem_append_left _ (List.mem_append_right _ (h p hp))
  · exact List.mem_append_right _ hp
theorem octs_len : ∀ l : List PairC, (octs l).length ≤ 4 * l.length := fun l => by
  induction l with
  | nil => exact Nat.le_refl _
  | cons p r ih =>
    have b1 := cod_len p.cx
    have b2 := cod_len p.cv
    simp only [octs, List.flatMap_cons, List.length_append, List.length_cons] at ih ⊢
    omega
/-- what next_frame gives back when a frame was whole -/
abbrev RetF (w : World) (ps : List PairC) (x dx : Addr) (oth : Led) (h₀ : Heap) (L : Addr) (m : PStr → Option Val) (s : Shared) (Q : Val → Shared → Prop) : Prop :=
  ∀ (q : Addr) (tl : Led) (a b c d : Tok) (arr' : Array UInt8) (h' : Heap) (tk' : Nat), PayObjs ps q tl → KBw.bInts arr' = [] → (∀ p ∈ oth, ∀ r ∈ tl, p.1 < r.1) → (∀ r ∈ tl, x < r.1 ∧ @LT.lt Nat _ L r.1) → Fr h₀ L h' m → News h₀ L h' (tl ++ strmObjs w x dx a b c d arr' ++ oth) → Q (.ref q) { s with heap := h', toks := tk' }
theorem nf_ret {w : World} {ps : List PairC} {x dx q : Addr} {oth mid tl : Led} {h₀ h3 : Heap} {L L0 : Addr} {m : PStr → Option Val} {s : Shared} {Q : Val → Shared → Prop} {a b c d : Tok} {arr' : Array UInt8} {tk3 : Nat} (hret : RetF w ps x dx oth h₀ L m s Q) (hs : PayObjs ps q tl) (hend : KBw.bInts arr' = [])
    (hL0 : ∀ p ∈ oth, p.1 < L0) (hL : ∀ r ∈ tl, @LT.lt Nat _ L0 r.1) (hxL : @LT.lt Nat _ x L0) (hLL0 : @LT.lt Nat _ L L0) (F : Fr h₀ L h3 m) (N : News h₀ L h3 ((tl ++ mid) ++ oth)) (hm : ∀ p ∈ strmObjs w x dx a b c d arr', p ∈ mid) : Q (.ref q) { s with heap := h3, toks := tk3 } :=
  hret q tl a b c d arr' h3 tk3 hs hend (fun p hp r hr => Nat.lt_trans (hL0 p hp) (hL r hr)) (fun r hr => ⟨Nat.lt_trans hxL (hL r hr), Nat.lt_trans hLL0 (hL r hr)⟩) F fun p hp => N p (keep_mid hm p hp)
section
set_option maxHeartbeats 8000000 in
theorem next_frame_c {w : World} {mean mg mb} {arr : Array UInt8} {ps : List PairC} {x dx : Addr} {ka kb kc kd : Tok} {oth : Led} (hx : @LT.lt Nat _ dx x) (hk : KBw.bInts arr = 4 :: ((octs ps).length : Int) :: octs ps) (hn : ps ≠ []) (hn3 : ps.length ≤ 3) :
    PwM w mean mg mb (strmObjs w x dx ka kb kc kd arr) oth 30 191 [.ref x] (fun h₀ L m s Q => okFrom [] ps = true → RetF w ps x dx oth h₀ L m s Q) 51 (fun es => okFrom [] ps = false ∧ ∃ tk, getL "code" es = some (some (.int 265 tk))) := by
  have hlen : (octs ps).length ≤ 12 := by
    have h := octs_len ps
    omega
  have hz : (4 :: ((octs ps).length : Int) :: octs ps).length ≤ 100000 := by
    simp only [List.length_cons]; omega
  have hl2 : (4 :: ((octs ps).length : Int) :: octs ps).length = (octs ps).length + 2 := rfl
  have e1 : ([4] : List Int).length = 1 := rfl
  have e2 : ([((octs ps).length : Int)] : List Int).length = 1 := rfl
  walk_at "fill_k"
  intro dp un gd cn cs a ccd cl outer A₀ base h₀ L m s Q E B F X N T hkk hdis hdp hu hret hrs
  k_call_rec "my_mut" (strmObjs w x dx ka kb kc kd arr) oth rfl
  rename_i L0 _ _ _ _ _ _ _ hL0 hLL0 hxd
  have hxL : @LT.lt Nat _ x L0 := hxd.1
  k_steps
  refine use_pw (get_varint_c (n := 0) (l := [4]) (r := ((octs ps).length : Int) :: octs ps) hk rfl (.inl ⟨rfl, by decide, by decide⟩) hz) (by k_asm) (by k_asm) (by k_asm) (by k_asm) (by k_asm) (by exact rfl) (by walk_at "my_sub") (by ktr_room) (by ktr_units) ?_
  intro q1 t1 u1 n1 h1 tk1 hq1 hL1 F1 N1
  k_lt hq1
  (try dsimp only)
  k_steps
  refine use_pw (get_varint_c (n := 1) (l := [((octs ps).length : Int)]) (r := octs ps) hk rfl (.inl ⟨rfl, by omega, by omega⟩) hz) (by k_asm) (by k_asm) (by k_asm) (by k_asm) (by k_asm) (by exact rfl) (by walk_at "my_sub") (by ktr_room) (by ktr_units) ?_
  intro q2 t2 u2 n2 h2 tk2 hq2 hL2 F2 N2
  k_lt hq2
  (try dsimp only)
  k_steps
  have hmid : KBw.bInts (KBy.picked arr (some ((1 + [((octs ps).length : Int)].length : Nat) : Int)) (some (((1 + [((octs ps).length : Int)].length : Nat) : Int) + ((octs ps).length : Int)))) = octs ps := by
    rw [picked_mid (n := 2) (k := (octs ps).length) hk (by omega) (by omega) (by omega)]
    exact List.take_length
  have hend : KBw.bInts (KBy.picked arr (some (((1 + [((octs ps).length : Int)].length : Nat) : Int) + ((octs ps).length : Int))) none) = [] := by
    rw [picked_end (n := 2 + (octs ps).length) hk (by omega) (by omega)]
    exact List.drop_of_length_le (by omega)
  refine use_pwR (read_payload_c hmid hn hn3) (by k_asm) (by k_asm) (by k_asm) (by k_asm) (by k_asm) (by exact rfl) (by walk_at "my_sub") (by ktr_room) (by ktr_units) ?_ ?_
  rotate_left
  · exact raise_on hrs (by k_asm) (by k_asm) (fun _ h => h) (fun _ _ => rfl)
  intro hok q tl h3 tk3 hs hlt hL F3 N3
  (try dsimp only)
  k_steps
  exact nf_ret (hret hok) hs hend hL0 hL hxL hLL0 (by k_asm) (by k_asm) (by walk_at "my_sub2")
end

-- part J4
/-- like PwM, for a callee in which an own exception flies and is caught: the grounds' frames bear new notes -/
abbrev PwT (w : World) (mean : ExcName → Option Val) (mg mb : PStr → Option Val) (args oth : Led) (k : Nat) (f : Addr) (vs : List Val) (Ret : Around → Heap → List Env → Heap → Addr → (PStr → Option Val) → Shared → (Val → Shared → Prop) → Prop) (C : Addr) (P : List DictEntry → Prop) : Prop :=
  ∀ (dp un : Nat) (gd : Option (List Code)) (cn : PStr) (cs : Scope) (a : Addr) (ccd : Val) (cl : List (PStr × Addr)) (outer : List Env) (A₀ : Around) (base h₀ : Heap) (L : Addr) (m : PStr → Option Val) (s : Shared) (Q E : Val → Shared → Prop),
    Below A₀ base outer h₀ → Fr h₀ L s.heap m → (hd.heap_39 w.params).In h₀ → News h₀ L s.heap (args ++ oth) → Top hd.view_39 (looseW hd.view_39 []) mean mg mb h₀ → (hd.heap_39 w.params).In base → Top hd.view_39 (looseW hd.view_39 []) mean mg mb base → KtsDicts (outer.filterMap (·.frame)) h₀ → cs.kind = .function → (∀ p ∈ oth, p.1 ∉ args.map (·.1)) → dp + k < recursionLimit → un + 8 * k < cLine →
    Ret A₀ base outer h₀ L m s Q → RaiseX C P (envX cn cs L a ccd cl) outer base h₀ L m s E →
    wpAny (model PySem.Challenge.rw_pf0260_01.row.prog w) (ktrTop dp un gd cn cs L a ccd cl outer) (call (.ref f) vs) Q E s
/-- the ground after a flight -/
structure Turned (w : World) (mean : ExcName → Option Val) (mg mb : PStr → Option Val) (A₀ : Around) (base : Heap) (outer : List Env) (h₀ h₀' : Heap) : Prop where
  turn : KtsTurn (outer.filterMap (·.frame)) h₀ h₀'
  below : Below A₀ base outer h₀'
  inK : (hd.heap_39 w.params).In h₀'
  top : Top hd.view_39 (looseW hd.view_39 []) mean mg mb h₀'
  dicts : KtsDicts (outer.filterMap (·.frame)) h₀'
local macro_rules | `(tactic| k_call_rec "my_turn" $args $oth $z) => `(tactic| (refine wpAny_call ?_; k_dflt (refine' code_turn (args := $args) (oth := $oth) ?k1 ?k2 ?k3 ?k4 ?k5 ?kX ?kT ?kD ?kA ?kF ?kK ?k6 ?k7 ?k8 ?k9 ?kB ?ka ?_ ?c2 ?c3 ?c4 ?c5; (case kX => assumption); (case kT => assumption); (case kD => assumption); (case kA => exact rfl); (case kF => exact rfl); (case kK => assumption); (case k1 => k_asm); (case k2 => k_asm); (case k3 => k_asm); (case k4 => first | assumption | k_asm); (case k5 => k_asm); (case k6 => k_is); (case k7 => k_is); (case k8 => ktr_room); (case k9 => exact BindsTo.of_eq rfl); (case c5 => decide); (case kB => exact locs rfl); (case c2 => exact rfl); (case c3 => exact rfl); (case c4 => exact rfl); (case ka => assumption); k_whole; intro g' L' h' FG' F' N' B' X' T' D' l1 hL1 hL2; (try k_lt l1); (try dsimp only); (try k_lift B'); (try k_fold))))
local macro_rules | `(tactic| walk_at "LeaveT") => `(tactic| (k_dflt (refine' leaveT_ ?k1 ?k2 ?k3 ?_; (case k1 => k_asm); (case k2 => k_asm); (case k3 => first | assumption | exact KtsTurn.refl); k_whole)))
section
set_option maxHeartbeats 8000000 in
theorem next_frame_none {w : World} {mean mg mb} {arr : Array UInt8} {x dx : Addr} {ka kb kc kd : Tok} {oth : Led} (hx : @LT.lt Nat _ dx x) (hk : KBw.bInts arr = []) :
    PwT w mean mg mb (strmObjs w x dx ka kb kc kd arr) oth 30 191 [.ref x] (fun A₀ base outer h₀ L m s Q => ∀ h₀' h' tk', Turned w mean mg mb A₀ base outer h₀ h₀' → Fr h₀' L h' m → News h₀' L h' oth → Q .none { s with heap := h', toks := tk' }) 51 (fun _ => False) := by
  walk_at "fill_k"
  intro dp un gd cn cs a ccd cl outer A₀ base h₀ L m s Q E B F X N T XB TB D hkk hdis hdp hu hret hrs
  k_call_rec "my_turn" (strmObjs w x dx ka kb kc kd arr) oth rfl
  rename_i g0 L0 _ FG0 _ _ B0 X0 T0 D0 hL0 hLL0 hxd
  k_steps
  refine use_pwR (get_varint_short (n := 0) hk (by simp) (by simp)) (by k_asm) (by k_asm) (by k_asm) (by k_asm) (by k_asm) (by exact rfl) (by walk_at "my_sub") (by ktr_room) (by ktr_units) ?_ ?_
  · trivial
  intro G e t dx' es n vs h' tk' FG R _ U
  refine caught_SO0 (g₀ := g0) R.1 FG B0 U XB TB D0 KtsTurn.refl (by k_is) (by kts_isx) ?_
  intro h2 g2 news2 T1 F1 N2 hgot Nl B1 X1 P1 D1
  k_steps
  exact hret _ _ _ ⟨by assumption, by assumption, by assumption, by assumption, by assumption⟩ (by assumption) (shrink (by assumption) (fun p hp => List.mem_append_right _ hp) id)
end

-- part J5
theorem use_pwM {w : World} {mean : ExcName → Option Val} {mg mb : PStr → Option Val} {args oth : Led} {k : Nat} {f : Addr} {vs : List Val} {Ret : Heap → Addr → (PStr → Option Val) → Shared → (Val → Shared → Prop) → Prop} {X' : Addr} {P : List DictEntry → Prop}
    (C : PwM w mean mg mb args oth k f vs Ret X' P)
    {dp un : Nat} {gd : Option (List Code)} {cn : PStr} {cs : Scope} {a : Addr} {ccd : Val} {cl : List (PStr × Addr)} {outer : List Env} {A₀ : Around} {base h₀ : Heap} {L : Addr} {m : PStr → Option Val} {s : Shared} {Q E : Val → Shared → Prop}
    (B : Below A₀ base outer h₀) (F : Fr h₀ L s.heap m) (X : (hd.heap_39 w.params).In h₀) (N : News h₀ L s.heap (args ++ oth)) (T : Top hd.view_39 (looseW hd.view_39 []) mean mg mb h₀) (hk : cs.kind = .function) (ha : ∀ p ∈ oth, p.1 ∉ args.map (·.1)) (hdp : dp + k < recursionLimit) (hu : un + 8 * k < cLine)
    (r : Ret h₀ L m s Q) (x : RaiseX X' P (envX cn cs L a ccd cl) outer base h₀ L m s E) : wpAny (model PySem.Challenge.rw_pf0260_01.row.prog w) (ktrTop dp un gd cn cs L a ccd cl outer) (call (.ref f) vs) Q E s :=
  C dp un gd cn cs a ccd cl outer A₀ base h₀ L m s Q E B F X N T hk ha hdp hu r x
theorem use_pwT {w : World} {mean : ExcName → Option Val} {mg mb : PStr → Option Val} {args oth : Led} {k : Nat} {f : Addr} {vs : List Val} {Ret : Around → Heap → List Env → Heap → Addr → (PStr → Option Val) → Shared → (Val → Shared → Prop) → Prop} {X' : Addr} {P : List DictEntry → Prop}
    (C : PwT w mean mg mb args oth k f vs Ret X' P)
    {dp un : Nat} {gd : Option (List Code)} {cn : PStr} {cs : Scope} {a : Addr} {ccd : Val} {cl : List (PStr × Addr)} {outer : List Env} {A₀ : Around} {base h₀ : Heap} {L : Addr} {m : PStr → Option Val} {s : Shared} {Q E : Val → Shared → Prop}
    (B : Below A₀ base outer h₀) (F : Fr h₀ L s.heap m) (X : (hd.heap_39 w.params).In h₀) (N : News h₀ L s.heap (args ++ oth)) (T : Top hd.view_39 (looseW hd.view_39 []) mean mg mb h₀) (XB : (hd.heap_39 w.params).In base) (TB : Top hd.view_39 (looseW hd.view_39 []) mean mg mb base) (D : KtsDicts (outer.filterMap (·.frame)) h₀) (hk : cs.kind = .function) (ha : ∀ p ∈ oth, p.1 ∉ args.map (·.1)) (hdp : dp + k < recursionLimit) (hu : un + 8 * k < cLine)
    (r : Ret A₀ base outer h₀ L m s Q) (x : RaiseX X' P (envX cn cs L a ccd cl) outer base h₀ L m s E) : wpAny (model PySem.Challenge.rw_pf0260_01.row.prog w) (ktrTop dp un gd cn cs L a ccd cl outer) (call (.ref f) vs) Q E s :=
  C dp un gd cn cs a ccd cl outer A₀ base h₀ L m s Q E B F X N T XB TB D hk ha hdp hu r x
/-- the objects of what take gives back -/
def TakeObjs (ps : List PairC) (q : Addr) (tl : Led) : Prop :=
  ∃ q' tl' n, PayObjs ps q' tl' ∧ (∀ r ∈ tl', @LT.lt Nat _ q r.1) ∧ tl = (q, PySem.W.listOf #[.ref q'] n) :: tl'
section
set_option maxHeartbeats 8000000 in
theorem take_c {w : World} {mean mg mb} {arr : Array UInt8} {ps : List PairC} {x dx : Addr} {ka kb kc kd t1 : Tok} {oth : Led} (hx : @LT.lt Nat _ dx x) (hk : KBw.bInts arr = 4 :: ((octs ps).length : Int) :: octs ps) (hn : ps ≠ []) (hn3 : ps.length ≤ 3) :
    PwT w mean mg mb (strmObjs w x dx ka kb kc kd #[]) oth 40 184 [.ref x, .bytes arr t1] (fun A₀ base outer h₀ L m s Q => okFrom [] ps = true → ∀ h₀' q tl h' tk', TakeObjs ps q tl → (∀ p ∈ oth, ∀ r ∈ tl, p.1 < r.1) → (∀ r ∈ tl, @LT.lt Nat _ L r.1) → Turned w mean mg mb A₀ base outer h₀ h₀' → Fr h₀' L h' m → News h₀' L h' (tl ++ oth) → Q (.ref q) { s with heap := h', toks := tk' }) 51 (fun es => okFrom [] ps = false ∧ ∃ tk, getL "code" es = some (some (.int 265 tk))) := by
  have hz : (4 :: ((octs ps).length : Int) :: octs ps).length ≤ 100000 := by
    have := octs_len ps
    simp only [List.length_cons]; omega
  have he : KBw.bInts (#[] : Array UInt8) = [] := rfl
  have hz1 : (4 :: ((octs ps).length : Int) :: octs ps).length = (octs ps).length + 2 := rfl
  have hz2 := octs_len ps
  walk_at "fill_k"
  intro dp un gd cn cs a ccd cl outer A₀ base h₀ L m s Q E B F X N T XB TB D hkk hdis hdp hu hret hrs
  k_call_rec "my_turn" (strmObjs w x dx ka kb kc kd #[]) oth rfl
  rename_i g0 L0 _ FG0 _ _ B0 X0 T0 D0 hL0 hLL0 hxd
  k_steps
  (try dsimp only)
  rename_i t0 _ hba _ D1 _ lD2 lD _ F1 N1
  obtain ⟨lDx, lDd⟩ := lD
  refine shrink (keep := strmObjs w x dx ka kb kc t0 (#[] ++ arr) ++ [(D1, PySem.W.listOf #[] 0)]) N1 (by walk_at "my_sub2") ?_
  intro Nk
  have hdis2 : ∀ p ∈ [((D1 : Addr), (PySem.W.listOf #[] 0 : Obj))], p.1 ∉ (strmObjs w x dx ka kb kc t0 (#[] ++ arr)).map (·.1) := fun p hp => by
    obtain rfl := List.mem_singleton.mp hp
    simp only [List.map_cons, List.map_nil, List.mem_cons, List.not_mem_nil, or_false, not_or]
    exact ⟨Nat.ne_of_gt lDx, Nat.ne_of_gt lDd⟩
  have hkk2 : KBw.bInts (#[] ++ arr) = 4 :: ((octs ps).length : Int) :: octs ps := hba
  refine use_pwM (next_frame_c (oth := [((D1 : Addr), (PySem.W.listOf #[] 0 : Obj))]) hx hkk2 hn hn3) (by k_asm) (by k_asm) (by k_asm) (by first | assumption | k_asm) (by k_asm) (by exact rfl) (by assumption) (by ktr_room) (by ktr_units) ?_ ?_
  rotate_left
  · exact raise_on hrs (by k_asm) (by k_asm) (fun _ h => h) (fun _ _ => rfl)
  intro hok q tl a' b' c' d' arr' h2 tk2 hs hend hlt hLt F2 N2
  (try dsimp only)
  k_steps
  have hD1 : ∀ r ∈ tl, @LT.lt Nat _ D1 r.1 := fun r hr => hlt _ (.head _) r hr
  have hne : ∀ p ∈ strmObjs w x dx a' b' c' d' arr' ++ tl, p.1 ≠ D1 := fun p hp => by
    rcases List.mem_append.mp hp with hp | hp
    · rcases List.mem_cons.mp hp with rfl | hp
      · exact Nat.ne_of_lt lDx
      · obtain rfl := List.mem_singleton.mp hp
        exact Nat.ne_of_lt lDd
    · exact Nat.ne_of_gt (hD1 p hp)
  refine shrink (keep := (D1, PySem.W.listOf #[] 0) :: (strmObjs w x dx a' b' c' d' arr' ++ tl)) (by assumption) (fun p hp => by
    rcases List.mem_cons.mp hp with rfl | hp
    · exact List.mem_append_right _ (.head _)
    · rcases List.mem_append.mp hp with hp | hp
      · exact List.mem_append_left _ (List.mem_append_right _ hp)
      · exact List.mem_append_left _ (List.mem_append_left _ hp)) ?_
  intro Nk2
  refine append_K (by k_asm) Nk2 (Upd.head hne) ?_
  intro h3 F3 N3
  k_steps
  (try dsimp only)
  refine shrink (keep := strmObjs w x dx a' b' c' d' arr' ++ ((D1, PySem.W.listOf #[.ref q] 1) :: tl)) (by assumption) (fun p hp => by
    rcases List.mem_append.mp hp with hp | hp
    · exact .tail _ (List.mem_append_left _ hp)
    · rcases List.mem_cons.mp hp with rfl | hp
      · exact .head _
      · exact .tail _ (List.mem_append_right _ hp)) ?_
  intro Nk3
  have hdis3 : ∀ p ∈ ((D1, PySem.W.listOf #[.ref q] 1) :: tl : Led), p.1 ∉ (strmObjs w x dx a' b' c' d' arr').map (·.1) := fun p hp => by
    simp only [List.map_cons, List.map_nil, List.mem_cons, List.not_mem_nil, or_false, not_or]
    rcases List.mem_cons.mp hp with rfl | hp
    · exact ⟨Nat.ne_of_gt lDx, Nat.ne_of_gt lDd⟩
    · have h := (hLt p hp).1
      exact ⟨Nat.ne_of_gt h, Nat.ne_of_gt (Nat.lt_trans hx h)⟩
  refine use_pwT (next_frame_none (oth := (D1, PySem.W.listOf #[.ref q] 1) :: tl) hx hend) (by k_asm) (by k_asm) (by k_asm) (by first | assumption | k_asm) (by k_asm) (by assumption) (by assumption) (by assumption) (by exact rfl) (by assumption) (by ktr_room) (by ktr_units) ?_ ?_
  rotate_left
  · intro _ _ _ _ _ _ _ _ _ _ _ hf
    exact hf.elim
  intro g1 h4 tk4 ht F4 N4
  obtain ⟨T1, B1, X1, P1, D4⟩ := ht
  (try dsimp only)
  k_steps
  have hab : ∀ r ∈ ((D1, PySem.W.listOf #[.ref q] 1) :: tl : Led), @LT.lt Nat _ L0 r.1 := fun r hr => by
    rcases List.mem_cons.mp hr with rfl | hr
    · exact lD2
    · exact (hLt r hr).2
  exact hret hok _ D1 ((D1, PySem.W.listOf #[.ref q] 1) :: tl) _ _ ⟨q, tl, _, hs, hD1, rfl⟩ (fun p hp r hr => Nat.lt_trans (hL0 p hp) (hab r hr)) (fun r hr => Nat.lt_trans hLL0 (hab r hr)) ⟨by assumption, by assumption, by assumption, by assumption, by assumption⟩ (by assumption) (by assumption)
end

-- part J6
abbrev RetH (w : World) (mean : ExcName → Option Val) (mg mb : PStr → Option Val) (ps : List PairC) (oth : Led) (A₀ : Around) (base : Heap) (outer : List Env) (h₀ : Heap) (L : Addr) (m : PStr → Option Val) (s : Shared) (Q : Val → Shared → Prop) : Prop :=
  (okFrom [] ps = true → ∀ h₀' q tl h' tk', TakeObjs ps q tl → (∀ p ∈ oth, ∀ r ∈ tl, p.1 < r.1) → (∀ r ∈ tl, @LT.lt Nat _ L r.1) → Turned w mean mg mb A₀ base outer h₀ h₀' → Fr h₀' L h' m → News h₀' L h' (tl ++ oth) → Q (.ref q) { s with heap := h', toks := tk' }) ∧
  (okFrom [] ps = false → ∀ h₀' t h' tk', Turned w mean mg mb A₀ base outer h₀ h₀' → Fr h₀' L h' m → News h₀' L h' oth → Q (.int 265 t) { s with heap := h', toks := tk' })
section
set_option maxHeartbeats 8000000 in
theorem law_heard_c {w : World} {mean mg mb} {arr : Array UInt8} {ps : List PairC} {t1 : Tok} {oth : Led} (hk : KBw.bInts arr = 4 :: ((octs ps).length : Int) :: octs ps) (hn : ps ≠ []) (hn3 : ps.length ≤ 3) :
    PwT w mean mg mb [] oth 60 219 [.bytes arr t1] (RetH w mean mg mb ps oth) 51 (fun _ => False) := by
  walk_at "fill_k"
  intro dp un gd cn cs a ccd cl outer A₀ base h₀ L m s Q E B F X N T XB TB D hkk hdis hdp hu hret hrs
  k_call_rec "my_turn" [] oth rfl
  rename_i g0 L0 _ FG0 _ _ B0 X0 T0 D0 hL0 hLL0 hxd
  k_steps
  refine use_pw stream_make (by k_asm) (by k_asm) (by k_asm) (by k_asm) (by k_asm) (by exact rfl) (by walk_at "my_sub") (by ktr_room) (by ktr_units) ?_
  intro x dx ka kb kc kd h1 tk1 hn1 hx F1 N1
  (try dsimp only)
  k_steps
  refine shrink (keep := strmObjs w x dx ka kb kc kd #[] ++ []) (by assumption) (fun p hp => hp) ?_
  intro Nk
  have hdis2 : ∀ p ∈ ([] : Led), p.1 ∉ (strmObjs w x dx ka kb kc kd #[]).map (·.1) := fun p hp => nomatch hp
  (try dsimp only)
  refine use_pwT (take_c (oth := []) hx hk hn hn3) (by k_asm) (by k_asm) (by k_asm) (by first | assumption | k_asm) (by k_asm) (by assumption) (by assumption) (by assumption) (by exact rfl) (by assumption) (by ktr_room) (by ktr_units) ?_ ?_
  · intro hok g1 q tl h2 tk2 hs hlt hLt ht F2 N2
    obtain ⟨T1, B1, X1, P1, D1⟩ := ht
    (try dsimp only)
    k_steps
    exact hret.1 hok _ q tl _ _ hs (fun p hp r hr => Nat.lt_trans (hL0 p hp) (hLt r hr)) (fun r hr => Nat.lt_trans hLL0 (hLt r hr)) ⟨by assumption, by assumption, by assumption, by assumption, by assumption⟩ (by assumption)
      (shrink (by assumption) (fun p hp => by
        rcases List.mem_append.mp hp with hp | hp
        · exact List.mem_append_left _ (List.mem_append_left _ hp)
        · exact List.mem_append_right _ hp) id)
  · intro G e t dx' es n vs h' tk' FG R hp U
    obtain ⟨hbad, tkc, hcode⟩ := hp
    (try dsimp only)
    refine caught_DB R FG B0 U XB TB D0 (by kts_isx) (by k_is) ?_
    intro h2 g1 oe ws tk2 T1 F2 N2 c1 c2 c3 B1 X1 P1 D1
    k_steps
    have I : InstAt h2 e oe 51 (some (dictOf es n)) := ⟨(N2 _ (.head _)).1, c1, by
      obtain ⟨_, _, dt, _⟩ := oe
      cases c3
      rfl, by
      rw [c2]
      exact (N2 _ (.tail _ (.head _))).1⟩
    refine get_exc (X1.keeps F2.keep) I (by k_is) (by k_is) (by k_is) (findObj_own (by k_is) (attr := none) (by k_is) rfl hcode) rfl ?_
    k_steps
    exact hret.2 hbad _ _ _ _ ⟨by assumption, by assumption, by assumption, by assumption, by assumption⟩ (by assumption) (shrink (by assumption) (fun p hp => List.mem_append_right _ hp) id)
end

-- part W1
theorem codeC_mono {M : Model} {A : Around} {c : Code} {R R' : Result → Shared → Prop} {s : Shared} (h : codeC M A c R s) (hR : ∀ r s, R r s → R' r s) : codeC M A c R' s := fun Γ p e b hc => by
  have := h Γ p e b hc
  exact wpCode_mono hR this
theorem codeC_call_cells {prog : Program} {w : World} {A : Around} {R : Result → Shared → Prop} {s : Shared} {name : PStr} {params : Arguments} {body : List Stmt} {scope : Scope}
    {pm cd doc : Val} {a : Addr} {o : Obj} {args : List Val} {binds : List (PStr × Val)}
    (hroom : A.depth < recursionLimit) (ho : s.heap.get? a = some o) (hdata : o.data = .func (Calls.docDef name params body scope pm cd doc)) (hlim : s.heap.NoLimit) (hcd : s.heap.CodeRec cd name)
    (hbind : bindArgs (Calls.docDef name params body scope pm cd doc) ⟨args, []⟩ = pure binds)
    (hkind : ∀ x ∈ binds, scope.names.lookup x.1 = some .local ∨ (scope.names.lookup x.1 = some .cell ∧ ((cellsFrom (s.heap.objs.size + 1) scope.names []).lookup x.1).isSome = true))
    (hnd : ((cellsFrom 0 scope.names []).map (·.1)).Nodup)
    (h : ∀ h₁ tk cells, Fr s.heap s.heap.objs.size h₁ (bindL (envOfC name scope s.heap.objs.size a cd).kindOf binds fun _ => none) → News s.heap s.heap.objs.size h₁ cells →
      CellsAre (bindC (envOfC name scope s.heap.objs.size a cd).kindOf binds fun _ => none) (cellsFrom (s.heap.objs.size + 1) scope.names []) cells →
      wpC (model prog w) (A.deeper (envOfC name scope s.heap.objs.size a cd)) (execs body (envOfC name scope s.heap.objs.size a cd))
        (fun f s' => R (.ok (.ret (match f with | .ret v => v | _ => .none))) s')
        (fun e s' => wpAny (model prog w) (A.deeper (envOfC name scope s.heap.objs.size a cd)) (leaving (envOfC name scope s.heap.objs.size a cd) e)
          (fun _ s'' => R (.error e) s'') (fun e' s'' => R (.error e') s'') s')
        { s with heap := h₁, toks := tk })
    (hco : scope.isCoroutine = false := by rfl) (hgen : scope.isGenerator = false := by rfl) (hk : scope.kind = .function := by rfl) :
    codeC (model prog w) A (.call (.ref a) ⟨args, []⟩) R s := by
  refine codeC_call_function (fd := Calls.docDef name params body scope pm cd doc) hroom ho hdata hco hgen rfl hcd ?_
  rw [hbind]
  refine wpAny_pure (wpAny_newFunctionEnv_cells hk hkind fun env he s' x => ?_)
  subst he
  refine ⟨hlim.keeps x.toInCall.keep, codeC_func ?_⟩
  obtain ⟨h₁, tk, rfl, _⟩ := x.done
  obtain ⟨cells, NC, Y⟩ := Cl.news (h₀ := s.heap) (Nat.le_refl _) fun n c hm => ⟨x.cell n c (lookup_of_mem_nodup (cellsFrom_names scope.names 0 (s.heap.objs.size + 1) [] [] rfl ▸ hnd) hm), x.above n c hm⟩
  exact h h₁ tk cells ⟨x.toInCall.ns, x.toInCall.keep, x.toInCall.fresh⟩ NC Y
theorem enter_callC {M : Model} {A : Around} {s : Shared} {f : Val} {pos : List Val} {c : ClaimW} {cl : PStr → Option Addr} {mean : ExcName → Option Val} {args : List WData} {s₁ : Shared}
    (h : codeC M A (.call f ⟨pos, []⟩) (GoodWG c cl mean args s₁) s) : wpC M A (PySem.call f pos) (fun v s' => GoodWG c cl mean args s₁ (.ok (.ret v)) s') (fun e s' => GoodWG c cl mean args s₁ (.error e) s') s := by
  refine wpC_call (codeC_mono h fun res s' g => ?_)
  rcases g.1 with ⟨v, _, _, rfl, _⟩ | ⟨e, _, _, rfl, _⟩ <;> exact g

-- part BJ
section
open Builtin
variable {prog : Program} {w : World} {A : Around} {E : Val → Shared → Prop} {s : Shared} {l : Addr} {n : Nat} {b c d : Array UInt8} {t u v x : Tok}
theorem takeb_eq {id : String} : Bytes.takeBufferQuiet? id (.bytes b t) 0 = pure (some (b, none)) := by
  unfold Bytes.takeBufferQuiet? Bytes.takeBuffer?
  rw [KBy.special_eq KBy.look_buffer, KBy.own_buffer]
  have e : ((0 : Int) == Bytes.fullReadOnly) = false := by decide
  rw [e]
  simp only [pure_bind]
  rw [KBy.buffer_eq]
  rfl
theorem slot_bytes_join : Slot "bytes" "join" "bytes.join" :=
  .of (owner := "bytes") (n := "join") (by rw [typeLookup_type, builtinLookup_eq_fast]; kernel_rfl) (by decide +kernel) (by decide +kernel) (by decide +kernel)
    (by first | exact .inl (by decide +kernel) | exact .inr (by decide +kernel)) (by rw [isSubtype_type]; kernel_rfl)
theorem type_bytes_join : typeOf (.builtin "bytes.join") = pure (.type "method_descriptor") := by show builtinType _ = _; rw [builtinType_eq_fast]; kernel_rfl
theorem entry_bytes_join : entryFor table "bytes.join" = some Builtin.«bytes.join» := entryFor_of_tree (by kernel_rfl)
theorem args_bytes_join (a b : Val) : argsOk "bytes.join" ⟨[a, b], []⟩ := by unfold argsOk; kernel_rfl
theorem join_items {Q : Val → Shared → Prop} {vs : Array Val} (ho : s.heap.get? l = some (PySem.W.listOf vs n)) (h : Q (.ref l) s) :
    wpAny (model prog w) A (Bytes.joinItems (.ref l)) Q E s := by
  have hT : s.TypeIs (.ref l) "list" := ⟨_, ho, rfl⟩
  unfold Bytes.joinItems
  refine wpAny_bind (wpAny_typeOf hT ?_)
  refine bm_if_true (by decide) ?_
  exact wpAny_pure h
theorem joinM_1 {Q : PySem.Fin → Shared → Prop} (ho : s.heap.get? l = some (PySem.W.listOf #[.bytes b t] n)) (h : Q (.done (.ret (.bytes b t))) s) :
    wpAny (model prog w) A (Bytes.joinM .bytes ⟨[.bytes #[] x, .ref l], []⟩) Q E s := by
  unfold Bytes.joinM
  refine wpAny_bind (wpAny_of_eq (a := (.bytes #[] x, .ref l)) (by kernel_rfl) ?_)
  dsimp only
  refine bm_if_true (by decide) ?_
  refine wpAny_bind (join_items ho ?_)
  refine wpAny_bind (wpAny_seqItems ho rfl ?_)
  dsimp only
  refine bm_if_true (by decide) ?_
  refine wpAny_bind (wpAny_typeOf (PySem.W.typeIs_bytes _ _ _) ?_)
  refine bm_if_true (by decide) ?_
  refine wpAny_bind (wpAny_rule ?_)
  exact wpAny_pure h
theorem letb : ∀ (l k : List Val) (Q : Unit → Shared → Prop), Q () s → wpAny (model prog w) A (letGo l k) Q E s := by
  intro l
  induction l with
  | nil => intro k Q h; exact wpAny_pure h
  | cons a r ih =>
    intro k Q h
    exact wpAny_bind (wpAny_holding (wpAny_point (ih _ _ h)))
theorem joinlet : ∀ (l : List (Val × Option Val)) (k : List Val) (Q : Unit → Shared → Prop), (∀ p ∈ l, p.2 = none) → Q () s → wpAny (model prog w) A (Bytes.joinLetGo l k) Q E s := by
  intro l
  induction l with
  | nil => intro k Q _ h; exact wpAny_pure h
  | cons a r ih =>
    intro k Q hn h
    obtain ⟨x, o⟩ := a
    obtain rfl : o = none := hn _ (.head _)
    unfold Bytes.joinLetGo
    dsimp only
    exact wpAny_bind (letb _ _ _ (ih _ _ (fun p hp => hn p (.tail _ hp)) h))
theorem joined_2 : Bytes.joined #[] [b, c] = b ++ c := by
  simp [Bytes.joined]
theorem joinM_2 {Q : PySem.Fin → Shared → Prop} (ho : s.heap.get? l = some (PySem.W.listOf #[.bytes b t, .bytes c u] n)) (hz : b.size + c.size ≤ 10000) (h : ∀ t' k, Q (.done (.ret (.bytes (b ++ c) t'))) { s with toks := k }) :
    wpAny (model prog w) A (Bytes.joinM .bytes ⟨[.bytes #[] x, .ref l], []⟩) Q E s := by
  unfold Bytes.joinM
  refine wpAny_bind (wpAny_of_eq (a := (.bytes #[] x, .ref l)) (by kernel_rfl) ?_)
  dsimp only
  refine bm_if_true (by decide) ?_
  refine wpAny_bind (join_items ho ?_)
  refine wpAny_bind (wpAny_seqItems ho rfl ?_)
  dsimp only
  refine bm_if_true (by decide) ?_
  refine wpAny_bind ?_
  rw [Std.Legacy.Range.forIn_eq_forIn_range']
  have es : #[Value.bytes b t, Value.bytes c u].size = 2 := rfl
  rw [es]
  have er : List.range' ([:2] : Std.Legacy.Range).start ([:2] : Std.Legacy.Range).size ([:2] : Std.Legacy.Range).step = [0, 1] := rfl
  rw [er]
  rw [List.forIn_cons]
  refine wpAny_bind ?_
  refine wpAny_bind (wpAny_seqItems ho rfl ?_)
  dsimp only
  refine bm_if_false (by rfl) ?_
  show wpAny _ _ (holding _ (Bytes.takeBufferQuiet? _ (.bytes b t) 0) >>= _) _ _ _
  refine wpAny_bind (wpAny_holding (wpAny_of_eq takeb_eq ?_))
  dsimp only
  refine wpAny_bind (wpAny_seqItems ho rfl ?_)
  dsimp only
  refine bm_if_false (by rfl) ?_
  refine wpAny_pure ?_
  dsimp only
  rw [List.forIn_cons]
  refine wpAny_bind ?_
  refine wpAny_bind (wpAny_seqItems ho rfl ?_)
  dsimp only
  refine bm_if_false (by rfl) ?_
  show wpAny _ _ (holding _ (Bytes.takeBufferQuiet? _ (.bytes c u) 0) >>= _) _ _ _
  refine wpAny_bind (wpAny_holding (wpAny_of_eq takeb_eq ?_))
  dsimp only
  refine wpAny_bind (wpAny_seqItems ho rfl ?_)
  dsimp only
  refine bm_if_false (by rfl) ?_
  refine wpAny_pure ?_
  dsimp only
  rw [List.forIn_nil]
  refine wpAny_pure ?_
  unfold Bytes.payload Bytes.payload?
  refine wpAny_bind (wpAny_bind (wpAny_pure (wpAny_pure ?_)))
  refine bm_if_false ?tl ?_
  case tl =>
    refine KBy.tooLong_not ?_
    show 0 * 1 + b.size + c.size ≤ 16777216
    omega
  refine wpAny_bind ?_
  show wpAny _ _ (mkBytes (Bytes.joined #[] [b, c])) _ _ _
  rw [joined_2]
  refine wpAny_mkBytes ?_ (by rw [sizeLine_eq]; simp only [Array.size_append]; omega)
  refine wpAny_bind (wpAny_holding (wpAny_point ?_))
  refine wpAny_bind (joinlet _ _ _ (by simp) ?_)
  exact wpAny_pure (h _ _)
theorem joined_3 : Bytes.joined #[] [b, c, d] = b ++ c ++ d := by
  simp [Bytes.joined]
theorem joinM_3 {Q : PySem.Fin → Shared → Prop} (ho : s.heap.get? l = some (PySem.W.listOf #[.bytes b t, .bytes c u, .bytes d v] n)) (hz : b.size + c.size + d.size ≤ 10000) (h : ∀ t' k, Q (.done (.ret (.bytes (b ++ c ++ d) t'))) { s with toks := k }) :
    wpAny (model prog w) A (Bytes.joinM .bytes ⟨[.bytes #[] x, .ref l], []⟩) Q E s := by
  unfold Bytes.joinM
  refine wpAny_bind (wpAny_of_eq (a := (.bytes #[] x, .ref l)) (by kernel_rfl) ?_)
  dsimp only
  refine bm_if_true (by decide) ?_
  refine wpAny_bind (join_items ho ?_)
  refine wpAny_bind (wpAny_seqItems ho rfl ?_)
  dsimp only
  refine bm_if_true (by decide) ?_
  refine wpAny_bind ?_
  rw [Std.Legacy.Range.forIn_eq_forIn_range']
  have es : #[Value.bytes b t, Value.bytes c u, Value.bytes d v].size = 3 := rfl
  rw [es]
  have er : List.range' ([:3] : Std.Legacy.Range).start ([:3] : Std.Legacy.Range).size ([:3] : Std.Legacy.Range).step = [0, 1, 2] := rfl
  rw [er]
  rw [List.forIn_cons]
  refine wpAny_bind ?_
  refine wpAny_bind (wpAny_seqItems ho rfl ?_)
  dsimp only
  refine bm_if_false (by rfl) ?_
  show wpAny _ _ (holding _ (Bytes.takeBufferQuiet? _ (.bytes b t) 0) >>= _) _ _ _
  refine wpAny_bind (wpAny_holding (wpAny_of_eq takeb_eq ?_))
  dsimp only
  refine wpAny_bind (wpAny_seqItems ho rfl ?_)
  dsimp only
  refine bm_if_false (by rfl) ?_
  refine wpAny_pure ?_
  dsimp only
  rw [List.forIn_cons]
  refine wpAny_bind ?_
  refine wpAny_bind (wpAny_seqItems ho rfl ?_)
  dsimp only
  refine bm_if_false (by rfl) ?_
  show wpAny _ _ (holding _ (Bytes.takeBufferQuiet? _ (.bytes c u) 0) >>= _) _ _ _
  refine wpAny_bind (wpAny_holding (wpAny_of_eq takeb_eq ?_))
  dsimp only
  refine wpAny_bind (wpAny_seqItems ho rfl ?_)
  dsimp only
  refine bm_if_false (by rfl) ?_
  refine wpAny_pure ?_
  dsimp only
  rw [List.forIn_cons]
  refine wpAny_bind ?_
  refine wpAny_bind (wpAny_seqItems ho rfl ?_)
  dsimp only
  refine bm_if_false (by rfl) ?_
  show wpAny _ _ (holding _ (Bytes.takeBufferQuiet? _ (.bytes d v) 0) >>= _) _ _ _
  refine wpAny_bind (wpAny_holding (wpAny_of_eq takeb_eq ?_))
  dsimp only
  refine wpAny_bind (wpAny_seqItems ho rfl ?_)
  dsimp only
  refine bm_if_false (by rfl) ?_
  refine wpAny_pure ?_
  dsimp only
  rw [List.forIn_nil]
  refine wpAny_pure ?_
  unfold Bytes.payload Bytes.payload?
  refine wpAny_bind (wpAny_bind (wpAny_pure (wpAny_pure ?_)))
  refine bm_if_false ?tl ?_
  case tl =>
    refine KBy.tooLong_not ?_
    show 0 * 2 + b.size + c.size + d.size ≤ 16777216
    omega
  refine wpAny_bind ?_
  show wpAny _ _ (mkBytes (Bytes.joined #[] [b, c, d])) _ _ _
  rw [joined_3]
  refine wpAny_mkBytes ?_ (by rw [sizeLine_eq]; simp only [Array.size_append]; omega)
  refine wpAny_bind (wpAny_holding (wpAny_point ?_))
  refine wpAny_bind (joinlet _ _ _ (by simp) ?_)
  exact wpAny_pure (h _ _)
theorem call_join {Q : Val → Shared → Prop} (h : ∀ A', wpAny (model prog w) A' (Bytes.joinM .bytes ⟨[.bytes #[] x, .ref l], []⟩) (fun fin s' => ∃ v, fin = .done (.ret v) ∧ Q v s') E s) :
    wpAny (model prog w) A (call (.builtin "bytes.join") [.bytes #[] x, .ref l]) Q E s :=
  wpAny_call_entry slot_bytes_join (PySem.W.typeIs_bytes _ _ _) entry_bytes_join (h _) (args_bytes_join _ _)
theorem join_1 {Q : Val → Shared → Prop} (ho : s.heap.get? l = some (PySem.W.listOf #[.bytes b t] n)) (h : ∀ t' k, Q (.bytes b t') { s with toks := k }) :
    wpAny (model prog w) A (call (.builtin "bytes.join") [.bytes #[] x, .ref l]) Q E s := call_join fun _ => joinM_1 ho ⟨_, rfl, h _ _⟩
theorem join_2 {Q : Val → Shared → Prop} (ho : s.heap.get? l = some (PySem.W.listOf #[.bytes b t, .bytes c u] n)) (hz : b.size + c.size ≤ 10000) (h : ∀ t' k, Q (.bytes (b ++ c) t') { s with toks := k }) :
    wpAny (model prog w) A (call (.builtin "bytes.join") [.bytes #[] x, .ref l]) Q E s := call_join fun _ => joinM_2 ho hz fun _ _ => ⟨_, rfl, h _ _⟩
theorem join_3 {Q : Val → Shared → Prop} (ho : s.heap.get? l = some (PySem.W.listOf #[.bytes b t, .bytes c u, .bytes d v] n)) (hz : b.size + c.size + d.size ≤ 10000) (h : ∀ t' k, Q (.bytes (b ++ c ++ d) t') { s with toks := k }) :
    wpAny (model prog w) A (call (.builtin "bytes.join") [.bytes #[] x, .ref l]) Q E s := call_join fun _ => joinM_3 ho hz fun _ _ => ⟨_, rfl, h _ _⟩
theorem join_method {M : Model} {pl : Sem Bool} {Q : Val × List Val → Shared → Prop} (h : Q (.builtin "bytes.join", [.bytes b t]) s) : wpAny M A (getMethod (.bytes b t) "join" pl) Q E s :=
  KBd.method_of (.bytes b t) (typeIs_bytes _ _ _) slot_bytes_join type_bytes_join (fun _ e => nomatch e) h
end

-- part D1
abbrev tupII (x y : Int) (t u : Tok) (k : Nat) : Obj := ⟨.type "tuple", none, .seq #[.int x t, .int y u] k, #[]⟩
def pairsD (qs : List (Int × Int)) : List PyData := qs.map fun q => .tuple [.int q.1, .int q.2]
def dueD (qs : List (Int × Int)) : PyData := .list [.tuple [.str "settings", .list (pairsD qs)]]
def ptsOf (ps : List PairC) : List (Int × Int) := ps.map fun p => (p.x, p.v)
theorem pairsD_eqv : ∀ qs : List (Int × Int), PyData.eqvAll (pairsD qs) (pairsD qs) = true
  | [] => rfl
  | q :: r => by simp [pairsD, PyData.eqvAll, PyData.eqv]; exact pairsD_eqv r
theorem dueD_eqv (qs : List (Int × Int)) : PyData.eqv (dueD qs) (dueD qs) = true := by
  simp [dueD, PyData.eqvAll, PyData.eqv, pairsD_eqv]
theorem dueD_shaped {qs : List (Int × Int)} (hn : qs.length ≤ 3) : SeqAt.shaped (dueD qs) = true := by
  have ok : PyData.strOk "settings" = true := by decide +kernel
  rcases qs with _ | ⟨a, _ | ⟨b, _ | ⟨c, _ | ⟨d, r⟩⟩⟩⟩
  · simp [SeqAt.shaped, dueD, pairsD, PyData.canLay0, PyData.canLayAll0, PyData.depth, PyData.depthAll]; exact ok
  · simp [SeqAt.shaped, dueD, pairsD, PyData.canLay0, PyData.canLayAll0, PyData.depth, PyData.depthAll]; exact ok
  · simp [SeqAt.shaped, dueD, pairsD, PyData.canLay0, PyData.canLayAll0, PyData.depth, PyData.depthAll]; exact ok
  · simp [SeqAt.shaped, dueD, pairsD, PyData.canLay0, PyData.canLayAll0, PyData.depth, PyData.depthAll]; exact ok
  · simp only [List.length_cons] at hn; omega
theorem reads_pair {h : Heap} {a : Addr} {x y : Int} {t u : Tok} {k : Nat} (ho : h.get? a = some (tupII x y t u k)) : Reads h (.ref a) (.tuple [.int x, .int y]) [] :=
  reads_tuple_at (as := []) ho rfl rfl (.cons (.int _ _) (.cons (.int _ _) .nil))
theorem readsAll_pairs {h : Heap} : ∀ (vs : List Val) (qs : List (Int × Int)), vs.length = qs.length → (∀ (i : Nat) (q : Int × Int), qs[i]? = some q → ∃ a t u k, vs[i]? = some (.ref a) ∧ h.get? a = some (tupII q.1 q.2 t u k)) →
    ReadsAll h vs (pairsD qs) []
  | [], [], _, _ => .nil
  | v :: vs, q :: qs, e, hp => by
    obtain ⟨a, t, u, k, hv, ho⟩ := hp 0 q rfl
    obtain rfl : v = .ref a := Option.some.inj hv
    exact .cons (as := []) (reads_pair ho) (readsAll_pairs vs qs (Nat.succ.inj e) fun i q' hq => hp (i + 1) q' hq)
  | [], _ :: _, e, _ => nomatch e
  | _ :: _, [], e, _ => nomatch e
theorem reads_due {h : Heap} {q q' D : Addr} {vs : List Val} {n n' m : Nat} {t : Tok} {qs : List (Int × Int)} (h1 : h.get? q = some (PySem.W.listOf #[.ref q'] n)) (h2 : h.get? q' = some ⟨.type "tuple", none, .seq #[.str "settings" t, .ref D] n', #[]⟩)
    (h3 : h.get? D = some (PySem.W.listOf vs.toArray m)) (hp : ReadsAll h vs (pairsD qs) []) : ∃ as, Reads h (.ref q) (dueD qs) as :=
  ⟨_, reads_list_at h1 rfl rfl (.cons (reads_tuple_at h2 rfl rfl (.cons (.str _ _) (.cons (reads_list_at h3 rfl rfl hp) .nil))) .nil)⟩
theorem take_reads {ps : List PairC} {q : Addr} {tl : Led} {h : Heap} (hT : TakeObjs ps q tl) (N : ∀ p ∈ tl, h.get? p.1 = some p.2) : ∃ as, Reads h (.ref q) (dueD (ptsOf ps)) as := by
  obtain ⟨q', tl', n, ⟨q2, tl2, n2, t2, hS, _, rfl⟩, _, rfl⟩ := hT
  have h1 := N _ (.head _)
  have h2 := N _ (.tail _ (.head _))
  have N3 : ∀ p ∈ tl2, h.get? p.1 = some p.2 := fun p hp => N p (.tail _ (.tail _ hp))
  rcases ps with _ | ⟨p1, _ | ⟨p2, _ | ⟨p3, _ | ⟨p4, r⟩⟩⟩⟩
  · exact False.elim hS
  · obtain ⟨a1, t1, u1, n, m1, _, e⟩ := hS
    subst e
    exact reads_due (vs := [.ref a1]) h1 h2 (N3 _ (.head _)) (.cons (reads_pair (N3 _ (.tail _ (.head _)))) .nil)
  · obtain ⟨a1, t1, u1, a2, t2, u2, n, m1, m2, _, _, e⟩ := hS
    subst e
    exact reads_due (vs := [.ref a1, .ref a2]) h1 h2 (N3 _ (.head _)) (.cons (reads_pair (N3 _ (.tail _ (.head _)))) (.cons (reads_pair (N3 _ (.tail _ (.tail _ (.head _))))) .nil))
  · obtain ⟨a1, t1, u1, a2, t2, u2, a3, t3, u3, n, m1, m2, m3, _, _, _, e⟩ := hS
    subst e
    exact reads_due (vs := [.ref a1, .ref a2, .ref a3]) h1 h2 (N3 _ (.head _)) (.cons (reads_pair (N3 _ (.tail _ (.head _)))) (.cons (reads_pair (N3 _ (.tail _ (.tail _ (.head _))))) (.cons (reads_pair (N3 _ (.tail _ (.tail _ (.tail _ (.head _)))))) .nil)))
  · exact False.elim hS
theorem list_reads {args : Led} {q q2 D : Addr} {items : Array Val} {n k1 k2 : Nat} {t : Tok} {qs : List (Int × Int)} {h : Heap} (hP : PairList args D items n qs) (N : ∀ p ∈ args, h.get? p.1 = some p.2)
    (h1 : h.get? q = some (PySem.W.listOf #[.ref q2] k1)) (h2 : h.get? q2 = some ⟨.type "tuple", none, .seq #[.str "settings" t, .ref D] k2, #[]⟩) : ∃ as, Reads h (.ref q) (dueD qs) as := by
  refine reads_due (vs := items.toList) (m := n) h1 h2 (by have := N _ hP.mem; simpa using this) (readsAll_pairs _ _ (by simpa using hP.size) fun i q hq => ?_)
  obtain ⟨a, t, u, k, hi, hm⟩ := hP.pair i q hq
  exact ⟨a, t, u, k, by simpa using hi, N _ hm⟩
theorem ne_due {prog : Program} {w : World} {A : Around} {E : Val → Shared → Prop} {s : Shared} {Q : Val → Shared → Prop} {v v' : Val} {qs : List (Int × Int)} (hn : qs.length ≤ 3) (ra : ∃ as, Reads s.heap v (dueD qs) as) (rb : ∃ as, Reads s.heap v' (dueD qs) as) (hu : A.units + 64 < cLine)
    (h : Q (.bool false) s) : wpAny (model prog w) A (compareOp .NotEq v v') Q E s := by
  obtain ⟨as, ra⟩ := ra
  obtain ⟨bs, rb⟩ := rb
  refine ne_dataH ra rb (dueD_shaped hn) (dueD_shaped hn) hu ?_
  rw [dueD_eqv]; exact h

-- part LN
section
set_option maxHeartbeats 8000000 in
theorem law_numbers_c {w : World} {mean mg mb} :
    Pw w mean mg mb [] 6 212 [] (RetL (fun q tl => ∃ t1 t2 t3 t4 t5 t6 t7 t8 t9 n, tl = [(q, PySem.W.listOf #[.int 1 t1, .int 6 t2, .int 7 t3, .int 0 t4, .int 33 t5, .int 6 t6, .int 8 t7, .int 5 t8, .int 300 t9] n)])) := by
  walk_at "fill_k"
  intro dp un gd cn cs a ccd cl outer A₀ base h₀ L m news s Q E B F X N T hkk ha hdp hu hret
  walk_at "my_enter"
  rename_i g0 L0 _ FG0 _ _ B0 X0 T0 hL1 hL2 la
  k_steps
  rename_i D' _ _ _ lD _ kF kN _ _
  exact hret _ [(D', _)] _ _ ⟨_, _, _, _, _, _, _, _, _, _, rfl⟩ (fun p hp r hr => by
    obtain rfl := List.mem_singleton.mp hr
    exact Nat.lt_trans (hL1 p hp) lD) (fun r hr => by
    obtain rfl := List.mem_singleton.mp hr
    exact Nat.lt_trans hL2 lD) kF kN
end

-- part R1
section
variable {prog : Program} {w : World} {A : Around} {E : Val → Shared → Prop} {s : Shared} {h₀ : Heap} {L r I : Addr} {m : PStr → Option Val} {news : Led} {x left n : Int} {t u v : Tok}
abbrev rgObj (x left : Int) : Obj := { cls := .type "range_iterator", dict := none, data := .fields #[rawInt x, rawInt left, rawInt 1], slots := #[] }
theorem iterR {Q : Val → Shared → Prop} (F : Fr h₀ L s.heap m) (N : News h₀ L s.heap news) (hr : IsRange s.heap r 0 n 1 t u v) (h0 : Builtin.Range.rangeSize 0 n 1 = n) (h1 : Builtin.Range.small 0 n 1 = true)
    (h : ∀ (I : Addr) h', (∀ p ∈ news, p.1 < I) → @LT.lt Nat _ L I → Fr h₀ L h' m → News h₀ L h' ((I, rgObj 0 n) :: news) → Q (.ref I) { s with heap := h' }) : wpAny (model prog w) A (pyIter (.ref r)) Q E s := by
  refine wpAny_pyIter_range hr h1 ?_
  rw [h0]
  refine h s.heap.objs.size _ (fun p hp => Heap.lt_size (N p hp).1) F.ns.lt (F.keeps fun b o e => Heap.get?_push_of_some _ e) (fun p hp => ?_)
  rcases List.mem_cons.mp hp with rfl | hp
  · refine ⟨Heap.get?_push_size _ rfl, Nat.ne_of_gt F.ns.lt, ?_⟩
    cases q : h₀.get? s.heap.objs.size with
    | none => rfl
    | some o => exact absurd (Heap.lt_size (F.keep _ _ q)) (Nat.lt_irrefl _)
  · exact ⟨Heap.get?_push_of_some _ (N p hp).1, (N p hp).2⟩
theorem nextR {Q : Option Val → Shared → Prop} (F : Fr h₀ L s.heap m) (N : News h₀ L s.heap ((I, rgObj x left) :: news)) (ne : ∀ p ∈ news, p.1 ≠ I) (hl : 0 < left)
    (h : ∀ t tk h', Fr h₀ L h' m → News h₀ L h' ((I, rgObj (x + 1) (left - 1)) :: news) → Q (some (.int x t)) { s with heap := h', toks := tk }) : wpAny (model prog w) A (pyNext (.ref I)) Q E s := by
  have z := N _ (.head _)
  refine wpAny_pyNext_range_item (it := I) z.1 hl fun h' hit sb => ?_
  refine h _ _ h' (F.change sb z.2.1 z.2.2) fun p hp => ?_
  rcases List.mem_cons.mp hp with rfl | hp
  · exact ⟨hit, z.2⟩
  · exact ⟨(sb.2 _ (ne p hp)).trans (N p (.tail _ hp)).1, (N p (.tail _ hp)).2⟩
theorem nextR_end {Q : Option Val → Shared → Prop} (hh : A.handled = none) (F : Fr h₀ L s.heap m) (N : News h₀ L s.heap ((I, rgObj x left) :: news)) (ne : ∀ p ∈ news, p.1 ≠ I) (hl : left ≤ 0)
    (h : ∀ h', Fr h₀ L h' m → News h₀ L h' news → Q none { s with heap := h' }) : wpAny (model prog w) A (pyNext (.ref I)) Q E s := by
  have z := N _ (.head _)
  refine wpAny_pyNext_range_end (it := I) hh z.1 hl fun h' sb => ?_
  refine h h' ⟨F.ns.at' fun o e => sb L o (Ne.symm z.2.1) e, fun b o e => sb b o (fun q => by have := z.2.2; rw [← q, e] at this; cases this) (F.keep b o e), F.above⟩ fun p hp => ?_
  exact ⟨sb _ _ (ne p hp) (N p (.tail _ hp)).1, (N p (.tail _ hp)).2⟩
theorem rg_13 : Builtin.Range.rangeSize 0 13 1 = 13 ∧ Builtin.Range.small 0 13 1 = true := by decide +kernel
theorem rg_1 : Builtin.Range.rangeSize 0 1 1 = 1 ∧ Builtin.Range.small 0 1 1 = true := by decide +kernel
theorem rg_2 : Builtin.Range.rangeSize 0 2 1 = 2 ∧ Builtin.Range.small 0 2 1 = true := by decide +kernel
theorem rg_3 : Builtin.Range.rangeSize 0 3 1 = 3 ∧ Builtin.Range.small 0 3 1 = true := by decide +kernel
end

-- part LP
theorem pair_one {args : Led} {D D1 : Addr} {n k : Nat} {x y : Int} {t u : Tok} (h1 : (D, PySem.W.listOf #[.ref D1] n) ∈ args) (h2 : (D1, (⟨.type "tuple", none, .seq #[.int x t, .int y u] k, #[]⟩ : Obj)) ∈ args) (hx : 0 ≤ x ∧ x < 16384) (hy : 0 ≤ y ∧ y < 16384) : PairList args D #[.ref D1] n [(x, y)] :=
  ⟨h1, rfl, fun i q hq => by
    match i, hq with
    | 0, hq =>
      obtain rfl : (x, y) = q := Option.some.inj hq
      exact ⟨D1, t, u, k, rfl, h2⟩, fun q hq => by
    obtain rfl := List.mem_singleton.mp hq
    exact ⟨hx.1, hx.2, hy.1, hy.2⟩⟩
theorem law_ctx (L fa : Addr) (cd : Val) (sc : Scope) : ∃ dp un, dp + 200 < recursionLimit ∧ un + 2000 < cLine ∧ callerA.deeper (envOfC "law" sc L fa cd) = ktrTop dp un (some []) "law" sc L fa cd (cellsFrom (L + 1) sc.names []) [] :=
  ⟨_, _, by decide +kernel, by decide +kernel, rfl⟩
theorem back_F {g g' h : Heap} {L : Addr} {m : PStr → Option Val} (T : KtsTurn (([] : List Env).filterMap (·.frame)) g g') (F : Fr g' L h m) : Fr g L h m :=
  ⟨F.ns, fun b o e => F.keep b o (T.other b o e (fun h => nomatch h)), by rw [← T.size]; exact F.above⟩
theorem back_N {g g' h : Heap} {L : Addr} {news : Led} (T : KtsTurn (([] : List Env).filterMap (·.frame)) g g') (N : News g' L h news) : News g L h news := fun p hp => ⟨(N p hp).1, (N p hp).2.1, by
  cases q : g.get? p.1 with
  | none => rfl
  | some o =>
    have := T.other _ _ q (fun h => nomatch h)
    rw [(N p hp).2.2] at this
    cases this⟩
theorem heard_law {w : World} {mean mg mb} {arr : Array UInt8} {ps : List PairC} {t1 : Tok} {oth : Led} {dp un : Nat} {gd : Option (List Code)} {cn : PStr} {cs : Scope} {a : Addr} {ccd : Val} {cl : List (PStr × Addr)} {G : Heap} {L : Addr} {m : PStr → Option Val} {s : Shared} {Q E : Val → Shared → Prop}
    (hk : KBw.bInts arr = 4 :: ((octs ps).length : Int) :: octs ps) (hn : ps ≠ []) (hn3 : ps.length ≤ 3) (K1 : Below callerA G [] G) (X : (hd.heap_39 w.params).In G) (T : Top hd.view_39 (looseW hd.view_39 []) mean mg mb G) (F : Fr G L s.heap m) (N : News G L s.heap oth)
    (hc : cs.kind = .function) (hdp : dp + 200 < recursionLimit) (hun : un + 2000 < cLine)
    (ok : okX [] (ps.map (·.x)) = true → ∀ q h' tk', (∃ as, Reads h' (.ref q) (dueD (ptsOf ps)) as) → Fr G L h' m → News G L h' oth → Q (.ref q) { s with heap := h', toks := tk' })
    (bad : okX [] (ps.map (·.x)) = false → ∀ t h' tk', Fr G L h' m → News G L h' oth → Q (.int 265 t) { s with heap := h', toks := tk' }) :
    wpAny (model PySem.Challenge.rw_pf0260_01.row.prog w) (ktrTop dp un gd cn cs L a ccd cl []) (call (.ref 219) [.bytes arr t1]) Q E s := by
  refine use_pwT (law_heard_c (oth := oth) hk hn hn3) K1 F X N T X T (fun b hb => nomatch hb) hc (fun p hp => List.not_mem_nil) (by omega) (by omega) ⟨fun h => ?_, fun h => ?_⟩ (fun _ _ _ _ _ _ _ _ _ _ _ hf => hf.elim)
  · intro g q tl h' tk' hT _ _ ht F' N'
    refine ok (by rw [← okFrom_okX]; exact h) q h' tk' (take_reads hT fun p hp => (N' p (List.mem_append_left _ hp)).1) (back_F ht.turn F') (back_N ht.turn fun p hp => N' p (List.mem_append_right _ hp))
  · intro g t h' tk' ht F' N'
    exact bad (by rw [← okFrom_okX]; exact h) t h' tk' (back_F ht.turn F') (back_N ht.turn N')
/-- law's first loop between two turns -/
def lawSt1 (G : Heap) (L lsc I : Addr) (oc : Obj) (s : Shared) (i : Nat) (s' : Shared) : Prop :=
  ∃ (h : Heap) (tk : Nat) (m : PStr → Option Val) (x l : Int), s' = { s with heap := h, toks := tk } ∧ x = i ∧ l = 13 - i ∧ m "script" = some (.ref lsc) ∧ Fr G L h m ∧ News G L h [(I, rgObj x l), (L + 1, oc)]
theorem lawSt1_next {G h : Heap} {L lsc I : Addr} {oc : Obj} {s : Shared} {i : Nat} {x l : Int} {m : PStr → Option Val} {v w : Val} {tk : Nat} {news : Led} (hx : x = i) (hl : l = 13 - i) (hm : m "script" = some (.ref lsc))
    (F : Fr G L h (fun y : PStr => if y = "due" then some v else if y = "number" then some w else m y)) (N : News G L h news) (h1 : (I, rgObj (x + 1) (l - 1)) ∈ news) (h2 : (L + 1, oc) ∈ news) : lawSt1 G L lsc I oc s (i + 1) { s with heap := h, toks := tk } :=
  ⟨h, tk, _, x + 1, l - 1, rfl, by omega, by omega, by
    show (if _ then _ else if _ then _ else _) = _
    rw [if_neg (by decide), if_neg (by decide)]; exact hm, F, fun p hp => by
    rcases List.mem_cons.mp hp with rfl | hp
    · exact N _ h1
    · obtain rfl := List.mem_singleton.mp hp
      exact N _ h2⟩
theorem map_has {m : PStr → Option Val} {x : PStr} {v : Val} (h : m x = some v) : m = fun y : PStr => if y = x then some v else m y := by
  funext y
  by_cases e : y = x
  · rw [if_pos e, e, h]
  · rw [if_neg e]
/-- law's second loop between two turns -/
def lawSt2 (G : Heap) (L S I : Addr) (items : Array Val) (s : Shared) (i : Nat) (s' : Shared) : Prop :=
  ∃ (h : Heap) (tk : Nat) (m : PStr → Option Val) (o oc : Obj) (cv : Option Val), s' = { s with heap := h, toks := tk } ∧ oc.data = .cell cv ∧ ItAt S i o ∧ Fr G L h m ∧ News G L h [(I, o), (S, PySem.W.listOf items 0), (L + 1, oc)]
def picks (ns : List Int) : List Int := (ns.take 12).map (fun k => (if k < 0 then -k else k).fmod 10007) ++ [(ns.length : Int), 6, 29]
theorem picks_rng {ns : List Int} (h : ns.length ≤ 63) : ∀ x ∈ picks ns, 0 ≤ x ∧ x < 10007 := fun x hx => by
  rcases List.mem_append.mp hx with hx | hx
  · obtain ⟨k, _, rfl⟩ := List.mem_map.mp hx
    rw [Int.fmod_eq_emod_of_nonneg _ (by decide)]
    omega
  · simp only [List.mem_cons, List.not_mem_nil, or_false] at hx
    omega
theorem ints_at : ∀ {vs : List Val} {ks : List Int}, IntsAre vs ks → ∀ {i : Nat}, i < ks.length → ∃ t x, vs.toArray[i]? = some (.int x t) ∧ x ∈ ks
  | _, _, .cons x t r, 0, _ => ⟨t, x, rfl, .head _⟩
  | _, _, .cons x t r, i + 1, h => by
    obtain ⟨t, y, e, hy⟩ := ints_at r (i := i) (Nat.lt_of_succ_lt_succ h)
    exact ⟨t, y, by simpa using e, .tail _ hy⟩
  | _, _, .nil, _, h => absurd h (Nat.not_lt_zero _)
theorem bInts4 (a b c d : UInt8) : KBw.bInts #[a, b, c, d] = [(a.toNat : Int), (b.toNat : Int), (c.toNat : Int), (d.toNat : Int)] := rfl
theorem bInts5 (a b c d e : UInt8) : KBw.bInts #[a, b, c, d, e] = [(a.toNat : Int), (b.toNat : Int), (c.toNat : Int), (d.toNat : Int), (e.toNat : Int)] := rfl

-- part LQ
/-- a post-condition that the walk does not open -/
def Opq (P : Val → Shared → Prop) (v : Val) (s : Shared) : Prop := P v s
section
variable {prog : Program} {w : World} {A : Around} {E : Val → Shared → Prop} {s : Shared} {h₀ : Heap} {L : Addr} {m : PStr → Option Val} {env : Env} {elt : PySem.Expr} {x x₂ : PStr} {scope : Scope} {cl : List (PStr × Addr)} {S : Led → Prop} {P : Nat → Val → Prop} {Fin : List Val → Led → Prop}
theorem opq {t : Sem Val} {Q : Val → Shared → Prop} (h : wpAny (model prog w) A t (Opq Q) E s) : wpAny (model prog w) A t Q E s := h
theorem spliced1 {x : Sem Val} {Q : List Val → Shared → Prop} (h : wpAny (model prog w) A x (fun v s₁ => Q [v] s₁) E s) : wpAny (model prog w) A (spliced [(false, x)]) Q E s := by
  rw [spliced]
  exact wpAny_bind (wpAny_mono h (fun v s₁ h₁ => wpAny_bind (wpAny_pure (wpAny_bind (wpAny_holding (wpAny_pure (wpAny_pure h₁)))))) fun _ _ x => x)
theorem orNil {Q : Bool → Shared → Prop} (h : Q false s) : wpC (model prog w) A (allTrue .Or [] env) Q E s := wpC_pure h
theorem andNil {Q : Bool → Shared → Prop} (h : Q true s) : wpC (model prog w) A (allTrue .And [] env) Q E s := wpC_pure h
theorem ne_int {Q : Val → Shared → Prop} {v : Val} {y : Int} {t : Tok} {qs : List (Int × Int)} (hn : qs.length ≤ 3) (ra : ∃ as, Reads s.heap v (dueD qs) as) (hu : A.units + 64 < cLine) (h : Q (.bool true) s) : wpAny (model prog w) A (compareOp .NotEq v (.int y t)) Q E s := by
  obtain ⟨as, ra⟩ := ra
  refine ne_dataH ra (.int y t) (dueD_shaped hn) (by rfl) hu ?_
  have e : PyData.eqv (dueD qs) (.int y) = false := by simp [dueD, PyData.eqv]
  rw [e]; exact h
theorem compRest_ind {n : Nat} (Inv : Nat → List Val → Led → Prop) (fin : ∀ ys news, Inv n ys news → Fin ys news)
    (step : ∀ i ys news, i < n → Inv i ys news → ∀ v I oI C oC D m₂ h tk (E' : Val → Shared → Prop), P i v → LCg.NsObj oC m₂ → m₂ x = some v → Fr h₀ L h m → News h₀ L h ((I, oI) :: (C, oC) :: (D, LCg.lst ys) :: news) → LCg.Off3 I C D news → ((@Ne Nat I C) ∧ (@Ne Nat I D) ∧ (@Ne Nat C D)) →
      wpAny (model prog w) A (eval elt (compEnvC scope cl C env)) (Opq (LCg.CompEnd h₀ L m { s with heap := h, toks := tk } I oI C oC D (LCg.lst ys) S (fun y news' => Inv (i + 1) (ys ++ [y]) news'))) E' { s with heap := h, toks := tk }) :
    ∀ (k i : Nat) (ys : List Val) (news : Led), i + k = n → Inv i ys news → LCg.CompRest prog w A h₀ L m env elt x scope cl s S P Fin k i ys news
  | 0, i, ys, news, e, h => by
    obtain rfl : i = n := e
    exact fin ys news h
  | k + 1, i, ys, news, e, h => LCg.CompRest.succ fun v I oI C oC D m₂ h' tk E' hP hC hx F N off ne => wpAny_mono (step i ys news (by omega) h v I oI C oC D m₂ h' tk E' hP hC hx F N off ne) (fun y s₂ hq => by
      obtain ⟨h₂, tk₂, news', e2, F2, N2, o2, hS2, inv⟩ := hq
      exact ⟨h₂, tk₂, news', e2, F2, N2, o2, hS2, compRest_ind Inv fin step k (i + 1) _ _ (by omega) inv⟩) fun _ _ z => z
theorem compRestP_ind {n : Nat} (Inv : Nat → List Val → Led → Prop) (fin : ∀ ys news, Inv n ys news → Fin ys news)
    (step : ∀ i ys news, i < n → Inv i ys news → ∀ v, P i v → ∃ (t : Addr) (ot : Obj) (v₁ v₂ : Val) (nt : Nat), v = .ref t ∧ (t, ot) ∈ news ∧ ot.cls = .type "tuple" ∧ ot.data = .seq #[v₁, v₂] nt ∧
      ∀ I oI C oC D m₂ h tk (E' : Val → Shared → Prop), LCg.NsObj oC m₂ → m₂ x = some v₁ → m₂ x₂ = some v₂ → Fr h₀ L h m → News h₀ L h ((I, oI) :: (C, oC) :: (D, LCg.lst ys) :: news) → LCg.Off3 I C D news → ((@Ne Nat I C) ∧ (@Ne Nat I D) ∧ (@Ne Nat C D)) →
      wpAny (model prog w) A (eval elt (compEnvC scope cl C env)) (Opq (LCg.CompEnd h₀ L m { s with heap := h, toks := tk } I oI C oC D (LCg.lst ys) S (fun y news' => Inv (i + 1) (ys ++ [y]) news'))) E' { s with heap := h, toks := tk }) :
    ∀ (k i : Nat) (ys : List Val) (news : Led), i + k = n → Inv i ys news → LCp.CompRestP prog w A h₀ L m env elt x x₂ scope cl s S P Fin k i ys news
  | 0, i, ys, news, e, h => by
    obtain rfl : i = n := e
    exact fin ys news h
  | k + 1, i, ys, news, e, h => LCp.CompRestP.succ fun v hP => by
    obtain ⟨t, ot, v₁, v₂, nt, e1, e2, e3, e4, st⟩ := step i ys news (by omega) h v hP
    refine ⟨t, ot, v₁, v₂, nt, e1, e2, e3, e4, fun I oI C oC D m₂ h' tk E' hC hx hx2 F N off ne => wpAny_mono (st I oI C oC D m₂ h' tk E' hC hx hx2 F N off ne) (fun y s₂ hq => ?_) fun _ _ z => z⟩
    obtain ⟨h₂, tk₂, news', e2, F2, N2, o2, hS2, inv⟩ := hq
    exact ⟨h₂, tk₂, news', e2, F2, N2, o2, hS2, compRestP_ind Inv fin step k (i + 1) _ _ (by omega) inv⟩
end
/-- the pairs made so far -/
structure PairsSo (base : Led) (i : Nat) (ys : List Val) (news : Led) (qs : List (Int × Int)) : Prop where
  len : qs.length = i
  ylen : ys.length = i
  rng : ∀ q ∈ qs, 0 ≤ q.1 ∧ q.1 < 16384 ∧ 0 ≤ q.2 ∧ q.2 < 16384
  at_ : ∀ (j : Nat) (q : Int × Int), qs[j]? = some q → ∃ a t u k, ys[j]? = some (.ref a) ∧ (a, tupII q.1 q.2 t u k) ∈ news
  sub : ∀ p ∈ base, p ∈ news
def PairsInv (base : Led) (i : Nat) (ys : List Val) (news : Led) : Prop := ∃ qs, PairsSo base i ys news qs
theorem PairsSo.snoc {base news news' : Led} {i : Nat} {ys : List Val} {qs : List (Int × Int)} (h : PairsSo base i ys news qs) {a : Addr} {x y : Int} {t u : Tok} {k : Nat} (hs : ∀ p ∈ news, p ∈ news') (hm : (a, tupII x y t u k) ∈ news') (hx : 0 ≤ x ∧ x < 16384) (hy : 0 ≤ y ∧ y < 16384) :
    PairsInv base (i + 1) (ys ++ [.ref a]) news' := by
  refine ⟨qs ++ [(x, y)], by simp [h.len], by simp [h.ylen], fun q hq => ?_, fun j q hq => ?_, fun p hp => hs p (h.sub p hp)⟩
  · rcases List.mem_append.mp hq with hq | hq
    · exact h.rng q hq
    · obtain rfl := List.mem_singleton.mp hq
      exact ⟨hx.1, hx.2, hy.1, hy.2⟩
  · by_cases hj : j < qs.length
    · rw [List.getElem?_append_left hj] at hq
      obtain ⟨a', t', u', k', e1, e2⟩ := h.at_ j q hq
      exact ⟨a', t', u', k', by rw [List.getElem?_append_left (by rw [h.ylen, ← h.len]; exact hj)]; exact e1, hs _ e2⟩
    · have hj2 : j = qs.length := by
        have := (List.getElem?_eq_some_iff.mp hq).1
        simp only [List.length_append, List.length_singleton] at this
        omega
      subst hj2
      rw [List.getElem?_append_right (Nat.le_refl _), Nat.sub_self] at hq
      obtain rfl : (x, y) = q := Option.some.inj hq
      exact ⟨a, t, u, k, by rw [List.getElem?_append_right (by rw [h.ylen, h.len]; exact Nat.le_refl _), h.ylen, h.len, Nat.sub_self]; rfl, hm⟩
theorem PairsSo.list {base news args : Led} {i n : Nat} {ys : List Val} {qs : List (Int × Int)} {D : Addr} (h : PairsSo base i ys news qs) (hs : ∀ p ∈ news, p ∈ args) (hD : (D, PySem.W.listOf ys.toArray n) ∈ args) : PairList args D ys.toArray n qs :=
  ⟨hD, by rw [List.size_toArray, h.ylen, h.len], fun j q hq => by
    obtain ⟨a, t, u, k, e1, e2⟩ := h.at_ j q hq
    exact ⟨a, t, u, k, by simpa using e1, hs _ e2⟩, h.rng⟩
/-- the octets of the pairs made so far -/
def OctsInv (base : Led) (qs : List (Int × Int)) (i : Nat) (ys : List Val) (news : Led) : Prop :=
  (∀ p ∈ base, p ∈ news) ∧ ∃ bs : List (Array UInt8 × Tok), ys = bs.map (fun b => .bytes b.1 b.2) ∧ bs.map (fun b => KBw.bInts b.1) = (qs.take i).map fun q => enc q.1 ++ enc q.2
theorem OctsInv.snoc {base news news' : Led} {qs : List (Int × Int)} {i : Nat} {ys : List Val} {q : Int × Int} {b : Array UInt8} {t : Tok} (h : OctsInv base qs i ys news) (hs : ∀ p ∈ news, p ∈ news') (hq : qs[i]? = some q) (hb : KBw.bInts b = enc q.1 ++ enc q.2) :
    OctsInv base qs (i + 1) (ys ++ [.bytes b t]) news' := by
  obtain ⟨h1, bs, e1, e2⟩ := h
  refine ⟨fun p hp => hs p (h1 p hp), bs ++ [(b, t)], by rw [e1]; simp, ?_⟩
  rw [List.map_append, e2, List.take_add_one, hq]
  simp [hb]
theorem numbers_rng (k : Nat) : 0 ≤ ([1, 6, 7, 0, 33, 6, 8, 5, 300] : List Int).getD k 0 ∧ ([1, 6, 7, 0, 33, 6, 8, 5, 300] : List Int).getD k 0 < 16384 := by
  have all : ∀ x ∈ ([1, 6, 7, 0, 33, 6, 8, 5, 300] : List Int), 0 ≤ x ∧ x < 16384 := by decide
  rw [List.getD_eq_getElem?_getD]
  cases h : ([1, 6, 7, 0, 33, 6, 8, 5, 300] : List Int)[k]? with
  | none => exact ⟨Int.le_refl _, by decide⟩
  | some x => exact all x (List.mem_of_getElem? h)
theorem mod_rng (x : Int) : 0 ≤ x.fmod 1000 ∧ x.fmod 1000 < 16384 := by
  rw [Int.fmod_eq_emod_of_nonneg _ (by decide)]
  omega
theorem bInts_app (a b : Array UInt8) : KBw.bInts (a ++ b) = KBw.bInts a ++ KBw.bInts b := by simp [KBw.bInts]
theorem enc_h3 {qs : List (Int × Int)} (h : qs.length ≤ 3) : enc 4 ++ enc ((encs qs).length : Int) ++ encs qs = 4 :: ((encs qs).length : Int) :: encs qs := by
  have := encs_len qs
  unfold enc
  rw [if_pos (by decide), if_pos (by omega)]
  rfl
theorem lawSt2_next {G h : Heap} {L S I : Addr} {items : Array Val} {s : Shared} {i tk : Nat} {m : PStr → Option Val} {o oc : Obj} {cv : Option Val} {news : Led} (hc : oc.data = .cell cv) (hi : ItAt S i o) (F : Fr G L h m) (N : News G L h news)
    (h1 : (I, o) ∈ news) (h2 : (S, PySem.W.listOf items 0) ∈ news) (h3 : (L + 1, oc) ∈ news) : lawSt2 G L S I items s i { s with heap := h, toks := tk } :=
  ⟨h, tk, m, o, oc, cv, rfl, hc, hi, F, fun p hp => by
    rcases List.mem_cons.mp hp with rfl | hp
    · exact N _ h1
    · rcases List.mem_cons.mp hp with rfl | hp
      · exact N _ h2
      · obtain rfl := List.mem_singleton.mp hp
        exact N _ h3⟩
theorem bInts2 (a b : UInt8) : KBw.bInts #[a, b] = [(a.toNat : Int), (b.toNat : Int)] := rfl
theorem bInts_len (a : Array UInt8) : (KBw.bInts a).length = a.size := by simp [KBw.bInts]
theorem bInts_inj {a b : Array UInt8} (h : KBw.bInts a = KBw.bInts b) : a = b := by
  have h' : a.toList.map (fun c : UInt8 => (c.toNat : Int)) = b.toList.map (fun c : UInt8 => (c.toNat : Int)) := h
  have := (List.map_inj_right (f := fun c : UInt8 => (c.toNat : Int)) (fun x y e => UInt8.toNat_inj.mp (Int.ofNat.inj e))).mp h'
  exact Array.toList_inj.mp this
/-- the pairs as the library's octets would tell them -/
theorem psOf : ∀ (qs : List (Int × Int)), (∀ q ∈ qs, 0 ≤ q.1 ∧ q.1 < 16384 ∧ 0 ≤ q.2 ∧ q.2 < 16384) → ∃ ps : List PairC, ptsOf ps = qs ∧ octs ps = encs qs ∧ ps.map (·.x) = qs.map (·.1) ∧ ps.length = qs.length
  | [], _ => ⟨[], rfl, rfl, rfl, rfl⟩
  | q :: r, h => by
    obtain ⟨ps, e1, e2, e3, e4⟩ := psOf r fun q' hq => h q' (.tail _ hq)
    obtain ⟨r1, r2, r3, r4⟩ := h q (.head _)
    refine ⟨⟨q.1, enc q.1, q.2, enc q.2, cod_enc r1 r2, cod_enc r3 r4⟩ :: ps, ?_, ?_, ?_, ?_⟩
    · show (q.1, q.2) :: ptsOf ps = _
      rw [e1]
    · show (enc q.1 ++ enc q.2) ++ octs ps = (enc q.1 ++ enc q.2) ++ encs r
      rw [e2]
    · simp [e3]
    · simp [e4]
/-- b''.join of the octets of one to three pairs -/
theorem join_octs {prog : Program} {w : World} {A : Around} {E : Val → Shared → Prop} {s : Shared} {l : Addr} {n : Nat} {x : Tok} {Q : Val → Shared → Prop} {qs : List (Int × Int)} {bs : List (Array UInt8 × Tok)} (ho : s.heap.get? l = some (PySem.W.listOf (bs.map (fun b => Value.bytes b.1 b.2)).toArray n))
    (e : bs.map (fun b => KBw.bInts b.1) = qs.map fun q => enc q.1 ++ enc q.2) (hn : 1 ≤ qs.length) (hn3 : qs.length ≤ 3) (h : ∀ b t k, KBw.bInts b = encs qs → Q (.bytes b t) { s with toks := k }) :
    wpAny (model prog w) A (call (.builtin "bytes.join") [.bytes #[] x, .ref l]) Q E s := by
  have hl : bs.length = qs.length := by have := congrArg List.length e; simpa using this
  have sz : ∀ b ∈ bs, b.1.size ≤ 4 := fun b hb => by
    have hm : KBw.bInts b.1 ∈ qs.map fun q => enc q.1 ++ enc q.2 := e ▸ List.mem_map_of_mem hb
    obtain ⟨q, _, hq⟩ := List.mem_map.mp hm
    rw [← bInts_len, ← hq, List.length_append]
    have := enc_len_le q.1
    have := enc_len_le q.2
    omega
  have all : encs qs = (bs.map (fun b => KBw.bInts b.1)).flatten := by rw [e]; simp [encs, List.flatMap]
  rcases bs with _ | ⟨b, _ | ⟨c, _ | ⟨d, _ | ⟨f, r⟩⟩⟩⟩
  · exact absurd hl (by simp; omega)
  · exact join_1 ho fun t k => h _ _ _ (by rw [all]; simp)
  · have z1 := sz b (by simp)
    have z2 := sz c (by simp)
    exact join_2 ho (by omega) fun t k => h _ _ _ (by rw [all, bInts_app]; simp)
  · have z1 := sz b (by simp)
    have z2 := sz c (by simp)
    have z3 := sz d (by simp)
    exact join_3 ho (by omega) fun t k => h _ _ _ (by rw [all, bInts_app, bInts_app]; simp)
  · exact absurd hl (by simp; omega)

-- part L6
set_option maxHeartbeats 8000000 in
theorem law_holds : PySem.Challenge.rw_pf0260_01.Holds := hd.2 (by
  walk_at "fill_k"
  show _ ∧ _
  refine ⟨hd_left, ?_⟩
  show WalkC hd.view_39 _ (XL hd.view_39 []) (kHook hd.heap_39 _ _).says _ _ _
  intro w s₀ s₁ mg mb G Y fa o pm cd doc dV kV ho hd' hcd hD hmg hg args vals as hpre hlay hrd hwl hlo
  have KX := kIn_of Y
  refine Ground.open G ?_
  intro T B D TE TW
  (try (refine guard_noD D (by decide +kernel) ?_; clear D))
  (try (obtain ⟨_, _, he, B0⟩ := based_of_top T rfl hmg ho hd'; have he' : cd = _ := he; subst he'; clear he))
  wrow_args hpre hlay hrd hwl hlo
  refine enter_callC ?_
  have K0 := below_caller (Top.heap T)
  have he := Dflts.none hD rfl; subst he; have he := Dflts.noKw hD; subst he
  refine codeC_call_cells (by decide) ho (fd_plain hd') (Top.nolimit T) hcd rfl (kinds_of (by kinds_ok)) (by decide) fun h₁ tk₁ cells F N0 X0 => ?_
  cells_open X0
  rename_i cdA cdP ns _ _ _ _ _ _ _ lsc vsc _ hLs _ _ _ hI _ hle _ oc hoc
  have hlen : ns.length ≤ 63 := by omega
  have hend : ∀ (h : Heap) (tk : Nat) (m : PStr → Option Val), Fr s₁.heap s₁.heap.objs.size h m → GoodWG PySem.Challenge.rw_pf0260_01.row.claim (classAt s₀.heap) (ExcName.means s₀.heap) [ofPy (PyData.list (ns.map PyData.int))] s₁ (.ok (.ret (.bool true))) { s₁ with heap := h, toks := tk } := by
    clear F N0 X0 hoc hle
    intro h tk m F
    refine goodWG_reads (d := .bool true) (as := []) B0 F ?a1 ?a2 ?a3 ?a4 ?a5 ?a6
    case a1 => row_bare
    case a2 => exact raisesW_false (by wrow_none_raised)
    case a3 => exact .bool _
    case a4 => first | exact unshared_nil | exact fun h => absurd h (by decide) | exact unshared_oneG (by assumption) (by assumption)
    case a5 => exact postW_of (by wrow_shape) (by wtm_val) (by str_meet; first | done | w_fin)
    case a6 => row_os
  clear hmg hD hd' hcd B0 X0 hle ho G Y TW TE
  have hoc' : oc.data = .cell none := hoc
  clear hoc
  obtain ⟨m0, hm0, F2⟩ : ∃ m : PStr → Option Val, m "script" = some (.ref lsc) ∧ Fr s₁.heap s₁.heap.objs.size h₁ m := ⟨_, by exact rfl, F⟩
  clear F
  have KB : KtsDicts (([] : List Env).filterMap (·.frame)) s₁.heap := fun b hb => nomatch hb
  have K1 : Below callerA s₁.heap [] s₁.heap := K0
  clear K0
  generalize hL : s₁.heap.objs.size = L at *
  dsimp only
  obtain ⟨dp, un, hdp, hun, hA⟩ := law_ctx L fa (.ref cdA) _
  rw [hA]
  clear hA
  refine execsC_cons (of_any ?_)
  refine wpAny_For ?_
  k_steps
  rename_i tu uu vu hrg F3 N3 _
  refine iterR F3 N3 hrg rg_13.1 rg_13.2 ?_
  intro I h1 lI lLI F4 N4
  have lIc : ∀ p ∈ [(L + 1, oc)], p.1 ≠ I := fun p hp => Nat.ne_of_lt (lI p hp)
  refine loopA (n := 13) (lawSt1 s₁.heap L lsc I oc s₁) ?turn ?fin 13 0 _ (Nat.zero_add _) ⟨h1, _, m0, 0, 13, rfl, rfl, rfl, hm0, F4, N4⟩
  case fin =>
    rintro s' ⟨h, tk, m, x, l, rfl, hx, hl, hm, F5, N5⟩
    refine nextR_end rfl F5 N5 lIc (by omega) ?_
    intro h6 F6 N6
    refine ⟨rfl, ?_⟩
    dsimp only
    rw [map_has hm] at F6
    refine execsC_cons (of_any ?_)
    k_steps
    rename_i S ws _ hI5 lS _ F9 N9
    have lS0 : @LT.lt Nat _ (L + 1) S := lS.2.2.2
    clear lS
    refine execsC_cons (ForC ?_)
    k_steps
    have N10 : News s₁.heap L _ [(S, PySem.W.listOf ws.toArray 0), (L + 1, oc)] := shrink N9 (by walk_at "my_sub2") id
    refine iterK (by assumption) N10 (.head _) ?_
    intro I2 o2 h11 hi2 lI2 lLI2 F11 N11
    have nSI : S ≠ I2 := Nat.ne_of_lt (lI2 _ (.head _))
    have ncI : L + 1 ≠ I2 := Nat.ne_of_lt (lI2 _ (.tail _ (.head _)))
    have hwl : (ws.toArray).size = (picks ns).length := by rw [List.size_toArray]; exact hI5.length
    refine loopC (n := (picks ns).length) (lawSt2 s₁.heap L S I2 ws.toArray s₁) ?turn2 ?fin2 (picks ns).length 0 _ (Nat.zero_add _) ⟨h11, _, _, o2, oc, none, rfl, hoc', hi2, F11, N11⟩
    case fin2 =>
      rintro s' ⟨h, tk, m, o, oc, cv, rfl, hc, hi, F12, N12⟩
      refine nextK_end rfl F12 N12 (fun p hp => by
        rcases List.mem_cons.mp hp with rfl | hp
        · exact nSI
        · obtain rfl := List.mem_singleton.mp hp
          exact ncI) hi (.head _) (by rw [Array.getElem?_eq_none]; rw [hwl]; exact Nat.le_refl _) ?_
      intro h13 F13 N13
      refine ⟨rfl, ?_⟩
      dsimp only
      refine execsC_cons (of_any ?_)
      k_steps
      dsimp only
      exact hend _ _ _ (by assumption)
    case turn2 =>
      rintro i s' ⟨h, tk, m, o, oc, cv, rfl, hc, hi, F12, N12⟩ hlt
      obtain ⟨tp, pk, hitem, hpk⟩ := ints_at hI5 hlt
      obtain ⟨hp0, hp1⟩ := picks_rng hlen pk hpk
      refine nextK F12 N12 (fun p hp => by
        rcases List.mem_cons.mp hp with rfl | hp
        · exact nSI
        · obtain rfl := List.mem_singleton.mp hp
          exact ncI) hi (.head _) hitem ?_
      intro o' h13 hi' F13 N13
      dsimp only
      refine letGo_listiter ⟨o', (N13 _ (.head _)).1, hi'.1, hi'.2⟩ ?_
      have lLc : @LT.lt Nat _ L (L + 1) := Nat.lt_succ_self L
      have lSI : @LT.lt Nat _ S I2 := lI2 _ (.head _)
      k_steps
      rename_i hcc ocn F14 N14 hcn
      clear hc
      refine execsC_cons (of_any ?_)
      refine LCg.Assign_ListComp_U (F₀ := F14) (by rfl) (by with_unfolding_all rfl) (by with_unfolding_all rfl) (by decide) (by rfl) (by decide) (by rfl) (by rfl) (by rfl) ?_
      refine opq ?_
      k_steps
      rename_i hr1 tk1 tu1 uu1 vu1 hrg1 F15 N15 hkp1
      have hr3 : pk.fmod 3 = 0 ∨ pk.fmod 3 = 1 ∨ pk.fmod 3 = 2 := by rw [Int.fmod_eq_emod_of_nonneg _ (by decide)]; omega
      obtain ⟨nn, hn1, hn3, hsm, hnn⟩ : ∃ nn : Nat, 1 ≤ nn ∧ nn ≤ 3 ∧ Builtin.Range.small 0 (1 + pk.fmod 3) 1 = true ∧ Builtin.Range.rangeSize 0 (1 + pk.fmod 3) 1 = (nn : Int) := by
        rcases hr3 with e | e | e <;> rw [e]
        · exact ⟨1, by omega, by omega, rg_1.2, rg_1.1⟩
        · exact ⟨2, by omega, by omega, rg_2.2, rg_2.1⟩
        · exact ⟨3, by omega, by omega, rg_3.2, rg_3.1⟩
      clear hr3 hkp1
      refine LCg.CompSrc.range (by rfl) F15 N15 hrg1 hsm hnn (by rw [sizeLine_eq]; omega) ?_
      intro g1
      refine compRest_ind (n := nn) (PairsInv [(I2, o'), (S, PySem.W.listOf ws.toArray 0), (L + 1, ocn)]) ?finp ?stp nn 0 [] _ (Nat.zero_add _) ⟨[], rfl, rfl, by simp, by simp, fun p hp => hp⟩
      case stp =>
        rintro j ys news hj ⟨qs, hS⟩ v I3 oI C3 oC D3 m2 h3 tk3 E' ⟨tj, rfl⟩ hC hx F16 N16 off ne
        have hcm : (L + 1, ocn) ∈ news := hS.sub _ (.tail _ (.tail _ (.head _)))
        have N17 : News s₁.heap L h3 ((I3, oI) :: (C3, oC) :: (D3, LCg.lst ys) :: (L + 1, ocn) :: news) := shrink N16 (fun p hp => by
          rcases List.mem_cons.mp hp with rfl | hp
          · exact .head _
          · rcases List.mem_cons.mp hp with rfl | hp
            · exact .tail _ (.head _)
            · rcases List.mem_cons.mp hp with rfl | hp
              · exact .tail _ (.tail _ (.head _))
              · rcases List.mem_cons.mp hp with rfl | hp
                · exact .tail _ (.tail _ (.tail _ hcm))
                · exact .tail _ (.tail _ (.tail _ hp))) id
        clear N16
        k_steps
        dsimp only [List.nil_append]
        refine use_pw law_numbers_c (by k_asm) (by k_asm) (by k_asm) (by k_asm) (by k_asm) (by exact rfl) (by walk_at "my_sub") (by ktr_room) (by ktr_units) ?_
        rintro q9 tl9 h18 tk18 ⟨t1, t2, t3, t4, t5, t6, t7, t8, t9, n9, rfl⟩ lt9 lL9 F18 N18
        dsimp only [List.cons_append, List.nil_append] at N18 ⊢
        k_steps
        rename_i D19 h19 F19 N19 lD19 lD19b
        obtain ⟨_, lI, lC, lD, _⟩ := lD19b
        show LCg.CompEnd _ _ _ _ _ _ _ _ _ _ _ _ _ _
        exact LCg.CompEnd.intro F19 N19 ((D19, _) :: news) (fun p hp => by
          rcases List.mem_cons.mp hp with rfl | hp
          · exact .tail _ (.tail _ (.head _))
          · rcases List.mem_cons.mp hp with rfl | hp
            · exact .tail _ (.tail _ (.tail _ (.head _)))
            · rcases List.mem_cons.mp hp with rfl | hp
              · exact .tail _ (.tail _ (.tail _ (.tail _ (.head _))))
              · rcases List.mem_cons.mp hp with rfl | hp
                · exact .head _
                · exact .tail _ (.tail _ (.tail _ (.tail _ (.tail _ (.tail _ hp))))))
          ⟨⟨Nat.ne_of_gt lI, Nat.ne_of_gt lC, Nat.ne_of_gt lD⟩, off⟩ trivial (hS.snoc (fun p hp => .tail _ hp) (.head _) (numbers_rng _) (mod_rng _))
      case finp =>
        intro ys news hinv D4 h4 tk4 F18 N18 off4
        dsimp only
        obtain ⟨qs, hS⟩ := hinv
        have hP : PairList ((D4, PySem.W.listOf ys.toArray ys.length) :: news) D4 ys.toArray ys.length qs := hS.list (fun p hp => .tail _ hp) (.head _)
        have hql : qs.length = nn := hS.len
        have N19 : News s₁.heap L h4 ((I2, o') :: (S, PySem.W.listOf ws.toArray 0) :: (L + 1, ocn) :: (D4, PySem.W.listOf ys.toArray ys.length) :: news) := fun p hp => by
          rcases List.mem_cons.mp hp with rfl | hp
          · exact N18 _ (.tail _ (hS.sub _ (.head _)))
          · rcases List.mem_cons.mp hp with rfl | hp
            · exact N18 _ (.tail _ (hS.sub _ (.tail _ (.head _))))
            · rcases List.mem_cons.mp hp with rfl | hp
              · exact N18 _ (.tail _ (hS.sub _ (.tail _ (.tail _ (.head _)))))
              · exact N18 _ hp
        clear N18
        refine execsC_cons (of_any ?_)
        k_steps
        refine join_method ?_
        dsimp only
        refine callWith_builtin (by rfl) (evalArgs_plain (x := eval _ _) (rest := []) (spliced1 ?_))
        refine LCp.ListComp_P (F₀ := F18) (by with_unfolding_all rfl) (by decide) (by rfl) (by decide) (by rfl) (by rfl) (by decide) ?_
        refine opq ?_
        k_steps
        show LCp.SrcLP _ _ _ _ _ _ _ _ _ _ _ _ _ _ _
        refine LCp.SrcLP.ledger (by rfl) F18 N19 (.tail _ (.tail _ (.tail _ (.head _)))) (by rw [List.size_toArray, hS.ylen, sizeLine_eq]; omega) ?_
        intro g2
        refine compRestP_ind (n := ys.toArray.size) (OctsInv ((I2, o') :: (S, PySem.W.listOf ws.toArray 0) :: (L + 1, ocn) :: (D4, PySem.W.listOf ys.toArray ys.length) :: news) qs) ?fino ?sto ys.toArray.size 0 [] _ (Nat.zero_add _) ⟨fun p hp => hp, [], rfl, by simp⟩
        case sto =>
          intro j2 zs news2 hj2 hI2 v hv
          rw [List.size_toArray, hS.ylen, ← hql] at hj2
          obtain ⟨q, hq⟩ : ∃ q, qs[j2]? = some q := ⟨_, List.getElem?_eq_getElem hj2⟩
          obtain ⟨at9, t9, u9, k9, e9, m9⟩ := hS.at_ j2 q hq
          obtain rfl : Value.ref at9 = v := by
            have hv' : ys.toArray[j2]? = some v := hv
            rw [List.getElem?_toArray, e9] at hv'
            exact Option.some.inj hv'
          obtain ⟨r1, r2, r3, r4⟩ := hS.rng q (List.mem_of_getElem? hq)
          refine ⟨at9, _, _, _, k9, rfl, hI2.1 _ (.tail _ (.tail _ (.tail _ (.tail _ m9)))), rfl, rfl, ?_⟩
          intro I4 oI4 C4 oC4 D5 m4 h20 tk20 E2 hC4 hx4 hx5 F20 N20 off20 ne20
          have z1 := enc_len_le q.1
          have z2 := enc_len_le q.2
          k_steps
          refine use_pw (law_octets_e r1 r2) (by k_asm) (by k_asm) (by k_asm) (by k_asm) (by k_asm) (by exact rfl) (by walk_at "my_sub") (by ktr_room) (by ktr_units) ?_
          intro t21 b21 h21 tk21 F21 N21 e21
          (try dsimp only)
          k_steps
          refine use_pw (law_octets_e r3 r4) (by k_asm) (by k_asm) (by k_asm) (by k_asm) (by k_asm) (by exact rfl) (by walk_at "my_sub") (by ktr_room) (by ktr_units) ?_
          intro t22 b22 h22 tk22 F22 N22 e22
          (try dsimp only)
          k_steps
          show LCg.CompEnd _ _ _ _ _ _ _ _ _ _ _ _ _ _
          exact LCg.CompEnd.intro F22 N22 news2 (fun p hp => hp) off20 (.inr ⟨_, hI2.1 _ (.tail _ (.tail _ (.tail _ (.head _)))), rfl, _, rfl⟩) (hI2.snoc (fun p hp => hp) hq (by rw [bInts_app, e21, e22]))
        case fino =>
          intro zs news2 hO D6 h23 tk23 F23 N23 off23
          obtain ⟨hsub, bs, rfl, ebs⟩ := hO
          rw [List.size_toArray, hS.ylen, ← hql, List.take_length] at ebs
          dsimp only [List.cons_append, List.nil_append]
          refine join_octs (bs := bs) (qs := qs) (n := (bs.map (fun b => Value.bytes b.1 b.2)).length) (N23 _ (.head _)).1 ebs (by omega) (by omega) ?_
          intro b24 t24 tk24 e24
          dsimp only
          have F24 := F23
          have N24 : News s₁.heap L h23 ((I2, o') :: (S, PySem.W.listOf ws.toArray 0) :: (L + 1, ocn) :: (D4, PySem.W.listOf ys.toArray ys.length) :: news) := fun p hp => N23 p (.tail _ (hsub p hp))
          clear F23 N23
          k_steps
          rename_i h25 F25 N25
          have hz24 : b24.size ≤ 12 := by
            have := encs_len qs
            rw [← bInts_len, e24]
            omega
          refine execsC_cons (of_any ?_)
          k_steps
          rename_i F26 N26 g1 g2 _
          refine KBy.add_bytes (by show 2 + b24.size ≤ 16777216; omega) ?_
          intro t26 tk26
          have hsz : (b24.size : Int) = ((encs qs).length : Int) := by rw [← e24, bInts_len]
          have e26 : KBw.bInts (#[(Int.toNat 4).toUInt8, (↑b24.size : Int).toNat.toUInt8] ++ b24) = 4 :: ((encs qs).length : Int) :: encs qs := by
            rw [bInts_app, bInts2, g1, g2, e24, hsz]
            rfl
          generalize hb26 : #[(Int.toNat 4).toUInt8, (↑b24.size : Int).toNat.toUInt8] ++ b24 = b26 at *
          obtain ⟨ps, p1, p2, p3, p4⟩ := psOf qs hS.rng
          have hk26 : KBw.bInts b26 = 4 :: ((octs ps).length : Int) :: octs ps := by rw [e26, p2]
          have N27 : News s₁.heap L _ ((I2, o') :: (S, PySem.W.listOf ws.toArray 0) :: (L + 1, ocn) :: (D4, PySem.W.listOf ys.toArray ys.length) :: news) := shrink N26 (fun p hp => .tail _ hp) id
          clear N26
          dsimp only
          k_steps
          refine use_pw (law_due_c hP (by omega)) (by k_asm) (by k_asm) (by k_asm) (by k_asm) (by k_asm) (by exact rfl) (fun p hp => .tail _ (.tail _ (.tail _ hp))) (by ktr_room) (by ktr_units) ?_
          refine ⟨fun hok q q2 t28 k1 k2 h28 tk28 lq2 lq2q F28 N28 => ?_, fun hok t28 h28 tk28 F28 N28 => ?_⟩
          · (try dsimp only)
            k_steps
            refine execsC_cons (IfC (BoolOpC (OrC (of_any ?_))))
            k_steps
            rename_i F29 N29
            refine heard_law hk26 (by intro e; rw [e] at p4; simp at p4; omega) (by omega) (by assumption) (by assumption) (by assumption) F29 N29 rfl hdp hun ?_ (fun hb => by
              rw [p3, hok] at hb
              cases hb)
            intro _ qh h30 tk30 hR F30 N30
            (try dsimp only)
            k_steps
            rw [p1] at hR
            have hsb : ∀ p ∈ (D4, PySem.W.listOf ys.toArray ys.length) :: news, _ := fun p hp => (N30 p (.tail _ (.tail _ (.tail _ (.tail _ (.tail _ (.tail _ hp))))))).1
            refine ne_due (qs := qs) (by omega) hR (list_reads hP hsb (N30 (q, PySem.W.listOf #[.ref q2] k1) (by k_mem)).1 (N30 (q2, ⟨.type "tuple", none, .seq #[.str "settings" t28, .ref D4] k2, #[]⟩) (by k_mem)).1) (by show un + 64 < cLine; omega) ?_
            k_steps
            refine OrC (BoolOpC (AndC (of_any ?_)))
            k_steps
            refine ne_int (qs := qs) (by omega) (list_reads hP hsb (N30 (q, PySem.W.listOf #[.ref q2] k1) (by k_mem)).1 (N30 (q2, ⟨.type "tuple", none, .seq #[.str "settings" t28, .ref D4] k2, #[]⟩) (by k_mem)).1) (by show un + 64 < cLine; omega) ?_
            k_steps
            refine AndC (CompareC (CallC ?_))
            k_steps
            refine callWithC (K := hd.heap_39 w.params) (by k_is) (of_any ?_)
            k_steps
            (try dsimp only)
            (try simp only [List.nil_append])
            refine use_pwC (put_h3_c hP (by omega)) (by k_asm) (by k_asm) (by k_asm) (by k_asm) (by k_asm) (by exact rfl) (fun p hp => by
              rcases List.mem_cons.mp hp with rfl | hp
              · exact .tail _ (.tail _ (.head _))
              · exact .tail _ (.tail _ (.tail _ (.tail _ (.tail _ (.tail _ hp)))))) (by ktr_room) (by ktr_units) ?_
            intro t33 b33 h33 tk33 F33 N33 e33
            obtain rfl : b33 = b26 := bInts_inj (by rw [e33, enc_h3 (by omega), e26])
            k_steps
            · rename_i hne
              exact absurd hne (by simp)
            refine orNil ?_
            rw [if_neg Bool.false_ne_true]
            refine of_any (wpAny_execs_nil ?_)
            dsimp only
            refine of_any (wpAny_execs_nil ?_)
            exact lawSt2_next hcn hi' F33 N33 (by k_mem) (by k_mem) (by k_mem)
          · (try dsimp only)
            k_steps
            refine execsC_cons (IfC (BoolOpC (OrC (of_any ?_))))
            k_steps
            rename_i F29 N29
            refine heard_law hk26 (by intro e; rw [e] at p4; simp at p4; omega) (by omega) (by assumption) (by assumption) (by assumption) F29 N29 rfl hdp hun (fun hb => by
              rw [p3, hok] at hb
              cases hb) ?_
            intro _ t30 h30 tk30 F30 N30
            (try dsimp only)
            k_steps
            refine OrC (BoolOpC (AndC (of_any ?_)))
            k_steps
            refine orNil ?_
            rw [if_neg Bool.false_ne_true]
            refine of_any (wpAny_execs_nil ?_)
            dsimp only
            refine of_any (wpAny_execs_nil ?_)
            exact lawSt2_next hcn hi' F30 N30 (by k_mem) (by k_mem) (by k_mem)

  case turn =>
    rintro i s' ⟨h, tk, m, x, l, rfl, hx, hl, hm, F5, N5⟩ hlt
    refine nextR F5 N5 lIc (by omega) ?_
    intro t6 tk6 h6 F6 N6
    dsimp only
    refine wpAny_of_eq (a := ()) (by rfl) ?_
    have lLc : @LT.lt Nat _ L (L + 1) := Nat.lt_succ_self L
    have lcI : @LT.lt Nat _ (L + 1) I := lI _ (.head _)
    k_steps
    rename_i _ D1 _ lLD1 lD1 D2 _ F7 N7 lLD2 lD2
    have hx0 : 0 ≤ x ∧ x < 16384 := by omega
    have hP : PairList [(D2, PySem.W.listOf #[.ref D1] 0), (D1, ⟨.type "tuple", none, .seq #[.int x t6, .int 7 tk] 0, #[]⟩)] D2 #[.ref D1] 0 [(x, 7)] := pair_one (.head _) (.tail _ (.head _)) hx0 (by omega)
    have c1 : Cod x [x] := .inl ⟨rfl, by omega, by omega⟩
    have c2 : Cod x [64, x] := .inr ⟨0, x, rfl, by omega, by omega, by omega, by omega, by omega⟩
    have c7 : Cod 7 [7] := .inl ⟨rfl, by omega, by omega⟩
    refine use_pw (law_due_c hP (by simp)) (by k_asm) (by k_asm) (by k_asm) (by k_asm) (by k_asm) (by exact rfl) (by walk_at "my_sub2") (by ktr_room) (by ktr_units) ?_
    refine ⟨?ok, ?bad⟩
    case ok =>
      intro hok q q2 t8 k1 k2 h7 tk7 lq2 lq2q F8 N8
      (try dsimp only)
      k_steps
      rename_i F9 N9 b1 b2 b3 b4 _
      have hk4 : KBw.bInts #[(Int.toNat 4).toUInt8, (Int.toNat 2).toUInt8, x.toNat.toUInt8, (Int.toNat 7).toUInt8] = 4 :: ((octs [⟨x, _, 7, _, c1, c7⟩]).length : Int) :: octs [⟨x, _, 7, _, c1, c7⟩] := by
        rw [bInts4, b1, b2, b3, b4]
        rfl
      refine heard_law hk4 (by simp) (by simp) (by assumption) (by assumption) (by assumption) F9 N9 rfl hdp hun ?ok4 ?bad4
      case bad4 =>
        intro hb
        rw [show okX [] (List.map (fun p : PairC => p.x) [⟨x, _, 7, _, c1, c7⟩]) = true from hok] at hb
        cases hb
      intro _ qh h8 tk8 hR F10 N10
      (try dsimp only)
      k_steps
      refine ne_due (qs := [(x, 7)]) (by simp) hR (list_reads hP (fun p hp => (N10 p ((by walk_at "my_sub2" : ∀ p ∈ [(D2, PySem.W.listOf #[.ref D1] 0), (D1, _)], p ∈ _) p hp)).1) (N10 (q, PySem.W.listOf #[.ref q2] k1) (by k_mem)).1 (N10 (q2, ⟨.type "tuple", none, .seq #[.str "settings" t8, .ref D2] k2, #[]⟩) (by k_mem)).1) (by show un + 64 < cLine; omega) ?_
      k_steps
      rename_i F9 N9 b1 b2 b3 b4 b5 _
      have hk5 : KBw.bInts #[(Int.toNat 4).toUInt8, (Int.toNat 3).toUInt8, (Int.toNat 64).toUInt8, x.toNat.toUInt8, (Int.toNat 7).toUInt8] = 4 :: ((octs [⟨x, _, 7, _, c2, c7⟩]).length : Int) :: octs [⟨x, _, 7, _, c2, c7⟩] := by
        rw [bInts5, b1, b2, b3, b4, b5]
        rfl
      refine heard_law hk5 (by simp) (by simp) (by assumption) (by assumption) (by assumption) F9 N9 rfl hdp hun ?ok5 ?bad5
      case bad5 =>
        intro hb
        rw [show okX [] (List.map (fun p : PairC => p.x) [⟨x, _, 7, _, c2, c7⟩]) = true from hok] at hb
        cases hb
      intro _ qj h11 tk11 hR2 F11 N11
      (try dsimp only)
      k_steps
      refine ne_due (qs := [(x, 7)]) (by simp) hR2 (list_reads hP (fun p hp => (N11 p ((by walk_at "my_sub2" : ∀ p ∈ [(D2, PySem.W.listOf #[.ref D1] 0), (D1, _)], p ∈ _) p hp)).1) (N11 (q, PySem.W.listOf #[.ref q2] k1) (by k_mem)).1 (N11 (q2, ⟨.type "tuple", none, .seq #[.str "settings" t8, .ref D2] k2, #[]⟩) (by k_mem)).1) (by show un + 64 < cLine; omega) ?_
      k_steps
      exact lawSt1_next hx hl hm (by assumption) (by assumption) (by k_mem) (by k_mem)
    case bad =>
      intro hok t8 h7 tk7 F8 N8
      (try dsimp only)
      k_steps
      rename_i F9 N9 b1 b2 b3 b4 _
      have hk4 : KBw.bInts #[(Int.toNat 4).toUInt8, (Int.toNat 2).toUInt8, x.toNat.toUInt8, (Int.toNat 7).toUInt8] = 4 :: ((octs [⟨x, _, 7, _, c1, c7⟩]).length : Int) :: octs [⟨x, _, 7, _, c1, c7⟩] := by
        rw [bInts4, b1, b2, b3, b4]
        rfl
      refine heard_law hk4 (by simp) (by simp) (by assumption) (by assumption) (by assumption) F9 N9 rfl hdp hun ?okb4 ?badb4
      case okb4 =>
        intro hb
        rw [show okX [] (List.map (fun p : PairC => p.x) [⟨x, _, 7, _, c1, c7⟩]) = false from hok] at hb
        cases hb
      intro _ t9 h8 tk8 F10 N10
      (try dsimp only)
      k_steps
      rename_i F9 N9 b1 b2 b3 b4 b5 _
      have hk5 : KBw.bInts #[(Int.toNat 4).toUInt8, (Int.toNat 3).toUInt8, (Int.toNat 64).toUInt8, x.toNat.toUInt8, (Int.toNat 7).toUInt8] = 4 :: ((octs [⟨x, _, 7, _, c2, c7⟩]).length : Int) :: octs [⟨x, _, 7, _, c2, c7⟩] := by
        rw [bInts5, b1, b2, b3, b4, b5]
        rfl
      refine heard_law hk5 (by simp) (by simp) (by assumption) (by assumption) (by assumption) F9 N9 rfl hdp hun ?okb5 ?badb5
      case okb5 =>
        intro hb
        rw [show okX [] (List.map (fun p : PairC => p.x) [⟨x, _, 7, _, c2, c7⟩]) = false from hok] at hb
        cases hb
      intro _ t11 h11 tk11 F11 N11
      (try dsimp only)
      k_steps
      exact lawSt1_next hx hl hm (by assumption) (by assumption) (by k_mem) (by k_mem)
  )

end Mine
theorem PySem.Challenge.cw_pf0260_01_holds : PySem.Challenge.rw_pf0260_01.Holds :=
  Mine.law_holds
