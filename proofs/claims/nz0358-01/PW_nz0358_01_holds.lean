import PyProof.Rows.All
import Wide.All
import OpenK.AllK
import Wide.FinOn
import PySem.Challenge.RW_nz0358_01
set_option Elab.async false
open PySem PySem.W PySem.Calls PyProof.Rows

noncomputable section
namespace BloomP
open Sem (wp)

/-! ### wp at contexts that hold no code that could hold a bytearray -/
noncomputable def decIds : List String := Builtin.Bytes.decodersThatHold ++ ["bytearray.__contains__", "bytearray.__mod__", "bytearray.__rmod__", "_struct.pack_into.held", "bytearray.find.held"]
noncomputable def decB : Code → Bool
  | .builtin id _ => decIds.contains id
  | _ => false
noncomputable def ClB (l : List (Code × Pos)) : Prop := ∀ x ∈ l, decB x.1 = false
theorem ClB.cons {c : Code} {p : Pos} {l : List (Code × Pos)} (h : decB c = false) (hl : ClB l) : ClB ((c, p) :: l) := fun x hx => by
  rcases List.mem_cons.mp hx with rfl | hx
  · exact h
  · exact hl x hx

noncomputable def wpI {α : Type} (M : Model) (A : Around) (t : Sem α) (Q : α → Shared → Prop) (s : Shared) : Prop :=
  ∀ Γ p, Γ.In A → decB Γ.code = false → ClB Γ.below → wp M Γ t (fun a _ s' => Q a s') (fun _ _ _ => False) p s
noncomputable def codeI (M : Model) (A : Around) (c : Code) (R : Result → Shared → Prop) (s : Shared) : Prop :=
  ∀ Γ p, Γ.code = c → Γ.Below A → ClB Γ.below → wpCode M Γ R p s

section
variable {α β : Type} {M : Model} {A : Around} {s : Shared}
theorem wpI_of {t : Sem α} {Q : α → Shared → Prop} (h : wpAny M A t Q (fun _ _ => False) s) : wpI M A t Q s := fun Γ p hΓ _ _ => h Γ p hΓ
theorem wpI_mono {t : Sem α} {Q Q' : α → Shared → Prop} (h : wpI M A t Q s) (hQ : ∀ a s', Q a s' → Q' a s') : wpI M A t Q' s :=
  fun Γ p hΓ hc hb => Sem.wp_mono M Γ t (fun a _ s' => hQ a s') (fun _ _ _ x => x) p s (h Γ p hΓ hc hb)
theorem wpI_pure {a : α} {Q : α → Shared → Prop} (h : Q a s) : wpI M A (pure a) Q s := fun _ _ _ _ _ => h
theorem wpI_bind {m : Sem α} {f : α → Sem β} {Q : β → Shared → Prop} (h : wpI M A m (fun a s' => wpI M A (f a) Q s') s) : wpI M A (m >>= f) Q s := fun Γ p hΓ hc hb => by
  rw [Sem.wp_bind']
  exact Sem.wp_mono M Γ m (fun a p' s' h' => h' Γ p' hΓ hc hb) (fun _ _ _ x => x) p s (h Γ p hΓ hc hb)
/-- a first part that the library walks -/
theorem wpI_any {m : Sem α} {f : α → Sem β} {Q : β → Shared → Prop} (h : wpAny M A m (fun a s' => wpI M A (f a) Q s') (fun _ _ => False) s) : wpI M A (m >>= f) Q s := wpI_bind (wpI_of h)
theorem wpI_holding {vs : List Value} {m : Sem α} {Q : α → Shared → Prop} (h : wpI M A m Q s) : wpI M A (holding vs m) Q s := fun Γ p hΓ hc hb => by rw [Sem.wp_holding]; exact h Γ p hΓ hc hb
theorem wpI_keep {vs : List Value} {m : Sem α} {Q : α → Shared → Prop} (h : wpI M A m Q s) : wpI M A (m.keep vs) Q s := fun Γ p hΓ hc hb => by rw [Sem.wp_keep]; exact h Γ p hΓ hc hb
theorem wpI_operate {vs : List Value} {m : Sem Value} {Q : Value → Shared → Prop} (h : wpI M A m Q s) : wpI M A (operate vs m) Q s := fun Γ p hΓ hc hb => by rw [Sem.wp_operate]; exact h Γ p hΓ hc hb
theorem wpI_standAt {pos : Pos} {Q : Unit → Shared → Prop} (h : Q () s) : wpI M A (standAt pos) Q s := fun _ _ _ _ _ => h
theorem wpI_point {Q : Unit → Shared → Prop} (h : Q () s) : wpI M A point Q s := fun _ _ _ _ _ => h
theorem wpI_rule {tag : String} {Q : Unit → Shared → Prop} (h : Q () s) : wpI M A (rule tag) Q s := fun _ _ _ _ _ => h
theorem wpI_of_eq {t t' : Sem α} {Q : α → Shared → Prop} (e : t = t') (h : wpI M A t' Q s) : wpI M A t Q s := e ▸ h
theorem wpI_onRaise {m : Sem α} {k : Value → Sem Unit} {Q : α → Shared → Prop} (h : wpI M A m Q s) : wpI M A (m.onRaise k) Q s := fun Γ p hΓ hc hb => by
  rw [Sem.wp_onRaise]
  exact Sem.wp_mono M Γ m (fun _ _ _ x => x) (fun _ _ _ x => x.elim) p s (h Γ p hΓ hc hb)
theorem wpI_attempt {m : Sem α} {Q : Except Value α → Shared → Prop} (h : wpI M A m (fun a => Q (.ok a)) s) : wpI M A m.attempt Q s := fun Γ p hΓ hc hb => by
  rw [Sem.wp_attempt]
  exact Sem.wp_mono M Γ m (fun _ _ _ x => x) (fun _ _ _ x => x.elim) p s (h Γ p hΓ hc hb)
theorem wpI_ite {c : Prop} [Decidable c] {a b : Sem α} {Q : α → Shared → Prop} (h : if c then wpI M A a Q s else wpI M A b Q s) : wpI M A (if c then a else b) Q s := by
  split <;> simp_all
theorem codeI_mono {c : Code} {R R' : Result → Shared → Prop} (h : codeI M A c R s) (hR : ∀ r s', R r s' → R' r s') : codeI M A c R' s :=
  fun Γ p hc hΓ hb => wpCode_mono hR (h Γ p hc hΓ hb)
theorem codeI_of {c : Code} {R : Result → Shared → Prop} (h : codeAny M A c R s) : codeI M A c R s := fun Γ p hc hΓ _ => h Γ p hc hΓ
theorem wpI_run {c : Code} {Q : Flow → Shared → Prop} (hc : codeI M A c (fun r s' => match r with | .ok f => Q f s' | .error _ => False) s) : wpI M A (run c) Q s := fun Γ p hΓ hd hb => by
  rw [Sem.wp_run]
  exact hc _ p rfl (hΓ.enter c none p (by intro x; cases x)) (ClB.cons hd hb)
noncomputable def Gives' (Q : Value → Shared → Prop) (r : Result) (s' : Shared) : Prop := match r with
  | .ok (.ret v) => Q v s'
  | _ => False
theorem wpI_runValue {c : Code} {Q : Value → Shared → Prop} (hc : codeI M A c (Gives' Q) s) : wpI M A (runValue c) Q s := fun Γ p hΓ hd hb => by
  rw [Sem.wp_runValue]
  refine wpCode_mono (fun r s' x => ?_) (hc _ p rfl (hΓ.enter c none p (by intro x; cases x)) (ClB.cons hd hb))
  cases r with
  | error e => exact x
  | ok f => cases f <;> exact x
theorem wpI_call {f : Value} {pos : List Value} {kw : List (Str × Value)} {Q : Value → Shared → Prop} (hc : codeI M A (.call f ⟨pos, kw⟩) (Gives' Q) s) : wpI M A (call f pos kw) Q s := wpI_runValue hc
noncomputable def FinI (M : Model) (A : Around) (R : Result → Shared → Prop) (fin : Fin) (s' : Shared) : Prop := match fin with
  | .done f => R (.ok f) s'
  | .again c' => c'.quiet = true ∧ codeI M A c' R s'
theorem codeI_of_tree {c : Code} {R : Result → Shared → Prop} (hd : decB c = false) (h : wpI M (A.under c) (M.den c) (FinI M A R) s) : codeI M A c R s := fun Γ p hc hΓ hb => by
  rw [wpCode_iff_wp, hc]
  refine Sem.wp_mono M Γ _ (fun fin p' s' h' => ?_) (fun _ _ _ x => x.elim) p s (h Γ p (hc ▸ hΓ.in) (hc ▸ hd) hb)
  cases fin with
  | done f => exact h'
  | again c' => exact ⟨h'.1, h'.2 (Γ.goto c') p' rfl (hΓ.goto c') hb⟩
theorem codeI_loop {c : Code} {R : Result → Shared → Prop} (hd : decB c = false) (hq : c.quiet = true) (I : Nat → Shared → Prop)
    (turn : ∀ n s, I n s → wpI M (A.under c) (M.den c) (fun fin s' => match fin with | .done f => R (.ok f) s' | .again c' => c' = c ∧ ∃ m, m < n ∧ I m s') s) (n : Nat) (h : I n s) : codeI M A c R s := by
  induction n using Nat.strongRecOn generalizing s with
  | ind n ih =>
    refine codeI_of_tree hd (wpI_mono (turn n s h) fun fin s' hf => ?_)
    cases fin with
    | done f => exact hf
    | again c' => obtain ⟨rfl, m, hm, hI⟩ := hf; exact ⟨hq, ih m hm hI⟩

/-! ### what the stack says of a bytearray's exports there -/
theorem any_off {F : Code × Pos → Bool} {l : List (Code × Pos)} (hF : ∀ x : Code × Pos, decB x.1 = false → F x = false) (h : ClB l) : l.any F = false := by
  rw [List.any_eq_false]
  intro x hx
  rw [hF x (h x hx)]
  exact Bool.false_ne_true
theorem wpI_exported {self : Value} {Q : Bool → Shared → Prop} (h : Q false s) : wpI M A (Builtin.Bytes.exported self) Q s := fun Γ p hΓ hd hb => by
  unfold Builtin.Bytes.exported
  show Q (List.any ((Γ.code, p) :: Γ.below) _) s
  rw [any_off ?_ (ClB.cons hd hb)]
  · exact h
  · rintro ⟨c, p'⟩ hc
    cases c with
    | builtin id args =>
      have hc' : decIds.contains id = false := hc
      simp only [decIds, List.contains_append, Bool.or_eq_false_iff, List.contains_cons, List.contains_nil, Bool.or_false, beq_eq_false_iff_ne, ne_eq] at hc'
      obtain ⟨h1, h2, h3, h4, h5, h6⟩ := hc'
      delta Builtin.Bytes.exported.match_1
      refine (dif_neg h2).trans ((dif_neg h3).trans ((dif_neg h4).trans ((dif_neg h5).trans ((dif_neg h6).trans ?_))))
      obtain ⟨pos, kw⟩ := args
      cases pos with
      | nil => rfl
      | cons v r => exact (congrArg (Builtin.Bytes.sameRef v self && ·) h1).trans (Bool.and_false _)
    | _ => rfl
end

/-! ### compound steps -/
section
variable {M : Model} {A : Around} {s : Shared} {env : Env}
theorem wpI_execs_nil {Q : Flow → Shared → Prop} (h : Q .next s) : wpI M A (execs [] env) Q s := wpI_pure h
theorem wpI_execs_cons {st : Stmt} {rest : List Stmt} {Q : Flow → Shared → Prop} (h : wpI M A (exec st env) (fun f s₁ => f = .next ∧ wpI M A (execs rest env) Q s₁) s) : wpI M A (execs (st :: rest) env) Q s := by
  have e : execs (st :: rest) env = (exec st env >>= fun f => match f with | .next => execs rest env | f => pure f) := rfl
  rw [e]
  refine wpI_bind (wpI_mono h fun f s₁ h₁ => ?_)
  obtain ⟨rfl, h₁⟩ := h₁
  exact h₁
/-- a statement that the library walks, at the head of a block -/
theorem wpI_execs_any {st : Stmt} {rest : List Stmt} {Q : Flow → Shared → Prop} (h : wpAny M A (exec st env) (fun f s₁ => f = .next ∧ wpI M A (execs rest env) Q s₁) (fun _ _ => False) s) : wpI M A (execs (st :: rest) env) Q s := wpI_execs_cons (wpI_of h)
/-- the block's last statement: it may return -/
theorem wpI_execs_last {st : Stmt} {Q : Flow → Shared → Prop} (h : wpAny M A (exec st env) Q (fun _ _ => False) s) : wpI M A (execs [st] env) Q s := by
  have e : execs [st] env = (exec st env >>= fun f => match f with | .next => execs [] env | f => pure f) := rfl
  rw [e]
  refine wpI_bind (wpI_of (wpAny_mono h (fun f s₁ h₁ => ?_) fun _ _ x => x))
  cases f <;> exact wpI_pure h₁
theorem wpI_Assign {x : Str} {pos' pos : Pos} {value : Expr} {Q : Flow → Shared → Prop} (h : wpI M A (eval value env) (fun v s₁ => wpAny M A (storeName env x v) (fun _ => Q .next) (fun _ _ => False) s₁) s)
    (hs : swapsWith value (some (.Name x pos')) pos.line env = pure false := by rfl) : wpI M A (exec (.Assign [.Name x pos'] value pos) env) Q s := fun Γ p hΓ hc hb => by
  simp only [exec_Assign_Name env x pos' value pos hs, Sem.wp_bind', Sem.wp_cmd_standAt, Sem.wp_bindName, Sem.wp_pure']
  exact Sem.wp_mono M Γ _ (fun v _ s₁ h₁ => h₁ Γ _ hΓ) (fun _ _ _ x => x) _ _ (h Γ _ hΓ hc hb)
theorem wpI_If {test : Expr} {body orelse : List Stmt} {pos : Pos} {Q : Flow → Shared → Prop}
    (h : wpAny M A (isTrue test env (eval test env)) (fun b s₂ => if b = true then wpI M A (execs body env) Q s₂ else wpI M A (execs orelse env) Q s₂) (fun _ _ => False) s) : wpI M A (exec (.If test body orelse pos) env) Q s := by
  rw [exec_If]
  refine wpI_bind (wpI_standAt (wpI_bind (wpI_of (wpAny_mono h (fun b s₂ h₂ => ?_) fun _ _ x => x))))
  cases b <;> exact h₂
theorem wpI_Expr {e : Expr} {pos : Pos} {Q : Flow → Shared → Prop} (h : wpI M A (eval e env) (fun v s' => v = .none ∧ Q .next s') s)
    (hi : interactive env = false := by rfl) (hs : swapsWith e none pos.line env = pure false := by rfl) : wpI M A (exec (.Expr e pos) env) Q s := by
  rw [exec_Expr env e pos hi hs]
  refine wpI_bind (wpI_standAt (wpI_bind (wpI_mono h fun v s' h' => ?_)))
  obtain ⟨rfl, h'⟩ := h'
  rw [dropValue_plain (by intro a e; cases e)]
  exact wpI_pure h'
/-- a call: its arguments are the library's, the call itself ours -/
theorem wpI_callWith {pos : Pos} {f : Value} {first : List Value} {args : List (Bool × Sem Value)} {Q : Value → Shared → Prop} (hplain : args.any (·.1) = false)
    (h : wpAny M A (evalArgs f true args []) (fun a s₁ => wpAny M A (keeperOf f) (fun _ s₂ => wpI M A (call f (first ++ a.pos) a.kw) Q s₂) (fun _ _ => False) s₁) (fun _ _ => False) s) :
    wpI M A (callWith pos f first args []) Q s := by
  unfold callWith
  refine wpI_bind (wpI_holding (wpI_of (wpAny_mono h (fun a s₁ h₁ => ?_) fun _ _ x => x)))
  refine wpI_bind (wpI_standAt ?_)
  have e : (args.any (·.1) || ([] : List (Option Str × Sem Value)).any (·.1.isNone)) = false := by rw [hplain]; rfl
  simp only [e]
  refine wpI_bind (wpI_of (wpAny_mono h₁ (fun k s₂ h₂ => ?_) fun _ _ x => x))
  have tail : ∀ {t : Sem Value}, wpI M A t Q s₂ → wpI M A (t >>= fun r => holding [r] point >>= fun _ => pure r) Q s₂ :=
    fun ht => wpI_bind (wpI_mono ht fun r s₃ hr => wpI_bind (wpI_holding (wpI_point (wpI_pure hr))))
  have marked (mk : Value) : wpI M A (callMarked mk f (first ++ a.pos) a.kw) Q s₂ := by unfold callMarked; exact wpI_keep h₂
  cases k <;> dsimp only <;> first | exact tail h₂ | (split <;> first | exact tail h₂ | exact tail (marked _)) | exact tail (wpI_operate h₂)
theorem wpI_method {o : Expr} {name : Str} {apos pos : Pos} {args : List Expr} {kws : List Keyword} {pl : Sem Bool} {Q : Value → Shared → Prop}
    (h : wpAny M A (eval o env) (fun ov s₁ => wpAny M A (getMethod ov name pl) (fun fx s₂ => wpI M A (callWith pos fx.1 fx.2 (backTo pos (starEach args env)) (backToKw pos (keywordEach kws env))) Q s₂) (fun _ _ => False) s₁) (fun _ _ => False) s)
    (he : eval (.Call (.Attribute o name apos) args kws pos) env = (do
      let ov ← eval o env
      standAt apos.atName
      let (f, first) ← holding [ov] (getMethod ov name pl)
      callWith pos f first (backTo pos (starEach args env)) (backToKw pos (keywordEach kws env))) := by rfl) :
    wpI M A (eval (.Call (.Attribute o name apos) args kws pos) env) Q s := by
  rw [he]
  exact wpI_any (wpAny_mono h (fun ov s₁ h₁ => wpI_bind (wpI_standAt (wpI_any (wpAny_holding (wpAny_mono h₁ (fun fx s₂ h₂ => h₂) fun _ _ x => x))))) fun _ _ x => x)
end
end BloomP
end

noncomputable section
namespace BloomP
open Sem (wp)
noncomputable abbrev NoE : Value → Shared → Prop := fun _ _ => False

section
variable {prog : Program} {w : World} {A : Around} {s : Shared}
theorem codeI_func {body : List Stmt} {env : Env} {R : Result → Shared → Prop} (h : wpI (model prog w) (A.deeper env) (execs body env) (fun f s' => R (.ok (.ret (match f with | .ret v => v | _ => .none))) s') s) : codeI (model prog w) A (.func body env) R s := by
  refine codeI_of_tree rfl ?_
  show wpI _ (A.deeper env) (do point; match ← (execs body env).onRaise (leaving env) with | .ret v => ret v | _ => ret .none) _ s
  refine wpI_bind (wpI_point (wpI_bind (wpI_onRaise (wpI_mono h fun f s' h' => ?_))))
  cases f <;> exact wpI_pure h'

theorem codeI_call_function {a : Addr} {args : Args} {o : Obj} {fd : FuncData} {body : List Stmt} {R : Result → Shared → Prop} (hroom : A.depth < recursionLimit) (ho : s.heap.get? a = some o)
    (hd' : o.data = .func fd) (hco : fd.scope.isCoroutine = false) (hgen : fd.scope.isGenerator = false) (hbody : fd.body = .stmts body) (hcd : s.heap.CodeRec fd.code fd.qualname)
    (h : wpAny (model prog w) A.in1 (bindArgs fd args) (fun binds s₁ => wpAny (model prog w) A.in1 (newFunctionEnv fd.scope fd.globals fd.closure binds (fd.qualname ++ ".<locals>.") (some a) fd.code none fd.builtins)
        (fun env s₂ => s₂.heap.NoLimit ∧ codeI (model prog w) A (.func body env) R s₂) NoE s₁) NoE s) : codeI (model prog w) A (.call (.ref a) args) R s := by
  refine codeI_of_tree rfl ?_
  show wpI _ A.in1 (callAny (.ref a) args) _ s
  simp only [callAny]
  refine wpI_any (wpAny_load ho ?_)
  obtain ⟨c, oc, vs, tq, hc, hoc, hdc, hq⟩ := hcd
  simp only [hd', callFunction, hco, hgen, hbody, hc]
  rw [hc] at h
  refine wpI_any (m := field (.ref c) 1) (wpAny_field hoc hdc hq (wpI_any (wpAny_pure ?_)))
  exact wpI_any (wpAny_mono h (fun binds s₁ h₁ => wpI_any (wpAny_mono h₁ (fun env s₂ h₂ => wpI_any (wpAny_enterFrame h₂.1 hroom (wpI_pure (And.intro rfl h₂.2)))) fun _ _ x => x)) fun _ _ x => x)
end

section
variable {prog : Program} {w : World} {A₀ A : Around} {s : Shared} {base h₀ : Heap} {outer : List Env} {L : Addr} {m mg mb : Str → Option Value} {env : Env} {news : List (Addr × Obj)} {K : Frag} {p : Program} {loose : List Str} {mean : ExcName → Option Value}
  {R : Result → Shared → Prop} {name qual : Str} {params : Arguments} {body : List Stmt} {scope : Scope} {dV kV doc pm cdv ct oc : Value} {an od : Option Addr} {osl : Array (Option Value)} {f : Addr} {args : Args} {binds : List (Str × Value)}
/-- a def of the text's is entered from a def -/
theorem codeI_def (B : Below A₀ base outer h₀) (F : Fr h₀ L s.heap m) (X₀ : K.In h₀) (N : News h₀ L s.heap news) (T : Top p loose mean mg mb h₀) (hA : A.frames = some (env :: outer)) (hf : env.frame = some L) (hke : env.scope.kind = .function)
    (ho : K.lookup f = some ⟨oc, od, .func (fnOf name qual params body scope dV kV doc pm an cdv ct), osl⟩) (hcd : codeIn K cdv qual = true) (hroom : A.depth < recursionLimit)
    (hbind : BindsTo s (fnOf name qual params body scope dV kV doc pm an cdv ct) args binds) (hloc : ∀ y ∈ binds, scope.names.lookup y.1 = some .local)
    (h : ∀ g L' h₁, Fr h₀ L g m → Fr g L' h₁ (fun y => binds.reverse.lookup y) → News g L' h₁ news → Below A base (env :: outer) g → K.In g → Top p loose mean mg mb g → (∀ q ∈ news, q.1 < L') →
      wpI (model prog w) (A.deeper (envOf qual scope L' f cdv)) (execs body (envOf qual scope L' f cdv)) (fun fl s' => LeaveK h₀ L m g R (match fl with | .ret v => v | _ => .none) s') { s with heap := h₁, toks := s.toks + binds.length })
    (hco : scope.isCoroutine = false) (hgen : scope.isGenerator = false) (hk : scope.kind = .function) (hcell : ∀ x ∈ scope.names, x.2 ≠ .cell) : codeI (model prog w) A (.call (.ref f) args) R s := by
  obtain ⟨FG, BG, st, lv⟩ := groundX (R := R) B F N hA hf hke
  refine codeI_call_function (fd := fnOf name qual params body scope dV kV doc pm an cdv ct) (body := body) hroom ((X₀.keeps F.keep) _ _ ho) rfl hco hgen rfl (codeRec_of (X₀.keeps F.keep) hcd) (hbind _ _ _ _ ?_)
  refine wpAny_newFunctionEnv hcell hloc (fun h₁ hns hsb => ⟨(T.nolimit.keeps F.keep).fresh _ hsb, codeI_func ?_⟩) hk
  have hk₁ : ∀ b o, s.heap.get? b = some o → h₁.get? b = some o := fun b o e => hsb.extBut b o (Nat.ne_of_lt (Heap.lt_size e)) (Heap.get?_push_of_some _ e)
  exact wpI_mono (h _ s.heap.objs.size h₁ FG ⟨hns, fun b o e => hk₁ b o (of_hideAll _ e), Nat.le_of_eq (hideAll_size _ _)⟩
    (fun q hq => ⟨hk₁ _ _ (N q hq).1, Nat.ne_of_lt (Heap.lt_size (N q hq).1), hideAll_none _ (List.mem_map_of_mem hq)⟩) BG (X₀.keeps st) (T.keeps st) fun q hq => Heap.lt_size (N q hq).1) fun fl s' hl => lv _ _ hl

/-- the law itself is entered from the claim's caller; it keeps names in cells -/
theorem codeI_top (X₀ : K.In s.heap) (hlim : s.heap.NoLimit) (ho : K.lookup f = some ⟨oc, od, .func (fnOf name qual params body scope dV kV doc pm an cdv ct), osl⟩) (hcd : codeIn K cdv qual = true) (hroom : A.depth < recursionLimit)
    (hbind : BindsTo s (fnOf name qual params body scope dV kV doc pm an cdv ct) args binds) (hkind : (binds.all fun y => scope.names.lookup y.1 == some .local || scope.names.lookup y.1 == some .cell) = true)
    (hnd : ((cellsFrom 0 scope.names []).map (·.1)).Nodup)
    (h : ∀ h₁ tk cells, Fr s.heap s.heap.objs.size h₁ (bindL (envOfC qual scope s.heap.objs.size f cdv).kindOf binds fun _ => none) → News s.heap s.heap.objs.size h₁ cells →
      CellsAre (bindC (envOfC qual scope s.heap.objs.size f cdv).kindOf binds fun _ => none) (cellsFrom (s.heap.objs.size + 1) scope.names []) cells →
      wpI (model prog w) (A.deeper (envOfC qual scope s.heap.objs.size f cdv)) (execs body (envOfC qual scope s.heap.objs.size f cdv)) (fun fl s' => R (.ok (.ret (match fl with | .ret v => v | _ => .none))) s') { s with heap := h₁, toks := tk })
    (hco : scope.isCoroutine = false) (hgen : scope.isGenerator = false) (hk : scope.kind = .function) : codeI (model prog w) A (.call (.ref f) args) R s := by
  refine codeI_call_function (fd := fnOf name qual params body scope dV kV doc pm an cdv ct) (body := body) hroom (X₀ _ _ ho) rfl hco hgen rfl (codeRec_of X₀ hcd) (hbind _ _ _ _ ?_)
  refine wpAny_newFunctionEnv_cells hk (kindsX hkind _) fun env' he s' x => ?_
  subst he
  refine ⟨hlim.keeps x.toInCall.keep, codeI_func ?_⟩
  obtain ⟨h₁, tk, rfl, _⟩ := x.done
  obtain ⟨cells, NC, Y⟩ := Cl.news (h₀ := s.heap) (Nat.le_refl _) fun n c hm => ⟨x.cell n c (lookup_of_mem_nodup (cellsFrom_names scope.names 0 (s.heap.objs.size + 1) [] [] rfl ▸ hnd) hm), x.above n c hm⟩
  exact h h₁ tk cells ⟨x.toInCall.ns, x.toInCall.keep, x.toInCall.fresh⟩ NC Y
end

/-! ### a comprehension whose element is ours -/
section
variable {M : Model} {A : Around} {s : Shared} {env : Env}
theorem wpI_comprehension {e : Expr} {scope : Scope} {pos : Pos} {newAcc first : Sem Value} {g : Comprehension} {gs : List Comprehension} {cl : List (Str × Addr)} {u : Value → Sem Unit} {Q : Shared → Prop}
    (hcl : clausesOf e = g :: gs) (hs : ∀ x, foldedSetIterable g.iter env x = pure x) (hclos : closureFor scope env = pure cl)
    (hkind : scope.kind = .function) (hnames : ∀ x ∈ scope.names, x.2 = .local → scope.names.lookup x.1 = some .local)
    (h : wpAny M A first (fun x s₁ => wpAny M A (pyIter x) (fun it s₂ => wpAny M A newAcc (fun acc s₃ => wpAny M A (newFunctionEnv scope env.globals cl [] env.qual none .none (some env)) (fun cenv s₄ =>
        codeI M A (.compStart e 0 it acc { cenv with scope := relabel scope env }) (fun r s' => (∃ f, r = .ok f) ∧ wpAny M A (u acc) (fun _ s'' => ∃ m, s''.heap.Ns cenv.locals m ∧ ∀ h', Heap.SameBut cenv.locals s''.heap h' → Q { s'' with heap := h' }) NoE s') s₄) NoE s₃) NoE s₂) NoE s₁) NoE s) :
    wpI M A (comprehension e scope env pos newAcc false first (some u)) (fun _ s' => Q s') s := by
  unfold comprehension
  rw [hclos, hcl]
  refine wpI_any (wpAny_mono h (fun x s₁ h₁ => wpI_bind (wpI_standAt (wpI_any (wpAny_of_eq (hs x) (wpI_any (wpAny_holding (wpAny_mono h₁ (fun it s₂ h₂ => ?_) fun _ _ x => x))))))) fun _ _ x => x)
  refine wpI_bind (wpI_standAt ?_)
  refine (wpI_any (wpAny_mono h₂ (fun acc s₃ h₃ => wpI_any (wpAny_pure (wpI_any (wpAny_mono h₃ (fun cenv s₄ h₄ => ?_) fun _ _ x => x)))) fun _ _ x => x))
  dsimp only
  have hv : ∀ x ∈ (scope.names.filter fun x => (x.2 == .local || x.2 == .cell) && x.1 != (".0" : Str)).reverse, x.2 = .local →
      Env.kindOf { cenv with scope := relabel scope env } x.1 = some .local := fun x hx hl => lookup_relabel_local (hnames x (List.mem_filter.mp (List.mem_reverse.mp hx)).1 hl)
  have hv' : ∀ x ∈ (scope.names.filter fun x => (x.2 == .local || x.2 == .cell) && x.1 != (".0" : Str)).reverse.drop 1 ++ (scope.names.filter fun x => (x.2 == .local || x.2 == .cell) && x.1 != (".0" : Str)).reverse.take 1,
      x.2 = .local → Env.kindOf { cenv with scope := relabel scope env } x.1 = some .local := fun x hx hl =>
    (List.mem_append.mp hx).elim (fun h1 => hv x (List.mem_of_mem_drop h1) hl) fun h1 => hv x (List.mem_of_mem_take h1) hl
  refine wpI_holding (wpI_bind (wpI_attempt (wpI_holding (wpI_run (codeI_mono h₄ fun r s' hr => ?_)))))
  obtain ⟨⟨f, rfl⟩, hr⟩ := hr
  refine wpI_bind (wpI_rule (wpI_any (wpAny_holding (wpAny_mono hr (fun _ s'' hr' => ?_) fun _ _ x => x))))
  obtain ⟨m, hn, hr'⟩ := hr'
  exact wpI_any (wpAny_comp_letGo (cenv := { cenv with scope := relabel scope env }) hkind _ s'' m hv' hn fun h' m' _ hs' => wpI_pure (hr' h' hs'))
end
end BloomP
end

noncomputable section
namespace BloomP
open Sem (wp)

section
variable {prog : Program} {w : World} {A : Around} {s : Shared} {env : Env} {h₀ : Heap} {L : Addr} {m : Str → Option Value} {R : Result → Shared → Prop}

theorem lt_sizeN {h : Heap} {a : Addr} {o : Obj} (e : h.get? a = some o) : @LT.lt Nat _ a h.objs.size := Heap.lt_size e
theorem codeI_compStart {elt target iter : Expr} {scope : Scope} {pos : Pos} {it acc : Value} (h0 : codeI (model prog w) A (.compLoop (.ListComp elt [⟨target, iter, [], 0⟩] scope pos) 0 it acc env) R s)
    (h : wpAny (model prog w) A (pyIter it) (fun it' s' => codeI (model prog w) A (.compLoop (.ListComp elt [⟨target, iter, [], 0⟩] scope pos) 0 it' acc env) R s') NoE s) :
    codeI (model prog w) A (.compStart (.ListComp elt [⟨target, iter, [], 0⟩] scope pos) 0 it acc env) R s := by
  refine codeI_of_tree rfl ?_
  show wpI _ A ((compStart (.ListComp elt [⟨target, iter, [], 0⟩] scope pos) 0 it acc env).onRaise (fun x => do noteFrame x env; standAt theWindowsPlace)) _ s
  refine wpI_onRaise ?_
  unfold compStart
  show wpI _ A (ask >>= _) _ s
  refine wpI_any (wpAny_askSetting (wpI_ite ?_))
  split
  · first
      | exact wpI_pure (And.intro rfl h0)
      | exact wpI_any (wpAny_pure (wpI_pure (And.intro rfl h0)))
  · first
      | exact wpI_bind (wpI_rule (wpI_bind (wpI_standAt (wpI_any (wpAny_mono h (fun it' s' h' => wpI_pure (And.intro rfl h')) fun _ _ x => x)))))
      | (refine wpI_bind (wpI_rule ?_); show wpI _ A (standAt iter.pos >>= _) _ s; exact wpI_bind (wpI_standAt (wpI_any (wpAny_mono h (fun it' s' h' => wpI_pure (And.intro rfl h')) fun _ _ x => x))))

theorem codeI_compLoop {elt target iter : Expr} {scope : Scope} {pos : Pos} {it acc : Value} (I : Nat → Shared → Prop)
    (turn : ∀ n s, I n s → wpAny (model prog w) A (pyNext it) (fun r s₁ => match r with
      | none => R (.ok .next) s₁
      | some v => wpAny (model prog w) A (assign target env v) (fun _ s₂ => wpI (model prog w) A (eval elt env) (fun x s₃ =>
          wpAny (model prog w) A (call (.builtin "list.append") [acc, x]) (fun _ s₄ => ∃ m, m < n ∧ I m s₄) NoE s₃) s₂) NoE s₁) NoE s)
    (n : Nat) (h : I n s) (ht : ∀ v, letOwnedTupleGo target it v = pure () := by intro _; rfl) :
    codeI (model prog w) A (.compLoop (.ListComp elt [⟨target, iter, [], 0⟩] scope pos) 0 it acc env) R s := by
  refine codeI_loop rfl rfl I (fun n s hI => ?_) n h
  show wpI _ A ((compTurn (.ListComp elt [⟨target, iter, [], 0⟩] scope pos) 0 it acc env).onRaise (fun x => do noteFrame x env; theTreesLotGoes x)) _ s
  refine wpI_onRaise ?_
  rw [compTurn_list1]
  refine wpI_bind (wpI_standAt (wpI_any (wpAny_mono (turn n s hI) (fun r s₁ h₁ => ?_) fun _ _ x => x)))
  cases r with
  | none => exact wpI_pure h₁
  | some v =>
    refine wpI_any (wpAny_of_eq (ht v) ?_)
    exact wpI_any (wpAny_mono h₁ (fun _ s₂ h₂ => wpI_bind (wpI_bind (wpI_mono h₂ fun x s₃ h₃ => wpI_any (wpAny_mono h₃ (fun _ s₄ h₄ => wpI_pure (wpI_pure ⟨rfl, h₄⟩)) fun _ _ x => x)))) fun _ _ x => x)

/-- y = [elt for x in iter], where iter is a list of the call's own: the ledger stands as it stood, J is said of what is made so far -/
theorem Assign_comp_I {elt iter : Expr} {x y : Str} {px py : Pos} {scope : Scope} {cl : List (Str × Addr)} {pos spos : Pos} {ax : Addr} {its : List Value} {k : Nat} {news : List (Addr × Obj)} {Q : Flow → Shared → Prop} (J : Nat → List Value → Prop)
    (hh : A.handled = none) (F₀ : Fr h₀ env.locals s.heap m) (N₀ : News h₀ env.locals s.heap news) (hmem : (ax, listOf its.toArray k) ∈ news) (hsz : its.length ≤ sizeLine)
    (hiter : wpAny (model prog w) A (eval iter env) (fun v s₁ => v = .ref ax ∧ ∃ tk, s₁ = { s with toks := tk }) NoE s)
    (hsw : swapsWith (.ListComp elt [⟨.Name x px, iter, [], 0⟩] scope pos) (some (.Name y py)) spos.line env = pure true)
    (hclos : closureFor scope env = pure cl) (hcell : ∀ z ∈ scope.names, z.2 ≠ .cell) (hkind : scope.kind = .function)
    (hnames : ∀ z ∈ scope.names, z.2 = .local → scope.names.lookup z.1 = some .local) (hx : scope.names.lookup x = some .local)
    (hy : env.kindOf y = some .local) (hp : (env.scope.kind == .class || (env.scope.kind == .module && env.locals != env.globals)) = false) (hJ : J 0 [])
    (turn : ∀ i v ys I oI C oC D m₂ h tk, its[i]? = some v → J i ys → LCg.NsObj oC m₂ → m₂ x = some v → Fr h₀ env.locals h m → News h₀ env.locals h ((I, oI) :: (C, oC) :: (D, LCg.lst ys) :: news) →
      LCg.Off3 I C D news → ((@Ne Nat I C) ∧ (@Ne Nat I D) ∧ (@Ne Nat C D)) →
      wpI (model prog w) A (eval elt (compEnvC scope cl C env)) (fun y' s₂ => ∃ h' tk', s₂ = { s with heap := h', toks := tk' } ∧ Fr h₀ env.locals h' m ∧ News h₀ env.locals h' ((I, oI) :: (C, oC) :: (D, LCg.lst ys) :: news) ∧ J (i + 1) (ys ++ [y'])) { s with heap := h, toks := tk })
    (done : ∀ D ys h tk, J its.length ys → Fr h₀ env.locals h (fun z => if z = y then some (.ref D) else m z) → News h₀ env.locals h ((D, LCg.lst ys) :: news) → (∀ p ∈ news, p.1 < D) → Q .next { s with heap := h, toks := tk })
    (hs : ∀ x, foldedSetIterable iter env x = pure x := by intro _; rfl) :
    wpI (model prog w) A (exec (.Assign [.Name y py] (.ListComp elt [⟨.Name x px, iter, [], 0⟩] scope pos) spos) env) Q s := by
  rw [exec_Assign_Name_used _ _ _ _ hsw]
  refine wpI_bind (wpI_standAt (wpI_bind ?_))
  show wpI _ A (do let _ ← comprehension (.ListComp elt [⟨.Name x px, iter, [], 0⟩] scope pos) scope env _ (newList []) false (eval iter env) (some (assign (.Name y py) env))) _ s
  refine wpI_bind (wpI_mono (wpI_comprehension (Q := fun s' => Q .next s') rfl hs hclos hkind hnames (wpAny_mono hiter (fun xv s₁ h₁ => ?_) fun _ _ e => e)) fun _ s' hq => wpI_pure (wpI_pure hq))
  obtain ⟨rfl, tk₁, rfl⟩ := h₁
  have hL0 := (N₀ _ hmem).1
  have hl : ({ s with toks := tk₁ } : Shared).heap.IsList ax its.toArray := ⟨_, hL0, rfl, k, rfl⟩
  have hlt : ax < s.heap.objs.size := Heap.lt_size hL0
  refine wpAny_pyIter_list hl ?_
  generalize hH1 : s.heap.push { cls := .type "list_iterator", data := .fields #[.ref ax, .int 0 0] } = H1
  refine wpAny_newObj_type (wpAny_newFunctionEnv hcell (by intro y hy; simp at hy) (fun h₁ hns₁ hsb₁ => ?_) hkind)
  dsimp only at hns₁ hsb₁ ⊢
  generalize hH2 : H1.push { cls := .type "list", dict := none, data := .seq ([] : List Value).toArray } = H2 at hns₁ hsb₁ ⊢
  have hD : H1.objs.size = s.heap.objs.size + 1 := by rw [← hH1, Heap.size_push]
  have hC : H2.objs.size = s.heap.objs.size + 2 := by rw [← hH2, Heap.size_push, hD]
  rw [hD]
  generalize hId : s.heap.objs.size = I at hD hC hlt ⊢
  have hIC : I ≠ H2.objs.size := by rw [hC]; exact Nat.ne_of_lt (by omega)
  have hDC : I + 1 ≠ H2.objs.size := by rw [hC]; exact Nat.ne_of_lt (by omega)
  have hID : I ≠ I + 1 := Nat.ne_of_lt (Nat.lt_succ_self _)
  have up1 : ∀ b o, H1.get? b = some o → h₁.get? b = some o := fun b o e => hsb₁.extBut b o (by rw [hC]; exact Nat.ne_of_lt (by have := lt_sizeN e; rw [hD] at this; exact Nat.lt_succ_of_lt this)) (Heap.get?_push_of_some _ (hH2 ▸ Heap.get?_push_of_some _ e))
  have up0 : ∀ b o, s.heap.get? b = some o → h₁.get? b = some o := fun b o e => up1 b o (hH1 ▸ Heap.get?_push_of_some _ e)
  have hit : h₁.IsListIter I ax 0 := ⟨_, up1 I _ (by rw [← hH1, ← hId]; exact Heap.get?_push_size _ rfl), rfl, rfl⟩
  have hacc : h₁.get? (I + 1) = some (LCg.lst []) := hsb₁.extBut _ _ hDC (Heap.get?_push_of_some _ (by rw [← hH2, ← hD]; exact Heap.get?_push_size _ rfl))
  have hLlt : env.locals < I := hId ▸ F₀.ns.lt
  have free : ∀ b, I ≤ b → h₀.get? b = none := fun b hb => Heap.get?_none_of_le (Nat.le_trans (Nat.le_trans F₀.above (Nat.le_of_lt hLlt)) hb)
  have hIL : env.locals ≠ I := Nat.ne_of_lt hLlt
  have hDL : I + 1 ≠ env.locals := Nat.ne_of_gt (Nat.lt_succ_of_lt hLlt)
  have hCL : H2.objs.size ≠ env.locals := by rw [hC]; exact Nat.ne_of_gt (Nat.lt_succ_of_lt (Nat.lt_succ_of_lt hLlt))
  have low : ∀ p ∈ news, p.1 < I := fun p hp => hId ▸ Heap.lt_size (N₀ p hp).1
  have off : LCg.Off3 I H2.objs.size (I + 1) news := LCg.Off3.of fun p hp => ⟨Nat.ne_of_lt (low p hp), by rw [hC]; exact Nat.ne_of_lt (Nat.lt_of_lt_of_le (low p hp) (by omega)), Nat.ne_of_lt (Nat.lt_succ_of_lt (low p hp))⟩
  have off3 := off.mem
  have W := Walks.list (prog := prog) (w := w) (A := A) hh I ax (Nat.ne_of_lt hlt) its.toArray
  refine codeI_compStart ?_ (W.self 0 _ _ _ ⟨hit, ⟨_, up0 _ _ hL0, rfl, k, rfl⟩⟩ ?_)
  all_goals
    refine codeI_compLoop (fun n s' => ∃ h' tk i ys m', s' = { s with heap := h', toks := tk } ∧ i ≤ its.length ∧ n = its.length + 1 - i ∧ ys.length = i ∧ (h'.IsListIter I ax i ∧ h'.IsList ax its.toArray) ∧ Fr h₀ env.locals h' m ∧ h'.Ns H2.objs.size m' ∧
      News h₀ env.locals h' ((I + 1, LCg.lst ys) :: news) ∧ J i ys) ?_ (its.length + 1)
      ⟨h₁, _, 0, [], _, rfl, Nat.zero_le _, rfl, rfl, ⟨hit, ⟨_, up0 _ _ hL0, rfl, k, rfl⟩⟩, F₀.keeps up0, hns₁, fun p hp => (List.mem_cons.mp hp).elim (fun e => e ▸ ⟨hacc, hDL, free _ (Nat.le_succ _)⟩) fun hp => ⟨up0 _ _ (N₀ p hp).1, (N₀ p hp).2⟩, hJ⟩
    rintro n s' ⟨h', tk, i, ys, m', rfl, hi, rfl, hyl, hst, F', hn', N', hJ'⟩
    by_cases hlt' : i < its.length
    · refine W.item i _ _ _ (by simpa using hlt') hst fun v h₂ tk₂ hPv hst₂ hk₂ => ?_
      refine wpAny_assign_Name (wpAny_storeName_local (lookup_relabel_local hx) (hn'.at' fun o e => hk₂ _ o (by simpa using Ne.symm hIC) e) (fun h₃ hn₃ hs₃ => ?_) (by simp [relabel, hkind]))
      have hst₃ : h₃.IsListIter I ax (i + 1) ∧ h₃.IsList ax its.toArray := W.frame _ _ _ hst₂ fun b hb o e => hs₃.extBut b o (fun q => by
        rcases List.mem_cons.mp hb with hb | hb
        · exact hIC (hb.symm.trans q)
        · have e2 : ax = H2.objs.size := (List.mem_singleton.mp hb).symm.trans q
          rw [hC] at e2
          exact absurd hlt (by rw [e2]; exact Nat.not_lt.mpr (Nat.le_add_right _ _))) e
      obtain ⟨oI, heI, rI⟩ := id hst₃.1
      obtain ⟨oC, heC, hoC⟩ := LCg.ns_obj hn₃
      have F₃ : Fr h₀ env.locals h₃ m := (LCg.fr_but F' hk₂ hIL (free _ (Nat.le_refl _))).change hs₃ hCL (free _ (by rw [hC]; exact Nat.le_add_right _ _))
      have N₂ : News h₀ env.locals h₂ ((I + 1, LCg.lst ys) :: news) := LCg.news_but N' hk₂ fun p hp => (List.mem_cons.mp hp).elim (fun e => e ▸ Ne.symm hID) fun hp => (off3 p hp).1
      have N₃ : News h₀ env.locals h₃ ((I, oI) :: (H2.objs.size, oC) :: (I + 1, LCg.lst ys) :: news) := fun p hp => by
        rcases List.mem_cons.mp hp with rfl | hp
        · exact ⟨heI, Ne.symm hIL, free _ (Nat.le_refl _)⟩
        · rcases List.mem_cons.mp hp with rfl | hp
          · exact ⟨heC, hCL, free _ (by rw [hC]; exact Nat.le_add_right _ _)⟩
          · refine ⟨hs₃.extBut _ _ ?_ (N₂ p hp).1, (N₂ p hp).2⟩
            rcases List.mem_cons.mp hp with rfl | hp
            · exact hDC
            · exact (off3 p hp).2.1
      have hv : its[i]? = some v := by simpa using hPv
      refine wpI_mono (turn i v ys I oI H2.objs.size oC (I + 1) _ h₃ _ hv hJ' hoC (by simp) F₃ N₃ off ⟨hIC, hID, Ne.symm hDC⟩) fun y' s₄ h₄ => ?_
      obtain ⟨h₄, tk₄, rfl, F₄, N₄, hJ₄⟩ := h₄
      have zI := (N₄ (I, oI) List.mem_cons_self).1
      have zC := (N₄ (H2.objs.size, oC) (List.mem_cons_of_mem _ List.mem_cons_self)).1
      have N₄' : News h₀ env.locals h₄ ((I + 1, LCg.lst ys) :: news) := fun p hp => N₄ p (List.mem_cons_of_mem _ (List.mem_cons_of_mem _ hp))
      have zD := (N₄' (I + 1, LCg.lst ys) List.mem_cons_self).1
      have zl := (N₄' (ax, listOf its.toArray k) (List.mem_cons_of_mem _ hmem)).1
      refine append_at (hsz := by show ys.toArray.size ≤ sizeLine; rw [List.size_toArray, hyl]; exact Nat.le_trans hi hsz) zD fun h₅ hs₅ hD₅ => ?_
      have hDa : ax ≠ I + 1 := (off3 _ hmem).2.2
      refine ⟨its.length + 1 - (i + 1), by omega, h₅, tk₄, i + 1, ys ++ [y'], _, rfl, hlt', rfl, by rw [List.length_append, List.length_singleton, hyl],
        ⟨⟨oI, hs₅.extBut _ _ hID zI, rI⟩, ⟨_, hs₅.extBut _ _ hDa zl, rfl, k, rfl⟩⟩, F₄.change hs₅ hDL (free _ (Nat.le_succ _)), (hoC.ns zC).sameBut hs₅ (Ne.symm hDC), fun p hp => ?_, hJ₄⟩
      rcases List.mem_cons.mp hp with rfl | hp
      · exact ⟨hD₅.trans (congrArg some (LCg.lst_snoc ys y')), hDL, free _ (Nat.le_succ _)⟩
      · exact ⟨hs₅.extBut _ _ (off3 p hp).2.2 (N₄' p (List.mem_cons_of_mem _ hp)).1, (N₄' p (List.mem_cons_of_mem _ hp)).2⟩
    · obtain rfl : i = its.length := Nat.le_antisymm hi (Nat.not_lt.mp hlt')
      refine W.done _ _ _ (by rw [List.size_toArray]; exact hst) fun h₂ tk₂ hk₂ => ?_
      refine ⟨⟨_, rfl⟩, ?_⟩
      have F₂ : Fr h₀ env.locals h₂ m := LCg.fr_but F' hk₂ hIL (free _ (Nat.le_refl _))
      have N₂ : News h₀ env.locals h₂ ((I + 1, LCg.lst ys) :: news) := LCg.news_but N' hk₂ fun p hp => (List.mem_cons.mp hp).elim (fun e => e ▸ Ne.symm hID) fun hp => (off3 p hp).1
      have hn₂ := hn'.at' fun o e => hk₂ _ o (by simpa using Ne.symm hIC) e
      show wpAny _ A (assign (.Name y py) env (.ref (I + 1))) _ _ _
      refine wpAny_assign_Name (wpAny_storeName_local hy F₂.ns (fun h₃ hn₃ hs₃ => ?_) hp)
      have F₃ : Fr h₀ env.locals h₃ (fun z => if z = y then some (.ref (I + 1)) else m z) := F₂.set hn₃ hs₃
      have N₃ := N₂.set hs₃
      refine ⟨_, hn₂.sameBut hs₃ hCL, fun h₄ hs₄ => done (I + 1) ys h₄ _ hJ' (F₃.change hs₄ hCL (free _ (by rw [hC]; exact Nat.le_add_right _ _))) (fun p hp => ⟨hs₄.extBut _ _ ?_ (N₃ p hp).1, (N₃ p hp).2⟩) fun p hp => Nat.lt_succ_of_lt (low p hp)⟩
      rcases List.mem_cons.mp hp with rfl | hp
      · exact hDC
      · exact (off3 p hp).2.1
end
end BloomP
end

noncomputable section
set_option maxRecDepth 100000
namespace BloomP
namespace Ba
theorem mro : mroOf (.type "bytearray") = pure [.type "bytearray", .type "object"] := by rw [mroOf_type]; kernel_rfl
theorem lookup_new : typeLookup (.type "bytearray") "__new__" = pure (some (.builtin "bytearray.__new__")) := by rw [typeLookup_type, builtinLookup_eq_fast]; kernel_rfl
theorem slot_init : Slot "bytearray" "__init__" "bytearray.__init__" :=
  .of (owner := "bytearray") (n := "__init__") (by rw [typeLookup_type, builtinLookup_eq_fast]; kernel_rfl) (by decide +kernel) (by decide +kernel) (by decide +kernel)
    (by first | exact .inl (by decide +kernel) | exact .inr (by decide +kernel)) (by rw [isSubtype_type]; kernel_rfl)
theorem called : TypeCalled "bytearray" "bytearray.__new__" "bytearray.__init__" :=
  ⟨by decide +kernel, by decide +kernel, ⟨_, _, mro⟩, madeBy_type mro lookup_new (by decide +kernel), by decide +kernel, by rw [isSubtype_type]; kernel_rfl, slot_init⟩
theorem typeCall (a : Value) : checkTypeCall "bytearray" ⟨[a], []⟩ = pure () := by kernel_rfl
theorem newCall (a : Value) : checkBuiltinCall "bytearray.__new__" ⟨[.type "bytearray", a], []⟩ = pure () := by kernel_rfl
theorem entry_new : entryFor table "bytearray.__new__" = some Builtin.«list.__new__» := entryFor_alias (id' := "list.__new__") (by kernel_rfl) rfl (by decide +kernel) (by kernel_rfl)
theorem entry_init : entryFor table "bytearray.__init__" = some Builtin.«bytearray.__init__» := entryFor_of_tree (by kernel_rfl)
theorem plain_new : plainId "bytearray.__new__" = true := by decide +kernel
theorem sub_self : isSubtype (.type "bytearray") (.type "bytearray") = pure true := by rw [isSubtype_type]; kernel_rfl
set_option maxRecDepth 1000000 in
set_option maxHeartbeats 4000000 in
theorem owner_new : ("bytearray.__new__".splitOn ".__new__").headD "" = "bytearray" := by simp +decide [String.splitOn, String.splitOnAux]
theorem args_init (a : Value) (i : Int) (t : Tok) : argsOk "bytearray.__init__" ⟨[a, .int i t], []⟩ := by unfold argsOk; kernel_rfl
theorem slot_append : Slot "bytearray" "append" "bytearray.append" :=
  .of (owner := "bytearray") (n := "append") (by rw [typeLookup_type, builtinLookup_eq_fast]; kernel_rfl) (by decide +kernel) (by decide +kernel) (by decide +kernel)
    (by first | exact .inl (by decide +kernel) | exact .inr (by decide +kernel)) (by rw [isSubtype_type]; kernel_rfl)
theorem entry_append : entryFor table "bytearray.append" = some Builtin.«bytearray.append» := entryFor_of_tree (by kernel_rfl)
theorem args_append (a : Value) (i : Int) (t : Tok) : argsOk "bytearray.append" ⟨[a, .int i t], []⟩ := by unfold argsOk; kernel_rfl
theorem slot_get : Slot "bytearray" "__getitem__" "bytearray.__getitem__" :=
  .of (owner := "bytearray") (n := "__getitem__") (by rw [typeLookup_type, builtinLookup_eq_fast]; kernel_rfl) (by decide +kernel) (by decide +kernel) (by decide +kernel)
    (by first | exact .inl (by decide +kernel) | exact .inr (by decide +kernel)) (by rw [isSubtype_type]; kernel_rfl)
theorem entry_get : entryFor table "bytearray.__getitem__" = some Builtin.«bytearray.__getitem__» := entryFor_of_tree (by kernel_rfl)
theorem args_get (a : Value) (i : Int) (t : Tok) : argsOk "bytearray.__getitem__" ⟨[a, .int i t], []⟩ := by unfold argsOk; kernel_rfl
theorem slot_set : Slot "bytearray" "__setitem__" "bytearray.__setitem__" :=
  .of (owner := "bytearray") (n := "__setitem__") (by rw [typeLookup_type, builtinLookup_eq_fast]; kernel_rfl) (by decide +kernel) (by decide +kernel) (by decide +kernel)
    (by first | exact .inl (by decide +kernel) | exact .inr (by decide +kernel)) (by rw [isSubtype_type]; kernel_rfl)
theorem entry_set : entryFor table "bytearray.__setitem__" = some Builtin.«bytearray.__setitem__» := entryFor_of_tree (by kernel_rfl)
theorem args_set (a : Value) (i j : Int) (t u : Tok) : argsOk "bytearray.__setitem__" ⟨[a, .int i t, .int j u], []⟩ := by unfold argsOk; kernel_rfl
end Ba
end BloomP
end

noncomputable section
set_option maxRecDepth 100000
namespace BloomP
section
variable {prog : Program} {w : World} {A : Around} {s : Shared} {R : Result → Shared → Prop}
theorem den_builtin {id : String} {args : Args} {b : Builtin} (hb : entryFor table id = some b) : (model prog w).den (.builtin id args) = b args := by
  show (match entryFor table id with | some b => b args | none => unsupported ((withoutEnding? id "#data").getD id)) = _
  rw [hb]
theorem codeI_call_builtin {id : String} {args : Args} {b : Builtin} (hq : plainId id = true) (hd : decB (.builtin id args) = false) (hb : entryFor table id = some b)
    (h : wpAny (model prog w) A.in1 (checkBuiltinCall id args) (fun _ s₁ => wpI (model prog w) A.in1 (b args) (FinI (model prog w) A R) s₁) NoE s) : codeI (model prog w) A (.call (.builtin id) args) R s := by
  refine codeI_of_tree rfl ?_
  show wpI _ A.in1 (do checkBuiltinCall id args; again (.builtin id args)) _ s
  refine wpI_any (wpAny_mono h (fun _ s₁ h₁ => wpI_pure (And.intro (plainId_quiet hq args) (codeI_of_tree hd ?_))) fun _ _ x => x)
  rw [Around.under_plainId hq args, den_builtin hb]
  exact h₁
theorem callType_I {T newId initId : String} {Bi : Builtin} {args : List Value} {Q Q₁ : Value → Shared → Prop} (ft : TypeCalled T newId initId)
    (hct : checkTypeCall T ⟨args, []⟩ = pure ()) (entryI : entryFor table initId = some Bi) (hdi : ∀ a, decB (.builtin initId a) = false)
    (hnew : codeI (model prog w) A.in1 (.call (.builtin newId) ⟨.type T :: args, []⟩) (Gives' Q₁) s)
    (hnext : ∀ obj s₁, Q₁ obj s₁ → s₁.TypeIs obj T ∧ argsOk initId ⟨obj :: args, []⟩ ∧
      wpI (model prog w) A.in1.in1 (Bi ⟨obj :: args, []⟩) (fun fin s' => fin = .done (.ret .none) ∧ Q obj s') s₁) :
    wpI (model prog w) A (call (.type T) args) Q s := by
  obtain ⟨c, tl, hmro⟩ := ft.mro
  have hmade := ft.made
  have hsub := ft.sub
  refine wpI_call (codeI_of_tree rfl ?_)
  show wpI _ A.in1 (callAny (.type T) _) _ _
  refine wpI_pure ⟨Code.quiet_builtin _ (by decide +kernel), codeI_of_tree rfl ?_⟩
  rw [Around.under_plain (weight_type_call_type T args []) rfl]
  have hden := den_builtin (prog := prog) (w := w) (args := ⟨.type T :: args, []⟩) F.entry_type_call
  rw [hden]
  have h1 := ft.notType
  have h2 := ft.canCreate
  unfold Builtin.«type.__call__»
  simp only [h1, h2, hct, hmro, hmade, Bool.false_eq_true, if_false, pure_bind]
  rw [if_neg (by simp)]
  refine wpI_bind (wpI_holding (wpI_call (codeI_mono hnew fun r s₁ hr => ?_)))
  cases r with
  | error e => exact hr.elim
  | ok fl =>
    cases fl with
    | ret obj =>
      obtain ⟨hT, hok, hsi⟩ := hnext _ _ hr
      refine wpI_any (wpAny_isInstance hT hsub ?_)
      simp only [Bool.not_true, Bool.false_eq_true, if_false]
      refine wpI_bind (wpI_holding ?_)
      unfold callSpecial?
      refine wpI_any (wpAny_specialOf hT ft.init.lookup ?_)
      dsimp only
      refine wpI_holding (wpI_any (wpAny_of_eq (ft.init.bind obj) ?_))
      dsimp only
      refine wpI_bind (wpI_call (codeI_call_builtin ft.init.plain (hdi _) entryI (ft.init.check _ _ _ _ _ _ _ _ hT hok (wpI_mono hsi fun fin s' h => ?_))))
      obtain ⟨rfl, h⟩ := h
      refine wpI_pure ?_
      exact wpI_pure h
    | _ => exact hr.elim
end
end BloomP
end

noncomputable section
set_option maxRecDepth 100000
namespace BloomP
noncomputable abbrev baObj (b : Array UInt8) : Obj := { cls := .type "bytearray", data := .bytearray b }
section
variable {prog : Program} {w : World} {A : Around} {E : Value → Shared → Prop} {s : Shared}
theorem decB_off {id : String} (h : decIds.contains id = false) (args : Args) : decB (.builtin id args) = false := h
theorem code_ba_new (a : Value) {Q₁ : Value → Shared → Prop} (h : Q₁ (.ref s.heap.objs.size) { s with heap := s.heap.push (baObj #[]) }) :
    codeAny (model prog w) A (.call (.builtin "bytearray.__new__") ⟨[.type "bytearray", a], []⟩) (wants Q₁ NoE) s := by
  refine codeAny_of_tree ?_
  show wpAny _ A.in1 (do checkBuiltinCall "bytearray.__new__" ⟨[.type "bytearray", a], []⟩; again (.builtin "bytearray.__new__" ⟨[.type "bytearray", a], []⟩)) _ _ s
  refine wpAny_bind (wpAny_of_eq (Ba.newCall a) (wpAny_pure ⟨plainId_quiet Ba.plain_new _, codeAny_builtin_stack Ba.entry_new rfl fun p st => ?_⟩))
  rw [Around.under_plainId Ba.plain_new _]
  have hsub := Ba.sub_self
  have hown := Ba.owner_new
  obtain ⟨hp, g, d, tk, os⟩ := s
  simp only [hown]
  wp_walk
  exact h

theorem ba_typeIs {a : Addr} {b : Array UInt8} (h : s.heap.get? a = some (baObj b)) : s.TypeIs (.ref a) "bytearray" := ⟨_, h, rfl⟩
theorem wpAny_write {M : Model} {a : Addr} {b : Array UInt8} {f : Array UInt8 → Array UInt8} {Q : Unit → Shared → Prop} (h : s.heap.get? a = some (baObj b)) (hz : (f b).size ≤ sizeLine)
    (hQ : ∀ h', Heap.SameBut a s.heap h' → h'.get? a = some (baObj (f b)) → Q () { s with heap := h' }) : wpAny M A (Builtin.Bytes.write (.ref a) f) Q E s := by
  show wpAny M A (updateBytearray a f) Q E s
  unfold updateBytearray
  refine wpAny_bind (wpAny_load h ?_)
  show wpAny _ _ (update a (Obj.mapBytearray f) >>= fun _ => lookBehind a) _ _ _
  refine wpAny_bind (wpAny_update h ?_)
  have hb : (s.heap.update a (Obj.mapBytearray f)).get? a = some (baObj (f b)) := Heap.get?_update_self (Obj.mapBytearray f) h rfl
  refine wpAny_lookBehind hb ?_ (hQ _ (Heap.SameBut.update ..) hb)
  show (if (f b).size > sizeLine then some "bytearray:memory" else none) = none
  rw [if_neg (Nat.not_lt.mpr hz)]
theorem wpAny_payload {M : Model} {a : Addr} {b : Array UInt8} {Q : Array UInt8 → Shared → Prop} (h : s.heap.get? a = some (baObj b)) (hQ : Q b s) : wpAny M A (Builtin.Bytes.payload (.ref a)) Q E s := by
  unfold Builtin.Bytes.payload Builtin.Bytes.payload?
  exact wpAny_bind (wpAny_bind (wpAny_load h (wpAny_pure (wpAny_pure hQ))))
theorem wpAny_exportsOf {M : Model} {a : Addr} {b : Array UInt8} {Q : Nat → Shared → Prop} (h : s.heap.get? a = some (baObj b)) (hQ : Q 0 s) : wpAny M A (Builtin.Bytes.exportsOf (.ref a)) Q E s := by
  unfold Builtin.Bytes.exportsOf
  exact wpAny_bind (wpAny_load h (wpAny_pure hQ))
theorem wpI_noExports {M : Model} {a : Addr} {b : Array UInt8} {Q : Bool → Shared → Prop} (h : s.heap.get? a = some (baObj b)) (hQ : Q false s) :
    wpI M A (Builtin.Bytes.exported (.ref a) <||> (do return (← Builtin.Bytes.exportsOf (.ref a)) > 0)) Q s := by
  unfold orM
  refine wpI_bind (wpI_exported ?_)
  exact wpI_any (wpAny_exportsOf h (wpI_pure hQ))
theorem wpI_checkResize {M : Model} {a : Addr} {b : Array UInt8} {Q : Unit → Shared → Prop} (h : s.heap.get? a = some (baObj b)) (hQ : Q () s) : wpI M A (Builtin.Bytes.checkResize (.ref a)) Q s := by
  unfold Builtin.Bytes.checkResize
  refine wpI_bind (wpI_noExports h ?_)
  rw [if_neg (by decide)]
  exact wpI_pure hQ
theorem wpAny_byteValue {M : Model} {i : Int} {t : Tok} {Q : UInt8 → Shared → Prop} (h0 : 0 ≤ i) (h1 : i < 256) (hQ : Q i.toNat.toUInt8 s) : wpAny M A (Builtin.Bytes.byteValue (.int i t)) Q E s := by
  unfold Builtin.Bytes.byteValue
  refine wpAny_bind (wpAny_of_eq (rfl : asIndex (.int i t) = pure i) ?_)
  rw [if_neg (by simp only [Bool.or_eq_true, decide_eq_true_eq]; omega)]
  exact wpAny_pure hQ

theorem ba_append_I {a : Addr} {b : Array UInt8} {i : Int} {t : Tok} {Q : Value → Shared → Prop} (h : s.heap.get? a = some (baObj b)) (h0 : 0 ≤ i) (h1 : i < 256) (hz : b.size < sizeLine)
    (hQ : ∀ h', Heap.SameBut a s.heap h' → h'.get? a = some (baObj (b.push i.toNat.toUInt8)) → Q .none { s with heap := h' }) : wpI (model prog w) A (call (.builtin "bytearray.append") [.ref a, .int i t]) Q s := by
  refine wpI_call (codeI_call_builtin Ba.slot_append.plain (decB_off (by decide +kernel) _) Ba.entry_append (Ba.slot_append.check _ _ _ _ _ _ _ _ (ba_typeIs h) (Ba.args_append _ _ _) ?_))
  unfold Builtin.«bytearray.append»
  refine wpI_any (wpAny_of_eq (a := (.ref a, .int i t)) rfl ?_)
  dsimp only
  refine wpI_any (wpAny_byteValue h0 h1 ?_)
  refine wpI_bind (wpI_checkResize h ?_)
  refine wpI_any (wpAny_write h (by rw [Array.size_push]; exact hz) fun h' hs he => ?_)
  exact wpI_pure (hQ h' hs he)
end
end BloomP
end

noncomputable section
set_option maxRecDepth 100000
namespace BloomP
namespace Ba
theorem look_release : typeLookup (.type "bytearray") "__release_buffer__" = pure (some (.builtin "bytearray.__release_buffer__")) := by rw [typeLookup_type, builtinLookup_eq_fast]; kernel_rfl
theorem look_buffer : typeLookup (.type "bytearray") "__buffer__" = pure (some (.builtin "bytearray.__buffer__")) := by rw [typeLookup_type, builtinLookup_eq_fast]; kernel_rfl
theorem bind1 (v : Value) : Builtin.Bytes.bindOptional "bytearray.__init__" "bytearray" ["source", "encoding", "errors"] [v] [] = pure [some v, none, none] := by kernel_rfl
theorem look_bytes : typeLookup (.type "bytearray") "__bytes__" = pure none := by rw [typeLookup_type, builtinLookup_eq_fast]; kernel_rfl
theorem look_index : typeLookup (.type "bytearray") "__index__" = pure none := by rw [typeLookup_type, builtinLookup_eq_fast]; kernel_rfl
theorem look_int_index : typeLookup (.type "int") "__index__" = pure (some (.builtin "int.__index__")) := by rw [typeLookup_type, builtinLookup_eq_fast]; kernel_rfl
end Ba
section
variable {prog : Program} {w : World} {A : Around} {E : Value → Shared → Prop} {s : Shared}
theorem wpAny_ownRelease {M : Model} {a : Addr} {b : Array UInt8} {Q : Bool → Shared → Prop} (h : s.heap.get? a = some (baObj b)) (hQ : Q false s) : wpAny M A (Builtin.Bytes.ownRelease (.ref a)) Q E s := by
  unfold Builtin.Bytes.ownRelease Builtin.Bytes.slotIsOwn
  refine wpAny_bind (wpAny_bind (wpAny_specialOf (ba_typeIs h) Ba.look_release ?_))
  have e1 : (!("bytearray.__release_buffer__").endsWith ("." ++ "__release_buffer__")) = false := by decide +kernel
  have e2 : ("bytearray.__release_buffer__").dropRight (("__release_buffer__").length + 1) = "bytearray" := by decide +kernel
  dsimp only
  simp only [e1, e2, Bool.false_eq_true, if_false]
  exact wpAny_isInstance (ba_typeIs h) Ba.sub_self (wpAny_pure hQ)

theorem ba_init_I {a : Addr} {n : Int} {t : Tok} {Q : Value → Shared → Prop} (h : s.heap.get? a = some (baObj #[])) (h0 : 0 < n) (h1 : n ≤ 1048576)
    (hQ : ∀ h', Heap.SameBut a s.heap h' → h'.get? a = some (baObj (Array.replicate n.toNat 0)) → Q (.ref a) { s with heap := h' }) :
    wpI (model prog w) A (Builtin.«bytearray.__init__» ⟨[.ref a, .int n t], []⟩) (fun fin s' => fin = .done (.ret .none) ∧ Q (.ref a) s') s := by
  unfold Builtin.«bytearray.__init__»
  dsimp only
  refine wpI_any (wpAny_ownRelease h ?_)
  rw [if_neg (by decide)]
  refine wpI_any (wpAny_of_eq (Ba.bind1 _) ?_)
  dsimp only
  refine wpI_any (wpAny_of_eq (a := ()) rfl ?_)
  refine wpI_any (wpAny_of_eq (a := ()) rfl ?_)
  refine wpI_bind (wpI_noExports h ?_)
  rw [if_neg (by decide)]
  refine wpI_any (wpAny_write h (by decide) fun h₁ hs₁ he₁ => ?_)
  refine wpI_any (wpAny_of_eq (a := none) rfl ?_)
  rw [if_neg (by decide)]
  refine wpI_any (wpAny_of_eq (a := ()) (by rw [if_neg (by decide), if_neg (by decide)]) ?_)
  refine wpI_any (wpAny_specialOf (typeIs_int _ _ _) Ba.look_int_index ?_)
  rw [if_pos (by rfl)]
  refine wpI_any (wpAny_of_eq (a := .ok n) rfl ?_)
  dsimp only
  have hf : Builtin.Bytes.fitsIndex n = true := by
    unfold Builtin.Bytes.fitsIndex
    simp only [Bool.and_eq_true, decide_eq_true_eq]
    omega
  rw [if_neg (by rw [hf]; decide), if_neg (by omega), if_neg (by simp only [beq_iff_eq]; omega)]
  rw [if_neg (by unfold Builtin.Bytes.tooLong; rw [sizeLine_eq]; simp only [gt_iff_lt, decide_eq_true_eq]; omega)]
  refine wpI_bind (wpI_rule ?_)
  rw [if_pos h0]
  refine wpI_any (wpAny_write he₁ (by rw [Array.size_replicate, sizeLine_eq]; omega) fun h₂ hs₂ he₂ => ?_)
  exact wpI_pure ⟨rfl, hQ h₂ (hs₁.trans hs₂) he₂⟩
end
end BloomP
end

noncomputable section
set_option maxRecDepth 100000
namespace BloomP
section
variable {prog : Program} {w : World} {A : Around} {E : Value → Shared → Prop} {s : Shared} {h₀ : Heap} {L : Addr} {m : Str → Option Value} {news : List (Addr × Obj)}
theorem wpAny_subscript {M : Model} {i : Int} {t : Tok} {Q : Option Int → Shared → Prop} (h0 : 0 ≤ i) (h1 : i < 2 ^ 62) (hQ : Q (some i) s) : wpAny M A (Builtin.Bytes.subscript? (.int i t)) Q E s := by
  unfold Builtin.Bytes.subscript?
  refine wpAny_bind (wpAny_specialOf (typeIs_int _ _ _) Ba.look_int_index ?_)
  rw [if_neg (by decide)]
  refine wpAny_bind (wpAny_of_eq (rfl : asIndex (.int i t) = pure i) ?_)
  have hf : Builtin.Bytes.fitsIndex i = true := by
    unfold Builtin.Bytes.fitsIndex
    simp only [Bool.and_eq_true, decide_eq_true_eq]
    omega
  rw [if_neg (by rw [hf]; decide)]
  exact wpAny_pure hQ
theorem seqIndex_of {i : Int} {n : Nat} (h0 : 0 ≤ i) (h1 : i < (n : Int)) : seqIndex? i n = some i.toNat := by
  unfold seqIndex?
  simp only [show ¬ i < 0 by omega, if_false]
  rw [if_pos (by simp only [Bool.and_eq_true, decide_eq_true_eq]; exact ⟨h0, h1⟩)]
/-- an octet of a row of octets -/
noncomputable def oct (b : Array UInt8) (i : Int) : Int := ((b.getD i.toNat 0).toNat : Int)
theorem oct_nonneg (b : Array UInt8) (i : Int) : 0 ≤ oct b i := Int.natCast_nonneg _
theorem oct_lt (b : Array UInt8) (i : Int) : oct b i < 256 := by
  unfold oct
  have := (b.getD i.toNat 0).toNat_lt
  omega
theorem ba_get {a : Addr} {b : Array UInt8} {i : Int} {t : Tok} {Q : Value → Shared → Prop} (h : s.heap.get? a = some (baObj b)) (hsz : b.size ≤ 1048576) (h0 : 0 ≤ i) (h1 : i < (b.size : Int))
    (hQ : Q (.int (oct b i) s.toks) { s with toks := s.toks + 1 }) : wpAny (model prog w) A (getItem (.ref a) (.int i t)) Q E s := by
  have hT := ba_typeIs h
  unfold getItem
  try with_reducible refine wpAny_holding ?_
  first | refine wpAny_bind (wpAny_pure ?_) | skip
  refine wpAny_bind (wpAny_sequenceKey hT (by decide) ?_)
  refine wpAny_bind (wpAny_callSpecial?_slot (name := Str.ofString "__getitem__") hT Ba.slot_get (wpAny_call_entry Ba.slot_get hT Ba.entry_get ?_ (Ba.args_get _ _ _)))
  unfold Builtin.«bytearray.__getitem__»
  refine wpAny_bind (wpAny_of_eq (a := (.ref a, [.int i t])) rfl ?_)
  dsimp only
  refine wpAny_bind (wpAny_subscript h0 (by omega) ?_)
  dsimp only
  refine wpAny_bind (wpAny_payload h ?_)
  have e : (seqIndex? i b.size).bind (b[·]?) = some (b.getD i.toNat 0) := by
    rw [seqIndex_of h0 h1]
    have hj : i.toNat < b.size := by omega
    simp [Array.getD, hj]
  rw [e]
  exact wpAny_bind (wpAny_mkInt (wpAny_pure ⟨_, rfl, wpAny_pure hQ⟩))
theorem ba_set {a : Addr} {b : Array UInt8} {i v : Int} {t u : Tok} {Q : Unit → Shared → Prop} (h : s.heap.get? a = some (baObj b)) (hsz : b.size ≤ 1048576) (h0 : 0 ≤ i) (h1 : i < (b.size : Int)) (v0 : 0 ≤ v) (v1 : v < 256)
    (hQ : ∀ h', Heap.SameBut a s.heap h' → h'.get? a = some (baObj (b.setIfInBounds i.toNat v.toNat.toUInt8)) → Q () { s with heap := h' }) : wpAny (model prog w) A (setItem (.ref a) (.int i t) (.int v u)) Q E s := by
  have hT := ba_typeIs h
  unfold setItem
  try with_reducible refine wpAny_holding ?_
  first | refine wpAny_bind (wpAny_pure ?_) | skip
  refine wpAny_bind (wpAny_sequenceKey hT (by decide) ?_)
  refine wpAny_bind (wpAny_callSpecial?_slot (name := Str.ofString "__setitem__") hT Ba.slot_set (wpAny_call_entry Ba.slot_set hT Ba.entry_set ?_ (Ba.args_set _ _ _ _ _)))
  unfold Builtin.«bytearray.__setitem__»
  rw [if_neg (by show ¬ (!true) = true; decide)]
  dsimp only
  refine wpAny_bind (wpAny_subscript h0 (by omega) ?_)
  dsimp only
  refine wpAny_bind (wpAny_byteValue v0 v1 ?_)
  refine wpAny_bind (wpAny_payload h ?_)
  rw [seqIndex_of h0 h1]
  dsimp only
  refine wpAny_bind (wpAny_write h (by rw [Array.size_setIfInBounds, sizeLine_eq]; omega) fun h' hs he => ?_)
  exact wpAny_pure ⟨_, rfl, wpAny_pure (hQ h' hs he)⟩

/-! with the frame and the ledger -/
theorem wants_gives {Q : Value → Shared → Prop} {r : Result} {s' : Shared} (h : wants Q NoE r s') : Gives' Q r s' := by
  cases r with
  | error e => exact h
  | ok f => cases f <;> exact h
theorem ba_new_N {n : Int} {t : Tok} {Q : Value → Shared → Prop} (F : Fr h₀ L s.heap m) (N : News h₀ L s.heap news) (h0 : 0 < n) (h1 : n ≤ 1048576)
    (hQ : ∀ a h', Fr h₀ L h' m → News h₀ L h' ((a, baObj (Array.replicate n.toNat 0)) :: news) → (∀ p ∈ news, p.1 < a) → Q (.ref a) { s with heap := h' }) : wpI (model prog w) A (call (.type "bytearray") [.int n t]) Q s := by
  refine callType_I Ba.called (Ba.typeCall _) Ba.entry_init (decB_off (by decide +kernel)) (Q₁ := fun obj s₁ => obj = .ref s.heap.objs.size ∧ s₁ = { s with heap := s.heap.push (baObj #[]) })
    (codeI_mono (codeI_of (code_ba_new _ ⟨rfl, rfl⟩)) fun _ _ h => wants_gives h) ?_
  rintro _ _ ⟨rfl, rfl⟩
  have h9 : (s.heap.push (baObj #[])).get? s.heap.objs.size = some (baObj #[]) := Heap.get?_push_size _ rfl
  refine ⟨ba_typeIs (s := { s with heap := s.heap.push (baObj #[]) }) h9, Ba.args_init _ _ _, ba_init_I (s := { s with heap := s.heap.push (baObj #[]) }) (Q := Q) h9 h0 h1 fun h' hs he => ?_⟩
  have hne : ∀ p ∈ news, p.1 ≠ s.heap.objs.size := fun p hp => Nat.ne_of_lt (Heap.lt_size (N p hp).1)
  refine hQ _ h' ((F.push _).change hs (Nat.ne_of_gt F.ns.lt) (next_is_new F)) (fun p hp => ?_) fun p hp => Heap.lt_size (N p hp).1
  rcases List.mem_cons.mp hp with rfl | hp
  · exact ⟨he, Nat.ne_of_gt F.ns.lt, next_is_new F⟩
  · exact ⟨hs.extBut _ _ (hne p hp) (Heap.get?_push_of_some _ (N p hp).1), (N p hp).2⟩
theorem ba_append_N {a : Addr} {b : Array UInt8} {i : Int} {t : Tok} {Q : Value → Shared → Prop} (F : Fr h₀ L s.heap m) (N : News h₀ L s.heap ((a, baObj b) :: news)) (hne : ∀ p ∈ news, p.1 ≠ a) (h0 : 0 ≤ i) (h1 : i < 256) (hz : b.size ≤ 1048576)
    (hQ : ∀ h', Fr h₀ L h' m → News h₀ L h' ((a, baObj (b.push i.toNat.toUInt8)) :: news) → Q .none { s with heap := h' }) : wpI (model prog w) A (call (.builtin "bytearray.append") [.ref a, .int i t]) Q s := by
  have z := N (a, baObj b) (.head _)
  exact ba_append_I z.1 h0 h1 (by rw [sizeLine_eq]; omega) fun h' hs he => hQ h' (F.change hs z.2.1 z.2.2) (news_set (pre := []) N (fun _ h => nomatch h) hne hs he)
theorem ba_set_N {a : Addr} {b : Array UInt8} {i v : Int} {t u : Tok} {Q : Unit → Shared → Prop} {pre post : List (Addr × Obj)} (F : Fr h₀ L s.heap m) (N : News h₀ L s.heap (pre ++ (a, baObj b) :: post)) (hpre : ∀ p ∈ pre, p.1 ≠ a) (hpost : ∀ p ∈ post, p.1 ≠ a)
    (hsz : b.size ≤ 1048576) (h0 : 0 ≤ i) (h1 : i < (b.size : Int)) (v0 : 0 ≤ v) (v1 : v < 256)
    (hQ : ∀ h', Fr h₀ L h' m → News h₀ L h' (pre ++ (a, baObj (b.setIfInBounds i.toNat v.toNat.toUInt8)) :: post) → Q () { s with heap := h' }) : wpAny (model prog w) A (setItem (.ref a) (.int i t) (.int v u)) Q E s := by
  have z := N (a, baObj b) (List.mem_append.mpr (.inr (.head _)))
  exact ba_set z.1 hsz h0 h1 v0 v1 fun h' hs he => hQ h' (F.change hs z.2.1 z.2.2) (news_set N hpre hpost hs he)

theorem ba_buffer {M : Model} {a : Addr} {b : Array UInt8} {id : String} {Q : Option (Array UInt8) → Shared → Prop} (h : s.heap.get? a = some (baObj b)) (hQ : Q (some b) s) : wpAny M A (Builtin.Bytes.buffer? id (.ref a) true) Q E s := by
  unfold Builtin.Bytes.buffer?
  refine wpAny_bind (wpAny_specialOf (ba_typeIs h) Ba.look_buffer ?_)
  dsimp only
  unfold Builtin.Bytes.slotIsOwn
  refine wpAny_bind (wpAny_bind (wpAny_specialOf (ba_typeIs h) Ba.look_buffer ?_))
  have e1 : (!("bytearray.__buffer__").endsWith ("." ++ "__buffer__")) = false := by decide +kernel
  have e2 : ("bytearray.__buffer__").dropRight (("__buffer__").length + 1) = "bytearray" := by decide +kernel
  dsimp only
  simp only [e1, e2, Bool.false_eq_true, if_false]
  refine wpAny_isInstance (ba_typeIs h) Ba.sub_self ?_
  simp only [Bool.not_true, Bool.false_eq_true, if_false]
  refine wpAny_bind (wpAny_specialOf (ba_typeIs h) Ba.look_buffer ?_)
  refine wpAny_bind (wpAny_ownRelease h ?_)
  rw [if_neg (by decide)]
  exact wpAny_bind (wpAny_payload h (wpAny_pure hQ))
theorem bytes_of_ba_new {a : Addr} {b : Array UInt8} {Q : Value → Shared → Prop} (h : s.heap.get? a = some (baObj b)) (hz : b.size ≤ 1048577) (hQ : ∀ t tk, Q (.bytes b t) { s with toks := tk }) :
    codeAny (model prog w) A (.call (.builtin "bytes.__new__") ⟨[.type "bytes", .ref a], []⟩) (wants Q E) s := by
  refine codeAny_of_tree ?_
  show wpAny _ A.in1 (do checkBuiltinCall "bytes.__new__" ⟨[.type "bytes", .ref a], []⟩; again (.builtin "bytes.__new__" ⟨[.type "bytes", .ref a], []⟩)) _ _ s
  refine wpAny_bind (wpAny_of_eq (F.bm_newCall _) (wpAny_pure ⟨plainId_quiet F.bm_plain _, codeAny_builtin F.bm_entry ?_⟩))
  rw [Around.under_plainId F.bm_plain _]
  have hT := ba_typeIs h
  unfold Builtin.«bytes.__new__»
  refine wpAny_bind (wpAny_of_eq (a := true) rfl ?_)
  refine bm_if_false rfl ?_
  refine wpAny_bind (wpAny_of_eq F.bm_sub ?_)
  refine bm_if_false rfl ?_
  refine wpAny_bind (wpAny_of_eq (F.bm_bind _) ?_)
  refine wpAny_bind (wpAny_of_eq (a := ()) rfl ?_)
  refine wpAny_bind (wpAny_of_eq (a := ()) rfl ?_)
  refine bm_if_false rfl ?_
  refine wpAny_bind (wpAny_specialOf hT Ba.look_bytes ?_)
  refine wpAny_bind (wpAny_bind ?_)
  show wpAny _ _ (load a >>= _) _ _ _
  refine wpAny_bind (wpAny_load h ?_)
  refine wpAny_pure (wpAny_pure ?_)
  refine bm_if_false rfl ?_
  refine wpAny_bind (wpAny_specialOf hT Ba.look_index ?_)
  refine bm_if_true rfl ?_
  first
    | show wpAny _ _ (Builtin.Bytes.buffer? "bytes.__new__" (.ref a) true >>= _) _ _ _
    | (refine wpAny_bind ?_; show wpAny _ _ (Builtin.Bytes.buffer? "bytes.__new__" (.ref a) true >>= _) _ _ _)
  refine wpAny_bind (ba_buffer h ?_)
  dsimp only
  refine wpAny_bind (wpAny_rule (wpAny_bind (wpAny_mkBytes ?_ (by rw [sizeLine_eq]; omega))))
  show wpAny _ _ (if (Value.type "bytes" == Value.type "bytes") = true then _ else _) _ _ _
  refine bm_if_true (by decide) ?_
  first
    | exact wpAny_pure (hQ _ _)
    | exact wpAny_bind (wpAny_pure (wpAny_pure (hQ _ _)))
theorem bytes_of_ba {a : Addr} {b : Array UInt8} {Q : Value → Shared → Prop} (h : s.heap.get? a = some (baObj b)) (hz : b.size ≤ 1048577) (hQ : ∀ t tk, Q (.bytes b t) { s with toks := tk }) :
    wpAny (model prog w) A (call (.type "bytes") [.ref a]) Q E s := by
  refine callType_codes (Q₁ := fun obj s₁ => s₁.TypeIs obj "bytes" ∧ Q obj s₁) F.bm_called (F.bm_typeCall _) F.entry_object_init
    (bytes_of_ba_new h hz fun t tk => ⟨PySem.W.typeIs_bytes _ _ _, hQ t tk⟩) fun obj s₁ h₁ => ?_
  exact ⟨h₁.1, F.args_object_init_2 obj _, object_init_meets F.bm_called.init.lookup F.bm_called.made (by decide) prog w A.in1 _ s₁ ⟨h₁.1, rfl, h₁.2⟩⟩
end
end BloomP
end

noncomputable section
namespace BloomP
open Sem (wp)
/-- what is asked of the call: only at contexts that hold no decoder -/
noncomputable abbrev WalkI (q : Program) (loose : List Str) (XP : (Str → Option Value) → Heap → Prop) (YP : World → Heap → Prop) (r : RowW) : Prop :=
  ∀ (w : World) (s₀ s₁ : Shared) (mg mb : Str → Option Value), Ground q loose r.records XP w s₀ mg mb s₁.heap → YP w s₁.heap → s₁.gens = #[] →
    ∀ (args : List WData) (vals : List Value) (as : List Addr), r.claim.pre args = true → WData.layableAll args = true → ReadsAllW r.records (classAt s₀.heap) s₁.heap vals args as → WellAll w.params s₁.heap vals args → (∀ a ∈ as, (a == sysModules) = false) →
      ∀ f, mg r.name = some f → wpI (model r.prog w) callerA (PySem.call f vals) (fun v s' => GoodWG r.claim (classAt s₀.heap) (ExcName.means s₀.heap) args s₁ (.ok (.ret v)) s') s₁
noncomputable abbrev callerΓ : Ctx := ⟨.builtin "claim.caller" {}, none, none, [], none⟩
theorem wp_caller {M : Model} {t : Sem Fin} {R : Result → Shared → Prop} {s : Shared} (h : wpI M callerA t (fun fin s' => ∃ f, fin = .done f ∧ R (.ok f) s') s) :
    wp M callerΓ t (Sem.finPost M callerΓ R) (fun e _ s' => R (.error e) s') default s := by
  refine Sem.wp_mono M _ t (fun fin p' s' h' => ?_) (fun _ _ _ x => x.elim) default s (h callerΓ default caller_in (by decide +kernel) fun x hx => nomatch hx)
  obtain ⟨f, rfl, hf⟩ := h'
  exact hf
/-- the call's thread ends as the walk says -/
theorem thread_ends_I {prog : Program} {w : World} {t : Sem Fin} {s : Shared} {R : Result → Shared → Prop} (hz : s.asleep)
    (h : wpI (model prog w) callerA t (fun fin s' => ∃ f, fin = .done f ∧ (R (.ok f) s' ∧ leftWithCleanup s'.gens = false)) s) :
    ∃ n r s' s'', runN (denote table) prog w n s ⟨t, .builtin "claim.caller" {}, default, []⟩ = .halted (outcomeOf r) s' ∧
      schedN (denote table) prog w n (.single s ⟨t, .builtin "claim.caller" {}, default, []⟩) = .halted (outcomeOf r) s' ∧ s'.forget = s''.forget ∧ R r s'' := by
  obtain ⟨n, r, s₁, s₂, hs, hn, hfo, hR⟩ := wp_halts_full (M := model prog w) (R := R) hz (wp_caller (R := fun r s' => R r s' ∧ leftWithCleanup s'.gens = false) h)
  exact ⟨n, r, s₂, s₁, hn, hs, hfo, hR⟩
end BloomP

namespace BloomH
open BloomP
theorem PySem.W.holds_open {r : OpenRow} {q : Program} {loose : List Str} {Xt : Shared → Bool} {XP : (Str → Option Value) → Heap → Prop} {α : Type} {Yf : Shared → α} {Ya : World → α} {YP : World → Heap → Prop} {d : DefRec} {kwd : List (Str × Expr)} {N : Nat}
    (left : LeftO r.prog q loose Xt Yf Ya N) (hY : ∀ w s, Yf s = Ya w → YP w s.heap) (hYk : ∀ w h h', YP w h → (∀ b o, h.get? b = some o → h'.get? b = some o) → YP w h')
    (hX : ∀ s, Xt s = true → XP (s.heap.nsMap mainGlobals) s.heap) (hXk : ∀ mg h h', XP mg h → (∀ b o, h.get? b = some o → h'.get? b = some o) → XP mg h')
    (hdef : defOf q r.name = some (d, kwd)) (hp : r.prog.theDef r.name = some (d.params, d.body, d.scope)) (hk : kwWritten? d.params.kwonlyargs d.params.kw_defaults = some kwd) (hRf : ∀ s, Xt s = true → RecFacts r.records s.heap) (hwr : (!r.writes || r.records.isEmpty) = true)
    (k1 : r.wellSaid = true) (ok : (chainsOk q && opensWell r.prog && (frees r.toRowW && r.within.isEmpty)) = true) (hb : r.prog.bare) (hw : r.toRowW.promised)
    (call : WalkI q loose XP YP r.toRowW) : r.Holds := by
  obtain ⟨ok, k5⟩ := Bool.and_eq_true_iff.mp ok
  obtain ⟨hch, o1⟩ := Bool.and_eq_true_iff.mp ok
  obtain ⟨k5, k6⟩ := Bool.and_eq_true_iff.mp k5
  obtain ⟨hsame, hu, ha, hap, hm⟩ := frees_parts k5
  have hi := ident_freeW hu ha hap
  have hwi : r.claim.within = [] := List.isEmpty_iff.mp k6
  refine ⟨k1, hw, ⟨hb, o1, by show r.makers.map _ = []; rw [hm]; rfl⟩, hw.witness, fun w => ⟨(left.behind hX hch w).1, fun s' hs' => ?_⟩⟩
  obtain ⟨s₀, hf, hg0, s, hT, hz, hgens, hg, G00, y⟩ := (left.behind (XP := fun mg h => XP mg h ∧ RecFacts r.records h) (fun s hs => ⟨hX s hs, hRf s hs⟩) hch w).2 s' hs'
  have G0 : Ground q loose [] XP w s (s.heap.nsMap mainGlobals) (s.heap.nsMap builtinsNs) s.heap := ⟨G00.T, G00.B, G00.D, G00.TE, G00.TD, G00.W, G00.X.1, G00.cls, G00.has, G00.apart, G00.once, G00.K⟩
  have RF := G00.X.2
  have hgens : s.gens = #[] := Array.eq_empty_of_size_eq_zero (beq_iff_eq.mp hgens)
  have G : Ground q loose r.records XP w s _ _ s.heap := RF.ground G0
  refine ⟨s₀, hf, hg0, s, hT, fun n hn => ?_, RF.1, RF.2.1, ?_⟩
  · obtain rfl : n = r.name := by split at hn <;> simp_all
    exact pinned_of_view hg G0 hdef hp hk
  intro args hpre hlay ord hord
  obtain ⟨⟨vs, s₁⟩, hlaid⟩ := Option.isSome_iff_exists.mp (layAllW_isSome (P := w.params) (ord := ord) G.has args r.args s (pre_splitW hpre).1)
  have keeps := layAllW_keeps _ _ _ hlaid
  have hal := layAllW_rest _ _ _ hlaid
  obtain ⟨as, hrd, hin, hold⟩ := reads_layAllW hord _ _ _ hlaid hlay s₁.heap (fun _ _ e => e)
  have L : Laid r.records w s s₁ args vs as := ⟨⟨ord, hord, hlaid⟩, hrd, hin, hold, keeps, hal.1.trans hgens, hal.2.2.1⟩
  have G₁ := G.keeps hXk keeps
  obtain ⟨a, o, pm, cd, doc, dV, kV, h1, h2, h3, h4, h5⟩ := G₁.fn hdef
  have hname : s.heap.nsMap mainGlobals r.name = some (.ref a) := h1
  have body := call w s s₁ _ _ G₁ (hYk _ _ _ (hY w s y) keeps) L.gens args vs as hpre hlay L.reads L.well (L.low G.low) _ hname
  let kept : Heap → Prop := fun h' => r.writes = true → (namesKept r.prog r.keeps s.heap h' ∧ ∀ x ∈ r.records, ∀ a, classAt s.heap x.1 = some a → recordClass h' a x.1 (x.2.map (·.1)) = true)
  have tree : wpI (model r.prog w) callerA (do match ← nsGet mainNs r.name with
      | some f => do ret (← PySem.call f vs)
      | none => unsupported "claim.caller:no-such-global") (fun fin s' => ∃ f, fin = .done f ∧ ((r.claim.Ends s args vs s₁ (.ok f) s' ∧ s'.os = s.os ∧ kept s'.heap) ∧ leftWithCleanup s'.gens = false)) s₁ := by
    refine wpI_any (wpAny_nsGet G₁.T.g ?_)
    rw [hname]
    refine wpI_bind (wpI_mono body fun v s' g => wpI_pure ⟨_, rfl, ?_⟩)
    have z := g.laid (c := r.claim) hsame hwi hi L
    exact ⟨⟨z.1, z.2.1, fun q => ⟨namesKept_of hT hg r.keeps keeps g.2.1.old, noTable hwr q⟩⟩, leftWithCleanup_false_of_bare z.2.2⟩
  obtain ⟨k, res, s', s'', hrun, hsched, hfo, ⟨hcase, hos, hkp⟩⟩ := thread_ends_I (prog := r.prog) (w := w) (R := fun r' s' => r.claim.Ends s args vs s₁ r' s' ∧ s'.os = s.os ∧ kept s'.heap) (Shared.asleep_of_life hal.2.2.2 hz) tree
  obtain ⟨eh, _, _, eo, _⟩ := Shared.forget_eq hfo
  have hcase := hcase.congr eh
  rw [← eh] at hkp
  rw [← eo] at hos
  have hlife : s'.heap.life = s.heap.life := (runN_life _ _ _ hrun).trans hal.2.2.2
  refine ⟨vs, s₁, hlaid, k, _, s', hsched, ?_, (fun _ i x hx => by rw [hgens] at hx; simp at hx), hkp, by rw [hlife], Shared.rest_eq hos⟩
  rcases hcase with ⟨v, rfl, d1, d2, d3, d4, d5⟩ | ⟨e, ob, cls, rfl, d1, d2, d3, d4, d5⟩
  · exact .inl ⟨v, rfl, d1, d2, d3, fun b o y _ => d4 b o y, d5⟩
  · exact .inr ⟨e, ob, cls, rfl, d1, d2, d3, d4, fun b o y _ => d5 b o y⟩

set_option maxRecDepth 100000 in
set_option maxHeartbeats 8000000 in
open_top hd for PySem.Challenge.rw_nz0358_01
end BloomH
end

noncomputable section
namespace BloomP

/-- what a call of the top's tells of itself: `Post` speaks of what comes back and of the ledger behind it -/
noncomputable def Tell (w : World) (f : Addr) (vs : List Value) (d : Nat) (news : List (Addr × Obj)) (Post : Value → List (Addr × Obj) → Prop) : Prop :=
  ∀ (mean : ExcName → Option Value) (mg mb : Str → Option Value) (dp un : Nat) (gd : Option (List Code)) (cn : Str) (cs : Scope) (a : Addr) (ccd : Value) (cl : List (Str × Addr)) (outer : List Env) (A₀ : Around) (base h₀ : Heap) (L : Addr) (m : Str → Option Value) (s : Shared) (Q E : Value → Shared → Prop),
    Below A₀ base outer h₀ → Fr h₀ L s.heap m → (BloomH.hd.heap_39 w.params).In h₀ → News h₀ L s.heap news → Top BloomH.hd.view_39 (looseW BloomH.hd.view_39 []) mean mg mb h₀ → cs.kind = .function →
    dp + d < recursionLimit → un + 8 * d < cLine →
    (∀ r news' h' tk', Fr h₀ L h' m → News h₀ L h' news' → Post r news' → Q r { s with heap := h', toks := tk' }) →
      wpAny (model PySem.Challenge.rw_nz0358_01.row.prog w) (ktrTop dp un gd cn cs L a ccd cl outer) (call (.ref f) vs) Q E s
/-- the same, where the call makes a bytearray -/
noncomputable def TellI (w : World) (f : Addr) (vs : List Value) (d : Nat) (news : List (Addr × Obj)) (Post : Value → List (Addr × Obj) → Prop) : Prop :=
  ∀ (mean : ExcName → Option Value) (mg mb : Str → Option Value) (dp un : Nat) (gd : Option (List Code)) (cn : Str) (cs : Scope) (a : Addr) (ccd : Value) (cl : List (Str × Addr)) (outer : List Env) (A₀ : Around) (base h₀ : Heap) (L : Addr) (m : Str → Option Value) (s : Shared) (Q : Value → Shared → Prop),
    Below A₀ base outer h₀ → Fr h₀ L s.heap m → (BloomH.hd.heap_39 w.params).In h₀ → News h₀ L s.heap news → Top BloomH.hd.view_39 (looseW BloomH.hd.view_39 []) mean mg mb h₀ → cs.kind = .function →
    dp + d < recursionLimit → un + 8 * d < cLine →
    (∀ r news' h' tk', Fr h₀ L h' m → News h₀ L h' news' → Post r news' → Q r { s with heap := h', toks := tk' }) →
      wpI (model PySem.Challenge.rw_nz0358_01.row.prog w) (ktrTop dp un gd cn cs L a ccd cl outer) (call (.ref f) vs) Q s
theorem Tell.use {w : World} {f : Addr} {vs : List Value} {d : Nat} {news : List (Addr × Obj)} {Post : Value → List (Addr × Obj) → Prop} (h : Tell w f vs d news Post)
    {mean : ExcName → Option Value} {mg mb : Str → Option Value} {dp un : Nat} {gd : Option (List Code)} {cn : Str} {cs : Scope} {a : Addr} {ccd : Value} {cl : List (Str × Addr)} {outer : List Env} {A₀ : Around} {base h₀ : Heap} {L : Addr} {m : Str → Option Value} {s : Shared} {Q E : Value → Shared → Prop}
    (B : Below A₀ base outer h₀) (F : Fr h₀ L s.heap m) (X : (BloomH.hd.heap_39 w.params).In h₀) (N : News h₀ L s.heap news) (T : Top BloomH.hd.view_39 (looseW BloomH.hd.view_39 []) mean mg mb h₀) (hk : cs.kind = .function)
    (hd : dp + d < recursionLimit) (hu : un + 8 * d < cLine) (hret : ∀ r news' h' tk', Fr h₀ L h' m → News h₀ L h' news' → Post r news' → Q r { s with heap := h', toks := tk' }) :
    wpAny (model PySem.Challenge.rw_nz0358_01.row.prog w) (ktrTop dp un gd cn cs L a ccd cl outer) (call (.ref f) vs) Q E s :=
  h _ _ _ _ _ _ _ _ _ _ _ _ _ _ _ _ _ _ _ _ B F X N T hk hd hu hret
theorem TellI.use {w : World} {f : Addr} {vs : List Value} {d : Nat} {news : List (Addr × Obj)} {Post : Value → List (Addr × Obj) → Prop} (h : TellI w f vs d news Post)
    {mean : ExcName → Option Value} {mg mb : Str → Option Value} {dp un : Nat} {gd : Option (List Code)} {cn : Str} {cs : Scope} {a : Addr} {ccd : Value} {cl : List (Str × Addr)} {outer : List Env} {A₀ : Around} {base h₀ : Heap} {L : Addr} {m : Str → Option Value} {s : Shared} {Q : Value → Shared → Prop}
    (B : Below A₀ base outer h₀) (F : Fr h₀ L s.heap m) (X : (BloomH.hd.heap_39 w.params).In h₀) (N : News h₀ L s.heap news) (T : Top BloomH.hd.view_39 (looseW BloomH.hd.view_39 []) mean mg mb h₀) (hk : cs.kind = .function)
    (hd : dp + d < recursionLimit) (hu : un + 8 * d < cLine) (hret : ∀ r news' h' tk', Fr h₀ L h' m → News h₀ L h' news' → Post r news' → Q r { s with heap := h', toks := tk' }) :
    wpI (model PySem.Challenge.rw_nz0358_01.row.prog w) (ktrTop dp un gd cn cs L a ccd cl outer) (call (.ref f) vs) Q s :=
  h _ _ _ _ _ _ _ _ _ _ _ _ _ _ _ _ _ _ _ B F X N T hk hd hu hret
/-- to be taken up again by hand: the walk stops here -/
noncomputable def Hold (P : Prop) : Prop := P
theorem hold {P : Prop} (h : Hold P) : P := h

/-- the probes that a number of bits a key gives -/
noncomputable def pr (b : Int) : Int := if (b * 69).fdiv 100 < 1 then 1 else if 30 < (b * 69).fdiv 100 then 30 else (b * 69).fdiv 100
noncomputable abbrev bloomD (w : World) (b p : Int) (t1 t2 t3 t4 : Tok) : Obj :=
  dictOf [⟨PyData.keyHash w.params (Str.ofString "bits"), .str (Str.ofString "bits") t1, .int b t2⟩, ⟨PyData.keyHash w.params (Str.ofString "probes"), .str (Str.ofString "probes") t3, .int p t4⟩] 2
/-! octets -/
section
variable {prog : Program} {w : World} {A : Around} {E : Value → Shared → Prop} {s : Shared}
theorem len_oct {b : Array UInt8} {t : Tok} {Q : Value → Shared → Prop} (h : Q (.int (b.size : Nat) (s.toks + 1)) { s with toks := s.toks + 1 + 1 }) (hz : b.size ≤ 1048577 := by first | with_reducible assumption | omega) : wpAny (model prog w) A (call (.builtin "len") [.bytes b t]) Q E s :=
  len_bytes (by omega) h
theorem item_oct {value slice : Expr} {b : Array UInt8} {i : Int} {t u : Tok} {Q : Value → Shared → Prop} (h : Q (.int (oct b i) s.toks) { s with toks := s.toks + 1 }) (hz : b.size ≤ 1048577 := by first | with_reducible assumption | omega)
    (h0 : 0 ≤ i := by first | with_reducible assumption | omega) (h1 : i < (b.size : Int) := by first | with_reducible assumption | omega)
    (hs : subscripted slice false (.bytes b t) (.int i u) = operate [.bytes b t, .int i u] (getItem (.bytes b t) (.int i u)) := by with_unfolding_all rfl) :
    wpAny (model prog w) A (subscriptTail value slice (.bytes b t) (.int i u)) Q E s := by
  obtain ⟨l⟩ := b
  have e : oct ⟨l⟩ i = ((l.getD i.toNat 0).toNat : Int) := by simp [oct, Array.getD_eq_getD_getElem?, List.getD_eq_getElem?_getD]
  rw [e] at h
  exact tail_any (typeIs_bytes _ _ _) FB.slot_bytes_getitem.lookup (getItem_bytes (l := l) (by have : l.length = (Array.mk l).size := rfl; omega) h0 h1 h) hs

theorem oct_abs (b : Array UInt8) (i : Int) : (oct b i).natAbs < 2 ^ 64 := by
  have h0 := oct_nonneg b i
  have h1 := oct_lt b i
  omega
theorem lsh_oct {x n : Int} {t u : Tok} {Q : Value → Shared → Prop} (h : Q (.int (x * 2 ^ n.toNat) s.toks) { s with toks := s.toks + 1 }) (h0 : 0 ≤ n := by first | decide | omega) (h1 : n ≤ 1000000 := by first | decide | omega)
    (h2 : x.natAbs < 2 ^ 64 := by first | decide | omega | with_reducible exact oct_abs _ _) : wpAny (model prog w) A (binaryOp .LShift (.int x t) (.int n u)) Q E s := lshift_int_small h0 h1 h2 h
theorem bitOr_nn {x y : Int} (hx : 0 ≤ x) (hy : 0 ≤ y) : Builtin.bitOr x y = ((x.toNat ||| y.toNat : Nat) : Int) := by
  have e : ∀ z : Int, 0 ≤ z → Builtin.bitNot (Builtin.bitNot z) = z := fun z _ => by unfold Builtin.bitNot; omega
  have n : ∀ z : Int, 0 ≤ z → decide (0 ≤ Builtin.bitNot z) = false := fun z hz => by unfold Builtin.bitNot; simp; omega
  unfold Builtin.bitOr Builtin.bitAnd
  rw [n x hx, n y hy]
  show Builtin.bitNot (Builtin.bitNot _) = _
  rw [e _ (Int.natCast_nonneg _), e x hx, e y hy]
theorem bitOr_range {x y : Int} (k : Nat) (hx : 0 ≤ x) (hy : 0 ≤ y) (hx1 : x < 2 ^ k) (hy1 : y < 2 ^ k) : 0 ≤ Builtin.bitOr x y ∧ Builtin.bitOr x y < 2 ^ k := by
  rw [bitOr_nn hx hy]
  refine ⟨Int.natCast_nonneg _, ?_⟩
  have h1 : x.toNat < 2 ^ k := by rw [← Int.ofNat_lt, Int.toNat_of_nonneg hx]; exact_mod_cast hx1
  have h2 : y.toNat < 2 ^ k := by rw [← Int.ofNat_lt, Int.toNat_of_nonneg hy]; exact_mod_cast hy1
  exact_mod_cast Nat.or_lt_two_pow h1 h2
end
end BloomP
end

noncomputable section
namespace BloomP
/-! the walk's lines -/
local macro_rules | `(tactic| walk_at "call builtin:len") => `(tactic| (k_here; (with_reducible refine len_oct ?_); (try dsimp only)))
local macro_rules | `(tactic| walk_at "subscriptTail") => `(tactic| (k_here; (with_reducible refine item_oct ?_); (try dsimp only)))
local macro_rules | `(tactic| walk_at "binaryOp LShift int int") => `(tactic| (k_here; (with_reducible refine lsh_oct ?_); (try dsimp only)))
local macro_rules | `(tactic| walk_at "pyIter ref") => `(tactic| refine hold ?_)
/-! end of the lines -/
theorem anew1 : True ∧ True := by
  w_top off
  first | (walk1; done) | exact ⟨trivial, trivial⟩
section
/-! four octets as one number -/
noncomputable def rf (a : Array UInt8) (k : Int) : Int :=
  Builtin.bitOr (Builtin.bitOr (Builtin.bitOr (oct a k) (oct a (k + 1) * 2 ^ 8)) (oct a (k + 2) * 2 ^ 16)) (oct a (k + 3) * 2 ^ 24)
theorem rf_range (a : Array UInt8) (k : Int) : 0 ≤ rf a k ∧ rf a k < 2 ^ 32 := by
  have h0 := oct_nonneg a k
  have h1 := oct_nonneg a (k + 1)
  have h2 := oct_nonneg a (k + 2)
  have h3 := oct_nonneg a (k + 3)
  have g0 := oct_lt a k
  have g1 := oct_lt a (k + 1)
  have g2 := oct_lt a (k + 2)
  have g3 := oct_lt a (k + 3)
  have r1 := bitOr_range 32 h0 (y := oct a (k + 1) * 2 ^ 8) (by omega) (by omega) (by omega)
  have r2 := bitOr_range 32 r1.1 (y := oct a (k + 2) * 2 ^ 16) (by omega) r1.2 (by omega)
  exact bitOr_range 32 r2.1 (y := oct a (k + 3) * 2 ^ 24) (by omega) r2.2 (by omega)

set_option maxRecDepth 100000 in
set_option maxHeartbeats 8000000 in
theorem rf_tells (w : World) (a : Array UInt8) (t t2 : Tok) (k : Int) (news : List (Addr × Obj)) (h0 : 0 ≤ k) (h1 : k + 4 ≤ (a.size : Int)) (h2 : a.size ≤ 1048577) : Tell w 82 [.bytes a t, .int k t2] 1 news (fun r news' => news' = news ∧ ∃ t, r = .int (rf a k) t) := by
  unfold Tell
  k_fill
  intro mean mg mb dp un gd cn cs aa ccd cl outer A₀ base h₀ L m s Q E B F X N T hk hd hu hret
  refine wpAny_call ?_
  k_dflt cell_enter
  k_steps
  exact hret _ _ _ _ (by k_asm) (by k_asm) ⟨rfl, _, rfl⟩

local macro_rules | `(tactic| walk_at "exec While Compare cons nil") => `(tactic| refine hold ?_)
theorem rf_call {w : World} {mean : ExcName → Option Value} {mg mb : Str → Option Value} {dp un : Nat} {gd : Option (List Code)} {cn : Str} {cs : Scope} {aa : Addr} {ccd : Value} {cl : List (Str × Addr)} {outer : List Env} {A₀ : Around} {base h₀ : Heap} {L : Addr} {m : Str → Option Value} {s : Shared} {Q E : Value → Shared → Prop} {news : List (Addr × Obj)} {a : Array UInt8} {ta tb : Tok} {k : Int}
    (hret : ∀ t h' tk', Fr h₀ L h' m → News h₀ L h' news → Q (.int (rf a k) t) { s with heap := h', toks := tk' })
    (B : Below A₀ base outer h₀ := by k_asm) (F : Fr h₀ L s.heap m := by k_asm) (X : (BloomH.hd.heap_39 w.params).In h₀ := by k_asm) (N : News h₀ L s.heap news := by k_asm) (T : Top BloomH.hd.view_39 (looseW BloomH.hd.view_39 []) mean mg mb h₀ := by k_asm)
    (h0 : 0 ≤ k := by omega) (h1 : k + 4 ≤ (a.size : Int) := by omega) (h2 : a.size ≤ 1048577 := by omega) (hk : cs.kind = .function := by exact rfl) (hd : dp + 1 < recursionLimit := by ktr_room) (hu : un + 8 * 1 < cLine := by ktr_units) :
    wpAny (model PySem.Challenge.rw_nz0358_01.row.prog w) (ktrTop dp un gd cn cs L aa ccd cl outer) (call (.ref 82) [.bytes a ta, .int k tb]) Q E s :=
  (rf_tells w a ta tb k news h0 h1 h2).use B F X N T hk hd hu fun r n' h' tk' F' N' p => by
    obtain ⟨rfl, t, rfl⟩ := p
    exact hret t h' tk' F' N'
local macro_rules | `(tactic| walk_at "call ref") => `(tactic| (k_here; (with_reducible show wpAny _ _ (call (Value.ref 82) _) _ _ _); (k_dflt refine rf_call ?_); intro t9 h9 tk9 F9 N9; (try dsimp only); (try k_fold)))
/-- the hash's state behind k words -/
noncomputable def hl (a : Array UInt8) : Nat → Int
  | 0 => Builtin.bitXor 3164544308 (Builtin.bitAnd ((a.size : Int) * 3332679571) 4294967295)
  | k + 1 => Builtin.bitXor (Builtin.bitAnd ((hl a k + rf a (4 * (k : Int))) * 3332679571) 4294967295) (Int.fdiv (Builtin.bitAnd ((hl a k + rf a (4 * (k : Int))) * 3332679571) 4294967295) (2 ^ 16))
theorem bitXor_range {x y : Int} (k : Nat) (hx : 0 ≤ x) (hy : 0 ≤ y) (hx1 : x < 2 ^ k) (hy1 : y < 2 ^ k) : 0 ≤ Builtin.bitXor x y ∧ Builtin.bitXor x y < 2 ^ k := by
  have a1 := bitAnd_range x hy
  have a2 := bitAnd_range y hx
  rw [bitAnd_comm] at a2
  have o := bitOr_range k hx hy hx1 hy1
  refine ⟨?_, ?_⟩
  · rw [bitXor_and]; omega
  · unfold Builtin.bitXor; omega
theorem and32_range (x : Int) : 0 ≤ Builtin.bitAnd x 4294967295 ∧ Builtin.bitAnd x 4294967295 < 2 ^ 32 := by
  have := bitAnd_range x (y := 4294967295) (by decide)
  omega
theorem fold_range (x : Int) (j : Nat) : 0 ≤ Builtin.bitXor (Builtin.bitAnd x 4294967295) (Int.fdiv (Builtin.bitAnd x 4294967295) (2 ^ j)) ∧ Builtin.bitXor (Builtin.bitAnd x 4294967295) (Int.fdiv (Builtin.bitAnd x 4294967295) (2 ^ j)) < 2 ^ 32 := by
  have h := and32_range x
  have hp : (0 : Int) < 2 ^ j := kbt_pos j
  have e : Int.fdiv (Builtin.bitAnd x 4294967295) (2 ^ j) = Builtin.bitAnd x 4294967295 / 2 ^ j := Int.fdiv_eq_ediv_of_nonneg _ (Int.le_of_lt hp)
  rw [e]
  have h1 := Int.ediv_nonneg h.1 (Int.le_of_lt hp)
  have h2 : Builtin.bitAnd x 4294967295 / 2 ^ j ≤ Builtin.bitAnd x 4294967295 := Int.ediv_le_self _ h.1
  exact bitXor_range 32 h.1 h1 h.2 (Int.lt_of_le_of_lt h2 h.2)
theorem hl_range (a : Array UInt8) : ∀ k, 0 ≤ hl a k ∧ hl a k < 2 ^ 32
  | 0 => bitXor_range 32 (by decide) (and32_range _).1 (by decide) (and32_range _).2
  | k + 1 => fold_range _ 16
noncomputable def bhFin (x : Int) : Int := Builtin.bitXor (Builtin.bitAnd (x * 3332679571) 4294967295) (Int.fdiv (Builtin.bitAnd (x * 3332679571) 4294967295) (2 ^ 24))
/-- a key's hash -/
noncomputable def bh (a : Array UInt8) : Int :=
  if a.size % 4 = 3 then bhFin (hl a (a.size / 4) + oct a (4 * ((a.size / 4 : Nat) : Int) + 2) * 2 ^ 16 + oct a (4 * ((a.size / 4 : Nat) : Int) + 1) * 2 ^ 8 + oct a (4 * ((a.size / 4 : Nat) : Int)))
  else if a.size % 4 = 2 then bhFin (hl a (a.size / 4) + oct a (4 * ((a.size / 4 : Nat) : Int) + 1) * 2 ^ 8 + oct a (4 * ((a.size / 4 : Nat) : Int)))
  else if a.size % 4 = 1 then bhFin (hl a (a.size / 4) + oct a (4 * ((a.size / 4 : Nat) : Int)))
  else hl a (a.size / 4)
theorem bh_range (a : Array UInt8) : 0 ≤ bh a ∧ bh a < 2 ^ 32 := by
  unfold bh
  split
  · exact fold_range _ 24
  · split
    · exact fold_range _ 24
    · split
      · exact fold_range _ 24
      · exact hl_range a _
theorem bh3 (a : Array UInt8) (k : Nat) (h : (a.size : Int) - 4 * (k : Int) = 3) : bhFin (hl a k + oct a (4 * (k : Int) + 2) * 2 ^ 16 + oct a (4 * (k : Int) + 1) * 2 ^ 8 + oct a (4 * (k : Int))) = bh a := by
  obtain rfl : k = a.size / 4 := by omega
  unfold bh
  rw [if_pos (by omega)]
theorem bh2 (a : Array UInt8) (k : Nat) (h : (a.size : Int) - 4 * (k : Int) = 2) : bhFin (hl a k + oct a (4 * (k : Int) + 1) * 2 ^ 8 + oct a (4 * (k : Int))) = bh a := by
  obtain rfl : k = a.size / 4 := by omega
  unfold bh
  rw [if_neg (by omega), if_pos (by omega)]
theorem bh1 (a : Array UInt8) (k : Nat) (h : (a.size : Int) - 4 * (k : Int) = 1) : bhFin (hl a k + oct a (4 * (k : Int))) = bh a := by
  obtain rfl : k = a.size / 4 := by omega
  unfold bh
  rw [if_neg (by omega), if_neg (by omega), if_pos (by omega)]
theorem bh0 (a : Array UInt8) (k : Nat) (h : (a.size : Int) - 4 * (k : Int) = 0) : hl a k = bh a := by
  obtain rfl : k = a.size / 4 := by omega
  unfold bh
  rw [if_neg (by omega), if_neg (by omega), if_neg (by omega)]
set_option maxRecDepth 100000 in
set_option maxHeartbeats 8000000 in
theorem hash_tells (w : World) (a : Array UInt8) (t : Tok) (news : List (Addr × Obj)) (h2 : a.size ≤ 1048576) : Tell w 89 [.bytes a t] 2 news (fun r news' => news' = news ∧ ∃ t, r = .int (bh a) t) := by
  unfold Tell
  k_fill
  intro mean mg mb dp un gd cn cs aa ccd cl outer A₀ base h₀ L m s Q E B F X N T hk hd hu hret
  refine wpAny_call ?_
  k_dflt cell_enter
  k_steps
  unfold Hold
  rename Fr _ _ _ _ => lF
  rename News _ _ _ _ => lN
  refine' ksw_while (fun _ => news) (fun c : Nat × Int × Tok × Tok => [(Str.ofString "h", .int (hl a c.1) c.2.2.1), (Str.ofString "at", .int c.2.1 c.2.2.2)]) (fun _ => True) [] (fun c => 4 * c.1 ≤ a.size ∧ c.2.1 = 4 * (c.1 : Int)) (fun c => a.size - 4 * c.1) (0, 0, _, _) lF lN trivial ?kk ?kp ?kt
  case kk => kst_all
  case kp => exact ⟨Nat.zero_le _, rfl⟩
  case kt =>
  rintro ⟨k, i, th, ta⟩ u h tk' - hk4 F4 N4
  dsimp only [kstB] at F4
  dsimp only at hk4
  obtain ⟨hk4, e4⟩ := hk4
  subst e4
  clear lF lN
  k_fold
  k_steps
  all_goals try exact hret _ _ _ _ (by k_asm) (by k_asm) ⟨rfl, _, congrArg (Value.int · _) (bh3 a k (by omega))⟩
  all_goals try exact hret _ _ _ _ (by k_asm) (by k_asm) ⟨rfl, _, congrArg (Value.int · _) (bh2 a k (by omega))⟩
  all_goals try exact hret _ _ _ _ (by k_asm) (by k_asm) ⟨rfl, _, congrArg (Value.int · _) (bh1 a k (by omega))⟩
  all_goals try exact hret _ _ _ _ (by k_asm) (by k_asm) ⟨rfl, _, congrArg (Value.int · _) (bh0 a k (by omega))⟩
  refine' ksw_end (k + 1, _, _, _) (by k_asm) (by k_asm) (fun p h => h) trivial ?kk (by ksw_same) ⟨by omega, ?ki⟩ (by dsimp only; omega)
  case kk => kst_all
  case ki => dsimp only; omega
theorem hash_call {w : World} {mean : ExcName → Option Value} {mg mb : Str → Option Value} {dp un : Nat} {gd : Option (List Code)} {cn : Str} {cs : Scope} {aa : Addr} {ccd : Value} {cl : List (Str × Addr)} {outer : List Env} {A₀ : Around} {base h₀ : Heap} {L : Addr} {m : Str → Option Value} {s : Shared} {Q E : Value → Shared → Prop} {news : List (Addr × Obj)} {a : Array UInt8} {ta : Tok}
    (hret : ∀ t h' tk', Fr h₀ L h' m → News h₀ L h' news → Q (.int (bh a) t) { s with heap := h', toks := tk' })
    (B : Below A₀ base outer h₀ := by k_asm) (F : Fr h₀ L s.heap m := by k_asm) (X : (BloomH.hd.heap_39 w.params).In h₀ := by k_asm) (N : News h₀ L s.heap news := by k_asm) (T : Top BloomH.hd.view_39 (looseW BloomH.hd.view_39 []) mean mg mb h₀ := by k_asm)
    (h2 : a.size ≤ 1048576 := by omega) (hk : cs.kind = .function := by exact rfl) (hd : dp + 2 < recursionLimit := by ktr_room) (hu : un + 8 * 2 < cLine := by ktr_units) :
    wpAny (model PySem.Challenge.rw_nz0358_01.row.prog w) (ktrTop dp un gd cn cs L aa ccd cl outer) (call (.ref 89) [.bytes a ta]) Q E s :=
  (hash_tells w a ta news h2).use B F X N T hk hd hu fun r n' h' tk' F' N' p => by
    obtain ⟨rfl, t, rfl⟩ := p
    exact hret t h' tk' F' N'
end

theorem anew2 : True ∧ True := by
  w_top off
  first | (walk1; done) | exact ⟨trivial, trivial⟩
section
set_option maxRecDepth 100000 in
set_option maxHeartbeats 8000000 in
theorem init_tells (w : World) (b : Int) (t : Tok) (news : List (Addr × Obj)) (h1 : 1 ≤ b) (h2 : b ≤ 1048576) : Tell w 120 [.int b t] 3 news (fun r news' => ∃ x dx p t1 t2 t3, r = .ref x ∧ p = pr b ∧ news' = (x, instObj 120 dx) :: (dx, bloomD w b p t1 t t2 t3) :: news ∧ (∀ q ∈ news, @LT.lt Nat _ q.1 dx) ∧ @LT.lt Nat _ dx x) := by
  unfold Tell
  k_fill
  intro mean mg mb dp un gd cn cs aa ccd cl outer A₀ base h₀ L m s Q E B F X N T hk hd hu hret
  k_dflt (refine' call_cls ?k1 ?k2 ?k3 ?k4 ?k5 ?k6 ?_; (case k1 => k_asm); (case k2 => k_asm); (case k3 => k_asm); (case k4 => k_is); (case k5 => k_is); (case k6 => k_is); intro x' d' h' F' N' l1 l2; k_lt2 l2)
  have kMark := kstMark
  k_dflt cell_enter
  k_steps
  all_goals exact hret _ _ _ _ (by k_asm) (by k_asm) ⟨x', d', _, _, _, _, rfl, by (unfold pr; (repeat' split) <;> omega), rfl, l1, l2⟩
theorem init_call {w : World} {mean : ExcName → Option Value} {mg mb : Str → Option Value} {dp un : Nat} {gd : Option (List Code)} {cn : Str} {cs : Scope} {aa : Addr} {ccd : Value} {cl : List (Str × Addr)} {outer : List Env} {A₀ : Around} {base h₀ : Heap} {L : Addr} {m : Str → Option Value} {s : Shared} {Q E : Value → Shared → Prop} {news : List (Addr × Obj)} {b : Int} {tb : Tok}
    (hret : ∀ x dx t1 t2 t3 h' tk', Fr h₀ L h' m → News h₀ L h' ((x, instObj 120 dx) :: (dx, bloomD w b (pr b) t1 tb t2 t3) :: news) → (∀ q ∈ news, @LT.lt Nat _ q.1 dx) → @LT.lt Nat _ dx x → Q (.ref x) { s with heap := h', toks := tk' })
    (B : Below A₀ base outer h₀ := by k_asm) (F : Fr h₀ L s.heap m := by k_asm) (X : (BloomH.hd.heap_39 w.params).In h₀ := by k_asm) (N : News h₀ L s.heap news := by k_asm) (T : Top BloomH.hd.view_39 (looseW BloomH.hd.view_39 []) mean mg mb h₀ := by k_asm)
    (h1 : 1 ≤ b := by omega) (h2 : b ≤ 1048576 := by omega) (hk : cs.kind = .function := by exact rfl) (hd : dp + 3 < recursionLimit := by ktr_room) (hu : un + 8 * 3 < cLine := by ktr_units) :
    wpAny (model PySem.Challenge.rw_nz0358_01.row.prog w) (ktrTop dp un gd cn cs L aa ccd cl outer) (call (.ref 120) [.int b tb]) Q E s :=
  (init_tells w b tb news h1 h2).use B F X N T hk hd hu fun r n' h' tk' F' N' p => by
    obtain ⟨x, dx, _, t1, t2, t3, rfl, rfl, rfl, l1, l2⟩ := p
    exact hret x dx t1 t2 t3 h' tk' F' N' l1 l2
end

theorem anew3 : True ∧ True := by
  w_top off
  first | (walk1; done) | exact ⟨trivial, trivial⟩
section
local macro_rules | `(tactic| walk_at "call ref") => `(tactic| (k_here; (with_reducible show wpAny _ _ (call (Value.ref 89) _) _ _ _); (k_dflt refine hash_call ?_); intro t9 h9 tk9 F9 N9; (try dsimp only); (try k_fold)))
/-- the step between the places -/
noncomputable def dl (key : Array UInt8) : Int := Builtin.bitAnd (Builtin.bitOr (Int.fdiv (bh key) (2 ^ 17)) (bh key * 2 ^ 15)) 4294967295
noncomputable def hs (key : Array UInt8) : Nat → Int
  | 0 => bh key
  | k + 1 => Builtin.bitAnd (hs key k + dl key) 4294967295
theorem hs_range (key : Array UInt8) : ∀ k, 0 ≤ hs key k ∧ hs key k < 2 ^ 32
  | 0 => bh_range key
  | k + 1 => and32_range _
theorem dl_range (key : Array UInt8) : 0 ≤ dl key ∧ dl key < 2 ^ 32 := and32_range _
/-- the k-th place of a key among so many lamps -/
noncomputable def pl (key : Array UInt8) (wide : Int) (k : Nat) : Int := Int.fmod (hs key k) wide
noncomputable abbrev litAt (held : Array UInt8) (p : Int) : Prop := ¬ Builtin.bitAnd (oct held (Int.fdiv p 8)) (1 * 2 ^ (Int.fmod p 8).toNat) = 0
noncomputable def mayB (key held : Array UInt8) : Bool :=
  if (held.size : Int) < 2 then false else if 30 < oct held ((held.size : Int) - 1) then true
  else decide (∀ i < (oct held ((held.size : Int) - 1)).toNat, litAt held (pl key (((held.size : Int) - 1) * 8) i))
theorem div8_range {x n : Int} (h0 : 0 ≤ x) (h1 : x < n * 8) : 0 ≤ Int.fdiv x 8 ∧ Int.fdiv x 8 < n ∧ 0 ≤ Int.fmod x 8 ∧ Int.fmod x 8 < 8 := by
  have e : Int.fdiv x 8 = x / 8 := Int.fdiv_eq_ediv_of_nonneg _ (by decide)
  have e2 : Int.fmod x 8 = x % 8 := Int.fmod_eq_emod_of_nonneg _ (by decide)
  rw [e, e2]
  omega
theorem pl_range (key : Array UInt8) (wide : Int) (k : Nat) (h : 0 < wide) : 0 ≤ pl key wide k ∧ pl key wide k < wide := ⟨Int.fmod_nonneg_of_pos _ h, Int.fmod_lt_of_pos _ h⟩
set_option maxRecDepth 100000 in
set_option maxHeartbeats 8000000 in
theorem may_tells (w : World) (self : Value) (key held : Array UInt8) (t t' : Tok) (news : List (Addr × Obj)) (hk1 : key.size ≤ 1048576) (hh1 : held.size ≤ 1048576) (hh2 : held.size ≤ 1048577) : Tell w 117 [self, .bytes key t, .bytes held t'] 3 news (fun r news' => news' = news ∧ r = .bool (mayB key held)) := by
  unfold Tell
  k_fill
  intro mean mg mb dp un gd cn cs aa ccd cl outer A₀ base h₀ L m s Q E B F X N T hk hd hu hret
  have hb := bh_range key
  refine wpAny_call ?_
  k_dflt cell_enter
  k_steps
  case _ =>
    have e : mayB key held = false := by unfold mayB; rw [if_pos (by assumption)]
    rw [← e]
    exact hret _ _ _ _ (by k_asm) (by k_asm) ⟨rfl, rfl⟩
  case _ =>
    have e : mayB key held = true := by unfold mayB; rw [if_neg (by assumption), if_pos (by assumption)]
    rw [← e]
    exact hret _ _ _ _ (by k_asm) (by k_asm) ⟨rfl, rfl⟩
  unfold Hold
  rename ¬ ((held.size : Int) < 2) => a1
  rename ¬ (30 < oct held _) => a2
  rename IsRange _ _ _ _ _ _ _ _ => rg
  have o0 := oct_nonneg held ((held.size : Int) - 1)
  rename Fr _ _ _ _ => lF
  rename News _ _ _ _ => lN
  clear hb
  obtain ⟨O, hO⟩ : ∃ O, Hold (O = oct held ((held.size : Int) - 1)) := ⟨_, hold rfl⟩
  have hO' : oct held ((held.size : Int) - 1) = O := Eq.symm hO
  rw [hO'] at a2 rg o0 lF
  clear hO'
  refine' kst_range (fun _ => news) (fun c : Nat × Tok × Tok => [(Str.ofString "h", .int (hs key c.1) c.2.1), (Str.ofString "delta", .int (dl key) c.2.2)]) (fun _ => True) [Str.ofString "place"] (fun pre c => c.1 = pre.length ∧ ∀ i < c.1, litAt held (pl key (((held.size : Int) - 1) * 8) i)) (0, _, _) (by rfl) rg (small_one (by omega) (by omega) (by omega) (by omega)) (rangeSize_nat _ _) lF lN trivial ?kk ?kp ?kt ?kd
  case kk => kst_all
  case kp => exact ⟨rfl, fun i h => absurd h (Nat.not_lt_zero _)⟩
  case kd =>
    rintro ⟨k, th, td⟩ u h tk - ⟨hk4, hk5⟩ F4 N4
    dsimp only [kstB] at F4 hk4 hk5
    clear lF lN
    try k_fold
    k_steps
    have e : mayB key held = true := by
      unfold mayB
      rw [← show O = _ from hO, if_neg a1, if_neg a2]
      refine decide_eq_true fun i hi => hk5 i ?_
      rw [hk4, rangeKs_length]
      omega
    rw [← e]
    exact hret _ _ _ _ (by k_asm) (by k_asm) ⟨rfl, rfl⟩
  case kt =>
  rintro ⟨k, th, td⟩ pre i ti u h tk own ei hi ho - ⟨hk4, hk5⟩ F4 N4
  dsimp only [kstB] at F4 hk4 hk5
  clear lF lN
  subst hk4
  have hp := pl_range key (((held.size : Int) - 1) * 8) pre.length (by omega)
  have hq := div8_range hp.1 hp.2
  unfold pl at hp hq
  obtain ⟨H, hH⟩ : ∃ H, Hold (H = hs key pre.length) := ⟨_, hold rfl⟩
  have hH' : hs key pre.length = H := Eq.symm hH
  rw [hH'] at F4 hp hq
  clear hH'
  obtain ⟨D, hD⟩ : ∃ D, Hold (D = dl key) := ⟨_, hold rfl⟩
  have hD' : dl key = D := Eq.symm hD
  rw [hD'] at F4
  clear hD'
  obtain ⟨q1, q2, q3, q4⟩ := hq
  have q2' : Int.fdiv (Int.fmod H (((held.size : Int) - 1) * 8)) 8 < (held.size : Int) := by omega
  try k_fold
  k_steps
  case _ =>
    rename Builtin.bitAnd _ _ = 0 => a4
    rename News h₀ _ _ (news ++ own) => kN
    have e : mayB key held = false := by
      unfold mayB
      rw [← show O = _ from hO, if_neg a1, if_neg a2]
      refine decide_eq_false fun hall => ?_
      have := hall pre.length (by omega)
      unfold litAt pl at this
      rw [← show H = _ from hH] at this
      exact this a4
    rw [← e]
    exact hret _ news _ _ (by k_asm) (kst_newsOf kN (fun p hp => List.mem_append_left _ hp)) ⟨rfl, rfl⟩
  rename Builtin.bitAnd _ _ ≠ 0 => a4
  have eH : H = hs key pre.length := hH
  have eD : D = dl key := hD
  clear hH hD
  subst eH eD
  refine' kst_end (pre.length + 1, _, _) (by k_asm) (by k_asm) (fun p hp => List.mem_append_left _ hp) (fun p hp => List.mem_append_right _ hp) rfl trivial ?kk ?kr ⟨by simp, ?kl⟩
  case kl =>
    intro j hj
    rcases Nat.lt_succ_iff_lt_or_eq.mp hj with hj | rfl
    · exact hk5 j hj
    · exact a4
  case kk => kst_all
  case kr =>
    intro z h1 h2 h3
    have h4 := h2 _ (.head _)
    have h5 := h2 _ (.tail _ (.head _))
    clear h2
    dsimp only at h4 h5
    simp only [List.contains_cons, List.contains_nil, Bool.or_false, beq_eq_false_iff_ne, ne_eq] at h3
    simp [h1, h3, h4, h5]
theorem may_call {w : World} {mean : ExcName → Option Value} {mg mb : Str → Option Value} {dp un : Nat} {gd : Option (List Code)} {cn : Str} {cs : Scope} {aa : Addr} {ccd : Value} {cl : List (Str × Addr)} {outer : List Env} {A₀ : Around} {base h₀ : Heap} {L : Addr} {m : Str → Option Value} {s : Shared} {Q E : Value → Shared → Prop} {news : List (Addr × Obj)} {self : Value} {key held : Array UInt8} {t t' : Tok}
    (hret : ∀ h' tk', Fr h₀ L h' m → News h₀ L h' news → Q (.bool (mayB key held)) { s with heap := h', toks := tk' })
    (B : Below A₀ base outer h₀ := by k_asm) (F : Fr h₀ L s.heap m := by k_asm) (X : (BloomH.hd.heap_39 w.params).In h₀ := by k_asm) (N : News h₀ L s.heap news := by k_asm) (T : Top BloomH.hd.view_39 (looseW BloomH.hd.view_39 []) mean mg mb h₀ := by k_asm)
    (h1 : key.size ≤ 1048576 := by omega) (h2 : held.size ≤ 1048576 := by first | omega | exact Nat.zero_le _) (hk : cs.kind = .function := by exact rfl) (hd : dp + 3 < recursionLimit := by ktr_room) (hu : un + 8 * 3 < cLine := by ktr_units) :
    wpAny (model PySem.Challenge.rw_nz0358_01.row.prog w) (ktrTop dp un gd cn cs L aa ccd cl outer) (call (.ref 117) [self, .bytes key t, .bytes held t']) Q E s :=
  (may_tells w self key held t t' news h1 h2 (by omega)).use B F X N T hk hd hu fun r n' h' tk' F' N' p => by
    obtain ⟨rfl, rfl⟩ := p
    exact hret h' tk' F' N'
end

theorem anew4 : True ∧ True := by
  w_top off
  first | (walk1; done) | exact ⟨trivial, trivial⟩
section
set_option maxRecDepth 100000
namespace Ba
theorem attrs : PlainAttrs "bytearray" := ⟨⟨"bytearray.__getattribute__", by rw [typeLookup_type, builtinLookup_eq_fast]; kernel_rfl, by decide +kernel⟩, by rw [typeLookup_type, builtinLookup_eq_fast]; kernel_rfl⟩
theorem type_append : typeOf (.builtin "bytearray.append") = pure (.type "method_descriptor") := by kernel_rfl
end Ba
section
variable {M : Model} {A : Around} {s : Shared} {env : Env}
theorem wpI_Call_Name {id : Str} {p pos : Pos} {args : List Expr} {keywords : List Keyword} {Q : Value → Shared → Prop}
    (h : wpAny M A (eval (.Name id p) env) (fun f s₁ => wpI M A (callWith pos f [] (backTo pos (starEach args env)) (backToKw pos (keywordEach keywords env))) Q s₁) (fun _ _ => False) s) :
    wpI M A (eval (.Call (.Name id p) args keywords pos) env) Q s := by
  rw [arm_eval_Call_Name']
  exact wpI_any h
theorem wpI_callWith1 {pos : Pos} {f : Value} {first : List Value} {e : Expr} {rest : List Expr} {Q : Value → Shared → Prop}
    (h : wpAny M A (spliced (backTo pos (starEach (e :: rest) env))) (fun vs s₁ => wpAny M A (keeperOf f) (fun _ s₂ => wpI M A (call f (first ++ vs)) Q s₂) (fun _ _ => False) s₁) (fun _ _ => False) s)
    (he : starEach (e :: rest) env = (false, eval e env) :: starEach rest env := by rfl)
    (hplain : (backTo pos (starEach rest env)).any (·.1) = false := by rfl) :
    wpI M A (callWith pos f first (backTo pos (starEach (e :: rest) env)) []) Q s := by
  rw [he] at h ⊢
  exact wpI_callWith (by show (false || (backTo pos (starEach rest env)).any (·.1)) = false; rw [hplain]; rfl) (evalArgs_plain h)
theorem wpI_type1 {pos : Pos} {T : String} {first : List Value} {e : Expr} {rest : List Expr} {Q : Value → Shared → Prop}
    (h : wpAny M A (spliced (backTo pos (starEach (e :: rest) env))) (fun vs s₁ => wpI M A (call (.type T) (first ++ vs)) Q s₁) (fun _ _ => False) s)
    (he : starEach (e :: rest) env = (false, eval e env) :: starEach rest env := by rfl)
    (hplain : (backTo pos (starEach rest env)).any (·.1) = false := by rfl) :
    wpI M A (callWith pos (.type T) first (backTo pos (starEach (e :: rest) env)) []) Q s :=
  wpI_callWith1 (wpAny_mono h (fun _ _ h₁ => wpAny_pure h₁) fun _ _ x => x) he hplain
theorem wpI_builtin1 {pos : Pos} {T : String} {first : List Value} {e : Expr} {rest : List Expr} {Q : Value → Shared → Prop}
    (h : wpAny M A (spliced (backTo pos (starEach (e :: rest) env))) (fun vs s₁ => wpI M A (call (.builtin T) (first ++ vs)) Q s₁) (fun _ _ => False) s)
    (he : starEach (e :: rest) env = (false, eval e env) :: starEach rest env := by rfl)
    (hplain : (backTo pos (starEach rest env)).any (·.1) = false := by rfl) :
    wpI M A (callWith pos (.builtin T) first (backTo pos (starEach (e :: rest) env)) []) Q s :=
  wpI_callWith1 (wpAny_mono h (fun _ _ h₁ => wpAny_pure h₁) fun _ _ x => x) he hplain
theorem wpI_def1 {pos : Pos} {f : Addr} {first : List Value} {e : Expr} {rest : List Expr} {Q : Value → Shared → Prop}
    (h : wpAny M A (spliced (backTo pos (starEach (e :: rest) env))) (fun vs s₁ => (∃ o fd, s₁.heap.get? f = some o ∧ o.data = .func fd) ∧ wpI M A (call (.ref f) (first ++ vs)) Q s₁) (fun _ _ => False) s)
    (he : starEach (e :: rest) env = (false, eval e env) :: starEach rest env := by rfl)
    (hplain : (backTo pos (starEach rest env)).any (·.1) = false := by rfl) :
    wpI M A (callWith pos (.ref f) first (backTo pos (starEach (e :: rest) env)) []) Q s :=
  wpI_callWith1 (wpAny_mono h (fun _ _ h₁ => by
    obtain ⟨⟨o, fd, ho, hd⟩, h₁⟩ := h₁
    unfold keeperOf
    refine wpAny_bind (wpAny_load ho ?_)
    rw [hd]
    exact wpAny_pure h₁) fun _ _ x => x) he hplain
end
section
variable {prog : Program} {w : World} {A : Around} {E : Value → Shared → Prop} {s : Shared} {h₀ : Heap} {L : Addr} {m : Str → Option Value}
theorem ba_meth_append {a : Addr} {b : Array UInt8} {news : List (Addr × Obj)} {pl : Sem Bool} {Q : Value × List Value → Shared → Prop} (N : News h₀ L s.heap news) (hm : (a, baObj b) ∈ news)
    (h : Q (.builtin "bytearray.append", [.ref a]) s) : wpAny (model prog w) A (getMethod (.ref a) "append" pl) Q E s :=
  getMethod_builtin (ba_typeIs (N _ hm).1) Ba.attrs Ba.slot_append Ba.type_append (fun x e => by cases e; exact ⟨_, (N _ hm).1, rfl⟩) h
theorem ba_item {value slice : Expr} {a : Addr} {b : Array UInt8} {i : Int} {t : Tok} {news : List (Addr × Obj)} {Q : Value → Shared → Prop} (h : Q (.int (oct b i) s.toks) { s with toks := s.toks + 1 }) (N : News h₀ L s.heap news := by k_asm) (hm : (a, baObj b) ∈ news := by exact List.Mem.tail _ (List.Mem.head _)) (hsz : b.size ≤ 1048576 := by with_reducible assumption)
    (h0 : 0 ≤ i := by with_reducible assumption) (h1 : i < (b.size : Int) := by with_reducible assumption) (hs : subscripted slice false (.ref a) (.int i t) = operate [.ref a, .int i t] (getItem (.ref a) (.int i t)) := by with_unfolding_all rfl) :
    wpAny (model prog w) A (subscriptTail value slice (.ref a) (.int i t)) Q E s :=
  tail_any (ba_typeIs (N _ hm).1) Ba.slot_get.lookup (ba_get (N _ hm).1 hsz h0 h1 h) hs
theorem ba_set2 {a : Addr} {b : Array UInt8} {i v : Int} {t u : Tok} {q : Addr × Obj} {post : List (Addr × Obj)} {Q : Unit → Shared → Prop} (h : ∀ h', Fr h₀ L h' m → News h₀ L h' (q :: (a, baObj (b.setIfInBounds i.toNat v.toNat.toUInt8)) :: post) → Q () { s with heap := h' })
    (F : Fr h₀ L s.heap m := by k_asm) (N : News h₀ L s.heap (q :: (a, baObj b) :: post) := by k_asm) (hpre : ∀ p ∈ [q], p.1 ≠ a := by assumption) (hpost : ∀ p ∈ post, p.1 ≠ a := by assumption) (hsz : b.size ≤ 1048576 := by with_reducible assumption) (h0 : 0 ≤ i := by with_reducible assumption)
    (h1 : i < (b.size : Int) := by with_reducible assumption) (v0 : 0 ≤ v := by with_reducible assumption) (v1 : v < 256 := by with_reducible assumption) : wpAny (model prog w) A (setItem (.ref a) (.int i t) (.int v u)) Q E s :=
  ba_set_N (pre := [q]) F N hpre hpost hsz h0 h1 v0 v1 h
theorem len_lst {l : Addr} {its : Array Value} {n : Nat} {news : List (Addr × Obj)} {Q : Value → Shared → Prop} (h : Q (.int (its.size : Nat) (s.toks + 1)) { s with toks := s.toks + 1 + 1 }) (N : News h₀ L s.heap news := by k_asm) (hm : (l, listOf its n) ∈ news := by with_reducible assumption)
    (hz : (its.size : Int) < 2 ^ 63 := by first | with_reducible assumption | omega) : wpAny (model prog w) A (call (.builtin "len") [.ref l]) Q E s := call_len_list (News.isList N hm) hz h
/-- what a frame is known to hold, as the walk reads it -/
theorem fr_pack {h : Heap} {m' : Str → Option Value} {ps : List (Str × Value)} (F : Fr h₀ L h m') (hk : ∀ p ∈ ps, m' p.1 = some p.2) : Fr h₀ L h (kstB m' ps) := by
  have e : kstB m' ps = m' := funext fun z => kstB_eq hk fun _ => rfl
  rw [e]; exact F
end

/-! a for loop over a list of the call's own, whatever its values are -/
section
variable {prog : Program} {w : World} {A : Around} {E : Value → Shared → Prop} {s : Shared} {env : Env} {h₀ : Heap} {x : Str} {body : List Stmt} {Q : Flow → Shared → Prop}
noncomputable def VsRel {σ : Type} (Led : σ → List (Addr × Obj)) (ps : σ → List (Str × Value)) (x : Str) (stored : List Str) (m₀ : Str → Option Value) (P : Nat → σ → Prop) (i : Nat) (m : Str → Option Value) (nx : List (Addr × Obj)) : Prop :=
  ∃ c : σ, nx = Led c ∧ (∀ p ∈ ps c, m p.1 = some p.2) ∧ (∀ z, z ≠ x → (∀ p ∈ ps c, z ≠ p.1) → stored.contains z = false → m z = m₀ z) ∧ P i c
theorem for_vals {σ : Type} {ax : Addr} {lo : Obj} {vs : List Value} {n : Nat} {m₀ : Str → Option Value} (Led : σ → List (Addr × Obj)) (ps : σ → List (Str × Value)) (stored : List Str) (P : Nat → σ → Prop) (c₀ : σ)
    (hh : A.handled = none) (F : Fr h₀ env.locals s.heap m₀) (N : News h₀ env.locals s.heap (Led c₀)) (hm : ∀ c, (ax, lo) ∈ Led c) (hc : lo.cls = .type "list") (hd : lo.data = .seq vs.toArray n)
    (hk : ∀ p ∈ ps c₀, m₀ p.1 = some p.2) (hp : P 0 c₀)
    (turn : ∀ (c : σ) (i : Nat) (v : Value) (I : Addr) (it : Obj) (u : Str → Option Value) h tk, vs[i]? = some v → P i c → (∀ p ∈ Led c₀, @LT.lt Nat _ p.1 I) →
      Fr h₀ env.locals h (fun y => if y = x then some v else kstB (fun z => if stored.contains z then u z else m₀ z) (ps c) y) → News h₀ env.locals h ((I, it) :: Led c) →
      wpAny (model prog w) A (execs body env) (UnrPost h₀ env.locals { s with heap := h, toks := tk } I it (VsRel Led ps x stored m₀ P (i + 1)) Q) E { s with heap := h, toks := tk })
    (done : ∀ (c : σ) (u : Str → Option Value) h tk, P vs.length c → Fr h₀ env.locals h (fun y => if y = x then u y else kstB (fun z => if stored.contains z then u z else m₀ z) (ps c) y) → News h₀ env.locals h (Led c) → Q .next { s with heap := h, toks := tk }) :
    wpAny (model prog w) A (pyIter (.ref ax)) (fun it s₂ => LoopAtV prog w A h₀ env x body Q E it s₂) E s := by
  refine iter_listUnr hh F N (hm c₀) hc hd fun I hI => ?_
  have key : ∀ (r : List Value) (i : Nat) (m : Str → Option Value) (nx : List (Addr × Obj)), i ≤ vs.length → vs.drop i = r → VsRel Led ps x stored m₀ P i m nx → ListRest prog w A E h₀ env x body Q s I (ax, lo) r m nx := by
    intro r
    induction r with
    | nil =>
      rintro i m nx hle e ⟨c, rfl, h1, h2, h3⟩
      refine ListRest.zero fun h tk F' N' => ?_
      have hlen : vs.length ≤ i := List.drop_eq_nil_iff.mp e
      obtain rfl : i = vs.length := Nat.le_antisymm hle hlen
      exact done c m h tk h3 (kst_frOut h1 h2 F') N'
    | cons v r ih =>
      rintro i m nx hle e ⟨c, rfl, h1, h2, h3⟩
      have hv : vs[i]? = some v := by
        have := congrArg (·[0]?) e
        simpa using this
      have er : vs.drop (i + 1) = r := by
        have := congrArg List.tail e
        simpa using this
      refine ListRest.succ fun it h tk hit F' N' => ?_
      refine wpAny_mono (turn c i v I it m h tk hv h3 hI (kst_fr h1 h2 F') N') (fun f s₂ p => ?_) fun _ _ x => x
      have up : UnrEnd h₀ env.locals { s with heap := h, toks := tk } I it (VsRel Led ps x stored m₀ P (i + 1)) s₂ → UnrEnd h₀ env.locals { s with heap := h, toks := tk } I it (fun m' n' => (ax, lo) ∈ n' ∧ ListRest prog w A E h₀ env x body Q s I (ax, lo) r m' n') s₂ := by
        rintro ⟨h', tk', m', news', e1, F1, N1, off, R⟩
        refine ⟨h', tk', m', news', e1, F1, N1, off, ?_, ih _ _ _ (List.getElem?_eq_some_iff.mp hv).1 er R⟩
        obtain ⟨c', rfl, _⟩ := R
        exact hm c'
      cases f with
      | ret v => exact p
      | brk => exact p
      | next => exact up p
      | cont => exact up p
  exact key vs 0 m₀ _ (Nat.zero_le _) rfl ⟨c₀, rfl, hk, fun _ _ _ _ => rfl, hp⟩
theorem vs_end {σ : Type} {Led : σ → List (Addr × Obj)} {ps : σ → List (Str × Value)} {stored : List Str} {m₀ : Str → Option Value} {P : Nat → σ → Prop} {i : Nat} (c : σ) {L I : Addr} {it : Obj} {m' : Str → Option Value} {all : List (Addr × Obj)} {s₁ : Shared} {h' : Heap} {tk : Nat}
    (F : Fr h₀ L h' m') (N : News h₀ L h' all) (sub : ∀ p ∈ (I, it) :: Led c, p ∈ all) (off : ∀ p ∈ Led c, p.1 ≠ I) (hk : ∀ p ∈ ps c, m' p.1 = some p.2) (hr : ∀ z, z ≠ x → (∀ p ∈ ps c, z ≠ p.1) → stored.contains z = false → m' z = m₀ z) (hp : P i c) :
    UnrEnd h₀ L s₁ I it (VsRel Led ps x stored m₀ P i) { s₁ with heap := h', toks := tk } := UnrEnd.intro F N _ sub off ⟨c, rfl, hk, hr, hp⟩
end
end

theorem anew5 : True ∧ True := by
  w_top off
  first | (walk1; done) | exact ⟨trivial, trivial⟩
section
/-! the filter that make gives -/
/-- one lamp lit -/
noncomputable def setb (b : Array UInt8) (p : Int) : Array UInt8 := b.setIfInBounds (Int.fdiv p 8).toNat (Builtin.bitOr (oct b (Int.fdiv p 8)) (1 * 2 ^ (Int.fmod p 8).toNat)).toNat.toUInt8
noncomputable def mkK (b key : Array UInt8) (wide : Int) : Nat → Array UInt8
  | 0 => b
  | k + 1 => setb (mkK b key wide k) (pl key wide k)
theorem setb_size (b : Array UInt8) (p : Int) : (setb b p).size = b.size := by unfold setb; simp
theorem mkK_size (b key : Array UInt8) (wide : Int) : ∀ k, (mkK b key wide k).size = b.size
  | 0 => rfl
  | k + 1 => by show (setb _ _).size = _; rw [setb_size, mkK_size b key wide k]
noncomputable def wantedOf (bits : Int) (n : Nat) : Int := if (n : Int) * bits < 64 then 64 else (n : Int) * bits
noncomputable def lenOf (bits : Int) (n : Nat) : Int := Int.fdiv (wantedOf bits n + 7) 8
noncomputable def mkL (bits probes : Int) (n : Nat) (b : Array UInt8) (keys : List (Array UInt8)) : Array UInt8 := keys.foldl (fun b key => mkK b key (lenOf bits n * 8) probes.toNat) b
theorem mkL_size (bits probes : Int) (n : Nat) : ∀ (keys : List (Array UInt8)) (b : Array UInt8), (mkL bits probes n b keys).size = b.size
  | [], b => rfl
  | k :: r, b => by show (mkL bits probes n (mkK b k _ _) r).size = _; rw [mkL_size bits probes n r, mkK_size]
theorem mkL_succ {bits probes : Int} {n : Nat} {b key : Array UInt8} {keys : List (Array UInt8)} {i : Nat} (h : keys[i]? = some key) : mkL bits probes n b (keys.take (i + 1)) = mkK (mkL bits probes n b (keys.take i)) key (lenOf bits n * 8) probes.toNat := by
  unfold mkL
  rw [List.take_add_one, h]
  simp [List.foldl_append]
noncomputable def mk (bits probes : Int) (keys : List (Array UInt8)) : Array UInt8 := (mkL bits probes keys.length (Array.replicate (lenOf bits keys.length).toNat 0) keys).push probes.toNat.toUInt8
/-- the values of a list of keys -/
noncomputable def BsAre (vs : List Value) (as : List (Array UInt8)) : Prop := vs.length = as.length ∧ ∀ (i : Nat) (v : Value), vs[i]? = some v → ∃ a t, as[i]? = some a ∧ v = Value.bytes a t

/-- where ways meet: what the rest may know -/
noncomputable def Mid (g : Heap) (L : Addr) (s : Shared) (led : List (Addr × Obj)) (ps : Tok → List (Str × Value)) (s₁ : Shared) : Prop := ∃ h tk m' t, s₁ = { s with heap := h, toks := tk } ∧ Fr g L h m' ∧ News g L h led ∧ ∀ p ∈ ps t, m' p.1 = some p.2
theorem Mid.intro {g : Heap} {L : Addr} {s : Shared} {led : List (Addr × Obj)} {ps : Tok → List (Str × Value)} {h : Heap} {tk : Nat} {m' : Str → Option Value} (t : Tok) (F : Fr g L h m') (N : News g L h led) (hk : ∀ p ∈ ps t, m' p.1 = some p.2) : Mid g L s led ps { s with heap := h, toks := tk } := ⟨h, tk, m', t, rfl, F, N, hk⟩
theorem wpI_execs_mid {M : Model} {A : Around} {s : Shared} {env : Env} {st : Stmt} {rest : List Stmt} {Q : Flow → Shared → Prop} {g : Heap} {L : Addr} (led : List (Addr × Obj)) (ps : Tok → List (Str × Value))
    (h : wpAny M A (exec st env) (fun f s₁ => f = .next ∧ Mid g L s led ps s₁) (fun _ _ => False) s) (hn : ∀ h tk u t, Fr g L h (kstB u (ps t)) → News g L h led → wpI M A (execs rest env) Q { s with heap := h, toks := tk }) : wpI M A (execs (st :: rest) env) Q s :=
  wpI_execs_any (wpAny_mono h (fun f s₁ h₁ => ⟨h₁.1, by
    obtain ⟨_, h, tk, m', t, rfl, F, N, hk⟩ := h₁
    exact hn h tk m' t (fr_pack F hk) N⟩) fun _ _ x => x)
theorem setb_val (b : Array UInt8) {x : Int} (h0 : 0 ≤ x) (h1 : x < 8) (i : Int) : 0 ≤ Builtin.bitOr (oct b i) (1 * 2 ^ x.toNat) ∧ Builtin.bitOr (oct b i) (1 * 2 ^ x.toNat) < 256 := by
  have e : ∀ n : Nat, n < 8 → (0 : Int) ≤ 1 * 2 ^ n ∧ (1 : Int) * 2 ^ n < 2 ^ 8 := by decide
  have g := e x.toNat (by omega)
  exact bitOr_range 8 (oct_nonneg b i) g.1 (oct_lt b i) g.2
local macro_rules | `(tactic| walk_at "call ref") => `(tactic| (k_here; (with_reducible show wpAny _ _ (call (Value.ref 89) _) _ _ _); (k_dflt refine hash_call ?_); intro t9 h9 tk9 F9 N9; (try dsimp only); (try k_fold)))
local macro_rules | `(tactic| walk_at "And") => `(tactic| ((first | (with_reducible refine And.intro True.intro ?_) | (with_reducible refine And.intro (Eq.refl Flow.next) ?_)); (try dsimp only)))
local macro_rules | `(tactic| walk_at "subscriptTail") => `(tactic| (k_here; (with_reducible show wpAny _ _ (subscriptTail _ _ (Value.ref _) (Value.int _ _)) _ _ _); (k_dflt refine ba_item ?_); (try dsimp only)))
local macro_rules | `(tactic| walk_at "setItem ref int") => `(tactic| (k_here; (with_reducible show wpAny _ _ (setItem (Value.ref _) (Value.int _ _) (Value.int _ _)) _ _ _); (k_dflt refine ba_set2 ?_); intro h' F' N'; (try dsimp only)))
local macro_rules | `(tactic| walk_at "call builtin:len") => `(tactic| (k_here; (with_reducible refine len_lst ?_); (try dsimp only)))
local macro_rules | `(tactic| walk_at "exec For Name Name cons nil") => `(tactic| refine hold ?_)
local macro_rules | `(tactic| walk_at "call type:bytes") => `(tactic| refine hold ?_)
local macro_rules | `(tactic| k_mem) => `(tactic| assumption)
set_option maxRecDepth 100000 in
set_option maxHeartbeats 4000000 in
theorem make_tells (w : World) (x dx kl : Addr) (b p : Int) (t1 t2 t3 t4 : Tok) (kvs : List Value) (n : Nat) (ks : List (Array UInt8)) (news : List (Addr × Obj))
    (hx : (x, instObj 120 dx) ∈ news) (hdx : (dx, bloomD w b p t1 t2 t3 t4) ∈ news) (hkl : (kl, listOf kvs.toArray n) ∈ news) (hks : BsAre kvs ks) (hb : 1 ≤ b) (hb2 : b ≤ 1024) (hp : 1 ≤ p) (hp2 : p ≤ 30)
    (hn : ks.length ≤ 64) (hsz : ∀ a ∈ ks, a.size ≤ 1048576) :
    TellI w 110 [.ref x, .ref kl] 4 news (fun r news' => news' = news ∧ ∃ t, r = .bytes (mk b p ks) t) := by
  unfold TellI
  k_fill
  intro mean mg mb dp un gd cn cs aa ccd cl outer A₀ base h₀ L m s Q B F X N T hk hd hu hret
  have kMark := kstMark
  refine wpI_call ?_
  k_dflt (refine' codeI_def ?k1 ?k2 ?k3 ?k4 ?k5 ?kA ?kF ?kK ?k6 ?k7 ?k8 ?k9 ?kB ?_ ?c2 ?c3 ?c4 ?c5; (case kA => exact rfl); (case kF => exact rfl); (case kK => assumption); (case k1 => k_asm); (case k2 => k_asm); (case k3 => k_asm); (case k4 => k_asm); (case k5 => k_asm); (case k6 => k_is); (case k7 => k_is); (case k8 => ktr_room); (case k9 => exact BindsTo.of_eq rfl); (case c5 => decide); (case kB => exact locs rfl); (case c2 => exact rfl); (case c3 => exact rfl); (case c4 => exact rfl); k_whole; intro g' L' h' FG' F' N' B' X' T' hlt'; (try dsimp only); (try k_lift B'); (try k_fold))
  have hlen : (kvs.toArray.size : Int) < 2 ^ 63 := by
    have := hks.1
    simp only [List.size_toArray]
    omega
  have hsize : kvs.toArray.size = ks.length := by rw [List.size_toArray]; exact hks.1
  have hW : 64 ≤ wantedOf b ks.length ∧ wantedOf b ks.length ≤ 65536 := by
    unfold wantedOf
    have h1 : (ks.length : Int) * b ≤ 64 * 1024 := Int.mul_le_mul (by omega) hb2 (by omega) (by omega)
    split <;> omega
  have hLen : 8 ≤ lenOf b ks.length ∧ lenOf b ks.length ≤ 8192 := by
    have e : lenOf b ks.length = (wantedOf b ks.length + 7) / 8 := Int.fdiv_eq_ediv_of_nonneg _ (by decide)
    rw [e]; omega
  refine wpI_execs_any ?_
  k_steps
  rename Fr _ _ _ (fun y => if y = Str.ofString "wanted" then _ else _) => F2
  rename News g' _ _ _ => N2
  refine wpI_execs_mid (g := g') (L := L') news (fun t => [(Str.ofString "wanted", .int (wantedOf b ks.length) t), (Str.ofString "self", .ref x), (Str.ofString "keys", .ref kl)]) ?_ ?_
  · k_steps
    · have e : wantedOf b ks.length = 64 := by unfold wantedOf; rw [if_pos (by rw [← hsize]; assumption)]
      refine' Mid.intro ?tt1 (by k_asm) (by k_asm) ?hh
      case hh =>
        rw [e]
        kst_all
    · have e : wantedOf b ks.length = (kvs.toArray.size : Int) * b := by unfold wantedOf; rw [← hsize, if_neg (by assumption)]
      refine' Mid.intro ?tt2 (by k_asm) (by k_asm) ?hh
      case hh =>
        rw [e]
        kst_all
  clear F2 N2
  intro h2 tk2 u2 t2 F2 N2
  dsimp only [kstB] at F2
  refine wpI_execs_any ?_
  k_steps
  refine wpI_execs_any ?_
  k_steps
  refine wpI_execs_cons (wpI_Assign (wpI_Call_Name ?_))
  k_steps
  refine wpI_type1 ?_
  k_steps
  rename Fr g' _ _ _ => F3
  rename News g' _ _ _ => N3
  refine ba_new_N F3 N3 (by have := hLen.1; unfold lenOf at this; omega) (by have := hLen.2; unfold lenOf at this; omega) fun oa h4 F4 N4 l4 => ?_
  dsimp only
  clear F3 N3
  k_steps
  refine wpI_execs_any ?_
  k_steps
  unfold Hold
  rename Fr g' _ _ _ => F5
  with_unfolding_all refine' For_invVF F5 ?g1 ?g2 ?_
  case g1 => exact rfl
  case g2 => exact rfl
  k_steps
  unfold Hold
  rename News g' _ _ _ => N5
  refine' for_vals (σ := Array UInt8 × Tok) (fun c => (oa, baObj c.1) :: news) (fun c => [(Str.ofString "out", .ref oa), (Str.ofString "wide", .int (lenOf b ks.length * 8) c.2), (Str.ofString "self", .ref x)]) [Str.ofString "h", Str.ofString "delta", Str.ofString "probe", Str.ofString "place"] (fun i c => c.1 = mkL b p ks.length (Array.replicate (lenOf b ks.length).toNat 0) (ks.take i)) (Array.replicate (lenOf b ks.length).toNat 0, _) (by rfl) F5 N5 (fun c => .tail _ hkl) rfl rfl ?kk rfl ?kt ?kd
  case kk => kst_all
  case kd =>
    rintro ⟨c, tw⟩ u h6 tk6 e6 F6 N6
    dsimp only at e6
    have eL : kvs.length = ks.length := hks.1
    rw [eL, List.take_length] at e6
    dsimp only [kstB] at F6
    dsimp only at N6
    clear F5 N5
    k_steps
    refine wpI_execs_cons (wpI_Expr (wpI_method ?_))
    k_steps
    rename News g' _ _ _ => N9
    refine ba_meth_append N9 (.head _) ?_
    dsimp only
    refine wpI_builtin1 ?_
    k_steps
    rename Fr g' _ _ _ => F10
    rename News g' _ _ _ => N10
    have hcs : c.size = (lenOf b ks.length).toNat := by rw [e6, mkL_size]; simp
    have hne : ∀ q ∈ news, q.1 ≠ oa := fun q hq => Nat.ne_of_lt (l4 q hq)
    refine ba_append_N F10 N10 hne (by omega) (by omega) (by omega) fun h11 F11 N11 => ?_
    dsimp only
    refine ⟨rfl, trivial, ?_⟩
    have hps : (c.push p.toNat.toUInt8).size ≤ 1048577 := by rw [Array.size_push]; omega
    refine wpI_execs_last ?_
    clear F10 N10
    k_steps
    unfold Hold
    refine bytes_of_ba (N11 _ (.head _)).1 hps ?_
    intro t12 tk12
    dsimp only
    k_steps
    rename News h₀ _ _ (_ :: _) => kN
    exact hret _ news _ _ (by k_asm) (kst_newsOf kN fun q hq => .tail _ hq) ⟨rfl, _, congrArg (Value.bytes · _) (by rw [e6]; rfl)⟩
  rintro ⟨c, tw⟩ i v I it u h6 tk6 hv e6 hI F6 N6
  dsimp only at e6
  obtain ⟨key, tkey, hkey, rfl⟩ := hks.2 i v hv
  have hkz : key.size ≤ 1048576 := hsz key (List.mem_of_getElem? hkey)
  dsimp only [kstB] at F6
  clear F5 N5
  have hbr := bh_range key
  k_steps
  unfold Hold
  rename IsRange _ _ _ _ _ _ _ _ => rg
  rename Fr g' _ _ _ => F7
  rename News g' _ _ _ => N7
  clear hbr
  have hIo : oa < I := hI _ (.head _)
  have hIn : ∀ q ∈ news, @LT.lt Nat _ q.1 I := fun q hq => hI q (.tail _ hq)
  have hcs : c.size = (lenOf b ks.length).toNat := by rw [e6, mkL_size]; simp
  refine' kst_range (fun d : Array UInt8 × Nat × Tok × Tok => (I, it) :: (oa, baObj d.1) :: news) (fun d => [(Str.ofString "h", .int (hs key d.2.1) d.2.2.1), (Str.ofString "delta", .int (dl key) d.2.2.2)]) (fun _ => True) [Str.ofString "place"] (fun pre d => d.2.1 = pre.length ∧ d.1 = mkK c key (lenOf b ks.length * 8) pre.length) (c, 0, _, _) (by rfl) rg (small_one (by omega) (by omega) (by omega) (by omega)) (rangeSize_nat _ _) F7 N7 trivial ?jk ⟨rfl, rfl⟩ ?jt ?jd
  case jk => kst_all
  case jd =>
    rintro ⟨d, k, th, td⟩ u8 h8 tk8 - ⟨e8, e8'⟩ F8 N8
    dsimp only at e8 e8'
    dsimp only [kstB] at F8
    dsimp only at N8
    clear F7 N7
    k_steps
    rw [rangeKs_length] at e8 e8'
    refine' vs_end (d, tw) (by k_asm) (by k_asm) (fun q hq => hq) (fun q hq => (List.mem_cons.mp hq).elim (fun e => by rw [e]; exact Nat.ne_of_lt hIo) fun hq => Nat.ne_of_lt (hIn q hq)) ?jk ?jr ?jp
    case jp =>
      show d = _
      rw [mkL_succ hkey, ← e6, e8', Int.sub_zero]
    case jk => kst_all
    case jr =>
      intro z h1 h2 h3
      have h4 := h2 _ (.head _)
      have h5 := h2 _ (.tail _ (.head _))
      have h6 := h2 _ (.tail _ (.tail _ (.head _)))
      clear h2
      dsimp only at h4 h5 h6
      simp only [List.contains_cons, List.contains_nil, Bool.or_false, Bool.or_eq_false_iff, beq_eq_false_iff_ne, ne_eq] at h3
      simp [h1, h3, h4, h5, h6]
  rintro ⟨d, k, th, td⟩ pre j tj u8 h8 tk8 own ej hj ho - ⟨e8, e8'⟩ F8 N8
  dsimp only at e8 e8'
  subst e8
  dsimp only [kstB] at F8
  dsimp only at N8
  simp only [List.cons_append] at N8
  clear F7 N7
  have hds : d.size = (lenOf b ks.length).toNat := by rw [e8', mkK_size, hcs]
  have hds2 : d.size ≤ 1048576 := by omega
  have hp9 := pl_range key (lenOf b ks.length * 8) pre.length (by omega)
  have hq := div8_range hp9.1 hp9.2
  unfold pl at hp9 hq
  have hpl : pl key (lenOf b ks.length * 8) pre.length = Int.fmod (hs key pre.length) (lenOf b ks.length * 8) := rfl
  obtain ⟨H, hH⟩ : ∃ H, Hold (H = hs key pre.length) := ⟨_, hold rfl⟩
  have hH' : hs key pre.length = H := Eq.symm hH
  rw [hH'] at F8 hp9 hq
  clear hH' hpl
  obtain ⟨D, hD⟩ : ∃ D, Hold (D = dl key) := ⟨_, hold rfl⟩
  have hD' : dl key = D := Eq.symm hD
  rw [hD'] at F8
  clear hD'
  obtain ⟨q1, q2, q3, q4⟩ := hq
  have q2' : Int.fdiv (Int.fmod H (lenOf b ks.length * 8)) 8 < (d.size : Int) := by omega
  have hv := setb_val d q3 q4
  obtain ⟨v0, v1⟩ := hv (Int.fdiv (Int.fmod H (lenOf b ks.length * 8)) 8)
  clear hv
  have hne1 : ∀ q ∈ [(I, it)], q.1 ≠ oa := fun q hq => by rw [List.mem_singleton.mp hq]; exact Nat.ne_of_gt hIo
  have hne2 : ∀ q ∈ news ++ own, q.1 ≠ oa := fun q hq => by
    rcases List.mem_append.mp hq with hq | hq
    · exact Nat.ne_of_lt (l4 q hq)
    · exact ho q hq oa (by simp)
  k_steps
  have eH : H = hs key pre.length := hH
  have eD : D = dl key := hD
  clear hH hD
  subst eH eD
  refine' kst_end (setb d (pl key (lenOf b ks.length * 8) pre.length), pre.length + 1, _, _) (by k_asm) (by k_asm) ?en ?eo rfl trivial ?ek ?er ⟨by simp, ?el⟩
  case el =>
    show setb d _ = _
    rw [List.length_append, List.length_singleton, e8']
    rfl
  case ek => kst_all
  case er =>
    intro z h1 h2 h3
    have h4 := h2 _ (.head _)
    have h5 := h2 _ (.tail _ (.head _))
    clear h2
    dsimp only at h4 h5
    simp only [List.contains_cons, List.contains_nil, Bool.or_false, beq_eq_false_iff_ne, ne_eq] at h3
    simp [h1, h3, h4, h5]
  case en =>
    intro q hq
    rcases List.mem_cons.mp hq with rfl | hq
    · exact .head _
    · rcases List.mem_cons.mp hq with rfl | hq
      · exact .tail _ (.head _)
      · exact .tail _ (.tail _ (List.mem_append_left _ hq))
  case eo => exact fun q hq => .tail _ (.tail _ (List.mem_append_right _ hq))
end

theorem anew6 : True ∧ True := by
  w_top off
  first | (walk1; done) | exact ⟨trivial, trivial⟩
section
/-- what a drawing takes of the script's numbers -/
noncomputable def draw (ns : List Int) (i : Int) : Int := ns.getD (Int.fmod i ns.length).toNat 0 + 31 * Int.fdiv i ns.length
set_option maxRecDepth 100000 in
set_option maxHeartbeats 4000000 in
theorem bits_tells (w : World) (news : List (Addr × Obj)) : Tell w 131 [] 2 news (fun r news' => ∃ l vs n, r = .ref l ∧ news' = (l, listOf vs.toArray n) :: news ∧ IntsAre vs [1, 4, 10, 3, 30, 45, 7, 16] ∧ (∀ q ∈ news, @LT.lt Nat _ q.1 l)) := by
  unfold Tell
  k_fill
  intro mean mg mb dp un gd cn cs aa ccd cl outer A₀ base h₀ L m s Q E B F X N T hk hd hu hret
  have kMark := kstMark
  refine wpAny_call ?_
  k_dflt cell_enter
  k_steps
  exact hret _ _ _ _ (by k_asm) (by k_asm) ⟨_, _, _, rfl, rfl, by l_ints, by assumption⟩
set_option maxRecDepth 100000 in
set_option maxHeartbeats 4000000 in
theorem draw_tells (w : World) (nl : Addr) (vs : List Value) (n : Nat) (ns : List Int) (i : Int) (t : Tok) (news : List (Addr × Obj)) (hm : (nl, listOf vs.toArray n) ∈ news) (hi : IntsAre vs ns) (h1 : 1 ≤ ns.length) (h2 : ns.length ≤ 64) (h0 : 0 ≤ i) :
    Tell w 138 [.ref nl, .int i t] 2 news (fun r news' => news' = news ∧ ∃ t, r = .int (draw ns i) t) := by
  unfold Tell
  k_fill
  intro mean mg mb dp un gd cn cs aa ccd cl outer A₀ base h₀ L m s Q E B F X N T hk hd hu hret
  have kMark := kstMark
  have hlen : vs.toArray.size = ns.length := by simp [hi.length]
  refine wpAny_call ?_
  k_dflt cell_enter
  k_steps
  exact hret _ _ _ _ (by k_asm) (by k_asm) ⟨rfl, _, rfl⟩
/-- a key of the law's -/
noncomputable def lkL (x : Int) : List Int := List.take (Int.fmod x 7).toNat [97 + Int.fmod (Int.fdiv x 7) 3, Int.fmod (Int.fdiv x 21) 256, 255, 0, Int.fmod x 5, 98]
theorem lkL_range (x : Int) : ∀ n ∈ lkL x, 0 ≤ n ∧ n < 256 := by
  intro n hn
  have h := List.mem_of_mem_take hn
  have a1 := fmod_lo (Int.fdiv x 7) (by decide : (0 : Int) < 3)
  have a2 := fmod_hi (Int.fdiv x 7) (by decide : (0 : Int) < 3)
  have b1 := fmod_lo (Int.fdiv x 21) (by decide : (0 : Int) < 256)
  have b2 := fmod_hi (Int.fdiv x 21) (by decide : (0 : Int) < 256)
  have c1 := fmod_lo x (by decide : (0 : Int) < 5)
  have c2 := fmod_hi x (by decide : (0 : Int) < 5)
  simp only [List.mem_cons, List.not_mem_nil, or_false] at h
  omega
theorem lkL_len (x : Int) : (lkL x).length ≤ 6 := by unfold lkL; rw [List.length_take]; exact Nat.min_le_right _ _
set_option maxRecDepth 100000 in
set_option maxHeartbeats 4000000 in
theorem key_tells (w : World) (x : Int) (t : Tok) (news : List (Addr × Obj)) (h0 : 0 ≤ x) :
    Tell w 145 [.int x t] 2 news (fun r news' => news' = news ∧ ∃ t, r = .bytes (byteArr (lkL x)) t) := by
  unfold Tell
  k_fill
  intro mean mg mb dp un gd cn cs aa ccd cl outer A₀ base h₀ L m s Q E B F X N T hk hd hu hret
  have kMark := kstMark
  refine wpAny_call ?_
  k_dflt cell_enter
  have hr := lkL_range x
  have hz := lkL_len x
  unfold lkL at hr hz
  k_steps
  rename News h₀ _ _ (_ :: _) => kN
  exact hret _ news _ _ (by k_asm) (kst_newsOf kN fun q hq => .tail _ (.tail _ hq)) ⟨rfl, _, rfl⟩
/-- is all that few has lit also lit in many (octets) -/
noncomputable def litBB (few many : Array UInt8) : Bool := decide (∀ j < few.size - 1, Builtin.bitOr (oct few (j : Nat)) (oct many (j : Nat)) = oct many (j : Nat))
/-- the same against a list of numbers -/
noncomputable def litBL (few : Array UInt8) (many : List Int) : Bool := decide (∀ j < few.size - 1, Builtin.bitOr (oct few (j : Nat)) (many.getD j 0) = many.getD j 0)
set_option maxRecDepth 100000 in
set_option maxHeartbeats 4000000 in
theorem litBB_tells (w : World) (few many : Array UInt8) (t t' : Tok) (news : List (Addr × Obj)) (h1 : 1 ≤ few.size) (h2 : few.size ≤ 1048577) (h3 : many.size ≤ 1048577) (h4 : few.size ≤ many.size) :
    Tell w 152 [.bytes few t, .bytes many t'] 2 news (fun r news' => news' = news ∧ r = .bool (litBB few many)) := by
  unfold Tell
  k_fill
  intro mean mg mb dp un gd cn cs aa ccd cl outer A₀ base h₀ L m s Q E B F X N T hk hd hu hret
  have kMark := kstMark
  refine wpAny_call ?_
  k_dflt cell_enter
  k_steps
  unfold Hold
  rename IsRange _ _ _ _ _ _ _ _ => rg
  rename Fr _ _ _ _ => lF
  rename News _ _ _ _ => lN
  refine' kst_range (fun _ => news) (fun _ : Unit => []) (fun _ => True) [] (fun pre c => ∀ j < pre.length, Builtin.bitOr (oct few (j : Nat)) (oct many (j : Nat)) = oct many (j : Nat)) () (by rfl) rg (small_one (by omega) (by omega) (by omega) (by omega)) (rangeSize_nat _ _) lF lN trivial ?kk ?kp ?kt ?kd
  case kk => exact List.forall_mem_nil _
  case kp => exact fun i h => absurd h (Nat.not_lt_zero _)
  case kd =>
    rintro ⟨⟩ u h tk - hk5 F4 N4
    dsimp only [kstB] at F4
    clear lF lN
    k_steps
    have e : litBB few many = true := by
      unfold litBB
      refine decide_eq_true fun i hi => hk5 i ?_
      rw [rangeKs_length]
      omega
    rw [← e]
    exact hret _ _ _ _ (by k_asm) (by k_asm) ⟨rfl, rfl⟩
  rintro ⟨⟩ pre i ti u h tk own ei hi ho - hk5 F4 N4
  dsimp only [kstB] at F4
  clear lF lN
  have hi0 : 0 ≤ i := by omega
  have hi1 : i < (few.size : Int) := by omega
  have hi2 : i < (many.size : Int) := by omega
  have ej : i = ((pre.length : Nat) : Int) := by omega
  k_steps
  case _ =>
    rename _ ≠ _ => a4
    have e : litBB few many = false := by
      unfold litBB
      refine decide_eq_false fun hall => ?_
      have := hall pre.length (by omega)
      rw [← ej] at this
      exact a4 this
    rw [← e]
    exact hret _ news _ _ (by k_asm) (kst_newsOf (by k_asm) fun q hq => List.mem_append_left own hq) ⟨rfl, rfl⟩
  rename Builtin.bitOr _ _ = _ => a4
  refine' kst_end () (by k_asm) (by k_asm) (fun q hq => List.mem_append_left _ hq) (fun q hq => List.mem_append_right _ hq) rfl trivial (List.forall_mem_nil _) ?kr ?kl
  case kl =>
    intro j hj
    rw [List.length_append, List.length_singleton] at hj
    rcases Nat.lt_succ_iff_lt_or_eq.mp hj with hj | rfl
    · exact hk5 j hj
    · rw [← ej]; exact a4
  case kr =>
    intro z h1 h2 h3
    simp [h1]
set_option maxRecDepth 100000 in
set_option maxHeartbeats 4000000 in
theorem litBL_tells (w : World) (few : Array UInt8) (ml : Addr) (mvs : List Value) (n : Nat) (many : List Int) (t : Tok) (news : List (Addr × Obj)) (h1 : 1 ≤ few.size) (h2 : few.size ≤ 1048577) (hm : (ml, listOf mvs.toArray n) ∈ news) (hints : IntsAre mvs many) (h3 : many.length ≤ 1048577) (h4 : few.size ≤ many.length) :
    Tell w 152 [.bytes few t, .ref ml] 2 news (fun r news' => news' = news ∧ r = .bool (litBL few many)) := by
  unfold Tell
  k_fill
  intro mean mg mb dp un gd cn cs aa ccd cl outer A₀ base h₀ L m s Q E B F X N T hk hd hu hret
  have kMark := kstMark
  refine wpAny_call ?_
  k_dflt cell_enter
  k_steps
  unfold Hold
  rename IsRange _ _ _ _ _ _ _ _ => rg
  rename Fr _ _ _ _ => lF
  rename News _ _ _ _ => lN
  refine' kst_range (fun _ => news) (fun _ : Unit => []) (fun _ => True) [] (fun pre c => ∀ j < pre.length, Builtin.bitOr (oct few (j : Nat)) (many.getD j 0) = many.getD j 0) () (by rfl) rg (small_one (by omega) (by omega) (by omega) (by omega)) (rangeSize_nat _ _) lF lN trivial ?kk ?kp ?kt ?kd
  case kk => exact List.forall_mem_nil _
  case kp => exact fun i h => absurd h (Nat.not_lt_zero _)
  case kd =>
    rintro ⟨⟩ u h tk - hk5 F4 N4
    dsimp only [kstB] at F4
    clear lF lN
    k_steps
    have e : litBL few many = true := by
      unfold litBL
      refine decide_eq_true fun i hi => hk5 i ?_
      rw [rangeKs_length]
      omega
    rw [← e]
    exact hret _ _ _ _ (by k_asm) (by k_asm) ⟨rfl, rfl⟩
  rintro ⟨⟩ pre i ti u h tk own ei hi ho - hk5 F4 N4
  dsimp only [kstB] at F4
  clear lF lN
  have hi0 : 0 ≤ i := by omega
  have hi1 : i < (few.size : Int) := by omega
  have hi2 : i < (many.length : Int) := by omega
  have ej : i = ((pre.length : Nat) : Int) := by omega
  have ej2 : i.toNat = pre.length := by omega
  k_steps
  case _ =>
    rename _ ≠ _ => a4
    have e : litBL few many = false := by
      unfold litBL
      refine decide_eq_false fun hall => ?_
      have := hall pre.length (by omega)
      rw [← ej, ← ej2] at this
      exact a4 this
    rw [← e]
    exact hret _ news _ _ (by k_asm) (kst_newsOf (by k_asm) fun q hq => List.mem_append_left own hq) ⟨rfl, rfl⟩
  rename Builtin.bitOr _ _ = _ => a4
  refine' kst_end () (by k_asm) (by k_asm) (fun q hq => List.mem_append_left _ hq) (fun q hq => List.mem_append_right _ hq) rfl trivial (List.forall_mem_nil _) ?kr ?kl
  case kl =>
    intro j hj
    rw [List.length_append, List.length_singleton] at hj
    rcases Nat.lt_succ_iff_lt_or_eq.mp hj with hj | rfl
    · exact hk5 j hj
    · rw [← ej, ← ej2]; exact a4
  case kr =>
    intro z h1 h2 h3
    simp [h1]
theorem draw_call {w : World} {mean : ExcName → Option Value} {mg mb : Str → Option Value} {dp un : Nat} {gd : Option (List Code)} {cn : Str} {cs : Scope} {aa : Addr} {ccd : Value} {cl : List (Str × Addr)} {outer : List Env} {A₀ : Around} {base h₀ : Heap} {L : Addr} {m : Str → Option Value} {s : Shared} {Q E : Value → Shared → Prop} {news : List (Addr × Obj)} {nl : Addr} {vs : List Value} {n : Nat} {ns : List Int} {i : Int} {t9 : Tok}
    (hret : ∀ t h' tk', Fr h₀ L h' m → News h₀ L h' news → Q (.int (draw ns i) t) { s with heap := h', toks := tk' })
    (B : Below A₀ base outer h₀ := by k_asm) (F : Fr h₀ L s.heap m := by k_asm) (X : (BloomH.hd.heap_39 w.params).In h₀ := by k_asm) (N : News h₀ L s.heap news := by k_asm) (T : Top BloomH.hd.view_39 (looseW BloomH.hd.view_39 []) mean mg mb h₀ := by k_asm)
    (hm : (nl, listOf vs.toArray n) ∈ news := by k_mem) (hi : IntsAre vs ns := by assumption) (h1 : 1 ≤ ns.length := by omega) (h2 : ns.length ≤ 64 := by omega) (h0 : 0 ≤ i := by omega) (hk : cs.kind = .function := by exact rfl) (hd : dp + 2 < recursionLimit := by ktr_room) (hu : un + 8 * 2 < cLine := by ktr_units) :
    wpAny (model PySem.Challenge.rw_nz0358_01.row.prog w) (ktrTop dp un gd cn cs L aa ccd cl outer) (call (.ref 138) [.ref nl, .int i t9]) Q E s :=
  (draw_tells w nl vs n ns i t9 news hm hi h1 h2 h0).use B F X N T hk hd hu fun r n' h' tk' F' N' p => by
    obtain ⟨rfl, t, rfl⟩ := p
    exact hret t h' tk' F' N'
theorem key_call {w : World} {mean : ExcName → Option Value} {mg mb : Str → Option Value} {dp un : Nat} {gd : Option (List Code)} {cn : Str} {cs : Scope} {aa : Addr} {ccd : Value} {cl : List (Str × Addr)} {outer : List Env} {A₀ : Around} {base h₀ : Heap} {L : Addr} {m : Str → Option Value} {s : Shared} {Q E : Value → Shared → Prop} {news : List (Addr × Obj)} {x : Int} {t9 : Tok}
    (hret : ∀ t h' tk', Fr h₀ L h' m → News h₀ L h' news → Q (.bytes (byteArr (lkL x)) t) { s with heap := h', toks := tk' })
    (B : Below A₀ base outer h₀ := by k_asm) (F : Fr h₀ L s.heap m := by k_asm) (X : (BloomH.hd.heap_39 w.params).In h₀ := by k_asm) (N : News h₀ L s.heap news := by k_asm) (T : Top BloomH.hd.view_39 (looseW BloomH.hd.view_39 []) mean mg mb h₀ := by k_asm)
    (h0 : 0 ≤ x := by first | omega | assumption) (hk : cs.kind = .function := by exact rfl) (hd : dp + 2 < recursionLimit := by ktr_room) (hu : un + 8 * 2 < cLine := by ktr_units) :
    wpAny (model PySem.Challenge.rw_nz0358_01.row.prog w) (ktrTop dp un gd cn cs L aa ccd cl outer) (call (.ref 145) [.int x t9]) Q E s :=
  (key_tells w x t9 news h0).use B F X N T hk hd hu fun r n' h' tk' F' N' p => by
    obtain ⟨rfl, t, rfl⟩ := p
    exact hret t h' tk' F' N'
theorem litBB_call {w : World} {mean : ExcName → Option Value} {mg mb : Str → Option Value} {dp un : Nat} {gd : Option (List Code)} {cn : Str} {cs : Scope} {aa : Addr} {ccd : Value} {cl : List (Str × Addr)} {outer : List Env} {A₀ : Around} {base h₀ : Heap} {L : Addr} {m : Str → Option Value} {s : Shared} {Q E : Value → Shared → Prop} {news : List (Addr × Obj)} {few many : Array UInt8} {t t' : Tok}
    (hret : ∀ h' tk', Fr h₀ L h' m → News h₀ L h' news → Q (.bool (litBB few many)) { s with heap := h', toks := tk' })
    (B : Below A₀ base outer h₀ := by k_asm) (F : Fr h₀ L s.heap m := by k_asm) (X : (BloomH.hd.heap_39 w.params).In h₀ := by k_asm) (N : News h₀ L s.heap news := by k_asm) (T : Top BloomH.hd.view_39 (looseW BloomH.hd.view_39 []) mean mg mb h₀ := by k_asm)
    (h1 : 1 ≤ few.size := by omega) (h2 : few.size ≤ 1048577 := by omega) (h3 : many.size ≤ 1048577 := by omega) (h4 : few.size ≤ many.size := by omega) (hk : cs.kind = .function := by exact rfl) (hd : dp + 2 < recursionLimit := by ktr_room) (hu : un + 8 * 2 < cLine := by ktr_units) :
    wpAny (model PySem.Challenge.rw_nz0358_01.row.prog w) (ktrTop dp un gd cn cs L aa ccd cl outer) (call (.ref 152) [.bytes few t, .bytes many t']) Q E s :=
  (litBB_tells w few many t t' news h1 h2 h3 h4).use B F X N T hk hd hu fun r n' h' tk' F' N' p => by
    obtain ⟨rfl, rfl⟩ := p
    exact hret h' tk' F' N'
theorem litBL_call {w : World} {mean : ExcName → Option Value} {mg mb : Str → Option Value} {dp un : Nat} {gd : Option (List Code)} {cn : Str} {cs : Scope} {aa : Addr} {ccd : Value} {cl : List (Str × Addr)} {outer : List Env} {A₀ : Around} {base h₀ : Heap} {L : Addr} {m : Str → Option Value} {s : Shared} {Q E : Value → Shared → Prop} {news : List (Addr × Obj)} {few : Array UInt8} {ml : Addr} {mvs : List Value} {n : Nat} {many : List Int} {t : Tok}
    (hret : ∀ h' tk', Fr h₀ L h' m → News h₀ L h' news → Q (.bool (litBL few many)) { s with heap := h', toks := tk' })
    (B : Below A₀ base outer h₀ := by k_asm) (F : Fr h₀ L s.heap m := by k_asm) (X : (BloomH.hd.heap_39 w.params).In h₀ := by k_asm) (N : News h₀ L s.heap news := by k_asm) (T : Top BloomH.hd.view_39 (looseW BloomH.hd.view_39 []) mean mg mb h₀ := by k_asm)
    (hm : (ml, listOf mvs.toArray n) ∈ news := by k_mem) (hi : IntsAre mvs many := by assumption) (h1 : 1 ≤ few.size := by omega) (h2 : few.size ≤ 1048577 := by omega) (h3 : many.length ≤ 1048577 := by omega) (h4 : few.size ≤ many.length := by omega) (hk : cs.kind = .function := by exact rfl) (hd : dp + 2 < recursionLimit := by ktr_room) (hu : un + 8 * 2 < cLine := by ktr_units) :
    wpAny (model PySem.Challenge.rw_nz0358_01.row.prog w) (ktrTop dp un gd cn cs L aa ccd cl outer) (call (.ref 152) [.bytes few t, .ref ml]) Q E s :=
  (litBL_tells w few ml mvs n many t news h1 h2 hm hi h3 h4).use B F X N T hk hd hu fun r n' h' tk' F' N' p => by
    obtain ⟨rfl, rfl⟩ := p
    exact hret h' tk' F' N'
theorem bits_call {w : World} {mean : ExcName → Option Value} {mg mb : Str → Option Value} {dp un : Nat} {gd : Option (List Code)} {cn : Str} {cs : Scope} {aa : Addr} {ccd : Value} {cl : List (Str × Addr)} {outer : List Env} {A₀ : Around} {base h₀ : Heap} {L : Addr} {m : Str → Option Value} {s : Shared} {Q E : Value → Shared → Prop} {news : List (Addr × Obj)}
    (hret : ∀ l vs n h' tk', Fr h₀ L h' m → News h₀ L h' ((l, listOf vs.toArray n) :: news) → IntsAre vs [1, 4, 10, 3, 30, 45, 7, 16] → (∀ q ∈ news, @LT.lt Nat _ q.1 l) → Q (.ref l) { s with heap := h', toks := tk' })
    (B : Below A₀ base outer h₀ := by k_asm) (F : Fr h₀ L s.heap m := by k_asm) (X : (BloomH.hd.heap_39 w.params).In h₀ := by k_asm) (N : News h₀ L s.heap news := by k_asm) (T : Top BloomH.hd.view_39 (looseW BloomH.hd.view_39 []) mean mg mb h₀ := by k_asm)
    (hk : cs.kind = .function := by exact rfl) (hd : dp + 2 < recursionLimit := by ktr_room) (hu : un + 8 * 2 < cLine := by ktr_units) :
    wpAny (model PySem.Challenge.rw_nz0358_01.row.prog w) (ktrTop dp un gd cn cs L aa ccd cl outer) (call (.ref 131) []) Q E s :=
  (bits_tells w news).use B F X N T hk hd hu fun r n' h' tk' F' N' p => by
    obtain ⟨l, vs, n, rfl, rfl, hi, hl⟩ := p
    exact hret l vs n h' tk' F' N' hi hl
end

end BloomP
end

noncomputable section
namespace BloomP
/-! the law's own body, read off the written part -/
set_option maxRecDepth 100000 in
noncomputable def lawIs (w : World) : { q : List Stmt × Scope // ∃ (name qual : Str) (params : Arguments) (dV kV doc pm cdv ct oc : Value) (an od : Option Addr) (osl : Array (Option Value)), (BloomH.hd.heap_39 w.params).lookup 157 = some ⟨oc, od, .func (fnOf name qual params q.1 q.2 dV kV doc pm an cdv ct), osl⟩ } := by
  have _ : PySem.Challenge.rw_nz0358_01.row.prog = PySem.Challenge.rw_nz0358_01.row.prog ∧ BloomH.hd.heap_39 w.params = BloomH.hd.heap_39 w.params := by
    k_fill
    exact ⟨rfl, rfl⟩
  exact ⟨(_, _), _, _, _, _, _, _, _, _, _, _, _, _, _, by dsimp only; k_is⟩
noncomputable abbrev lawEnv (w : World) (L cN cC cB cL cS : Addr) : Env := envX (Str.ofString "law") (lawIs w).1.2 L 157 (.ref 156) [(Str.ofString "single", cS), (Str.ofString "lamps", cL), (Str.ofString "bloom", cB), (Str.ofString "count", cC), (Str.ofString "nums", cN)]
noncomputable abbrev lawA (w : World) (dp un : Nat) (gd : Option (List Code)) (L cN cC cB cL cS : Addr) : Around := ktrTop dp un gd (Str.ofString "law") (lawIs w).1.2 L 157 (.ref 156) [(Str.ofString "single", cS), (Str.ofString "lamps", cL), (Str.ofString "bloom", cB), (Str.ofString "count", cC), (Str.ofString "nums", cN)] []
/-- the statements i .. i + n - 1 of the law -/
noncomputable def lawSt (w : World) (i n : Nat) : List Stmt := ((lawIs w).1.1.drop i).take n
noncomputable abbrev lawP : Program := PySem.Challenge.rw_nz0358_01.row.prog
/-- a cell that holds v -/
noncomputable abbrev cellOf (v : Option Value) : Obj → Prop := fun o => o.data = .cell v
/-- what stands still throughout the law's call -/
structure Cx (w : World) (mean : ExcName → Option Value) (mg mb : Str → Option Value) (dp un : Nat) (A₀ : Around) (base h₀ : Heap) (L cN cC cB cL cS : Addr) : Prop where
  B : Below A₀ base [] h₀
  X : (BloomH.hd.heap_39 w.params).In h₀
  T : Top BloomH.hd.view_39 (looseW BloomH.hd.view_39 []) mean mg mb h₀
  hd : dp + 20 < recursionLimit
  hu : un + 160 < cLine
  c1 : @LT.lt Nat _ L cN
  c2 : @LT.lt Nat _ cN cC
  c3 : @LT.lt Nat _ cC cB
  c4 : @LT.lt Nat _ cB cL
  c5 : @LT.lt Nat _ cL cS
/-- where ways meet -/
noncomputable def Cut (P : Shared → Prop) (s : Shared) : Prop := P s
theorem wpI_cut {M : Model} {A : Around} {s : Shared} {env : Env} {st : Stmt} {rest : List Stmt} {Q : Flow → Shared → Prop} (P : Shared → Prop)
    (h : wpAny M A (exec st env) (fun f s₁ => f = .next ∧ Cut P s₁) (fun _ _ => False) s) (hn : ∀ s₁, P s₁ → wpI M A (execs rest env) Q s₁) : wpI M A (execs (st :: rest) env) Q s :=
  wpI_execs_any (wpAny_mono h (fun _ s₁ h₁ => ⟨h₁.1, hn s₁ h₁.2⟩) fun _ _ x => x)
/-- an address that is none of the cells -/
noncomputable def OffC (a cN cC cB cL cS : Addr) : Prop := @Ne Nat cS a ∧ @Ne Nat cL a ∧ @Ne Nat cB a ∧ @Ne Nat cC a ∧ @Ne Nat cN a
/-- another place and other counters, all else the same -/
noncomputable def Sh (s : Shared) (h : Heap) (tk : Nat) : Shared := { s with heap := h, toks := tk }
end BloomP
end

noncomputable section
namespace BloomP
theorem unhold {P : Prop} (h : P) : Hold P := h
/-! the ledger's unnamed rest -/
theorem off1_mem {D : Addr} : ∀ {l : List (Addr × Obj)}, LCg.Off1 D l → ∀ p ∈ l, p.1 ≠ D
  | [], _, _, h => nomatch h
  | _ :: _, x, p, h => by
    rcases List.mem_cons.mp h with rfl | h
    · exact x.1
    · exact off1_mem x.2 p h
theorem allLt_mem {d : Addr} : ∀ {l : List (Addr × Obj)}, AllLt d l → ∀ p ∈ l, @LT.lt Nat _ p.1 d
  | [], _, _, h => nomatch h
  | _ :: _, x, p, h => by
    rcases List.mem_cons.mp h with rfl | h
    · exact x.1
    · exact allLt_mem x.2 p h
theorem news_drop1 {h₀ h : Heap} {L : Addr} {a : Addr × Obj} {l : List (Addr × Obj)} (N : News h₀ L h (a :: l)) : News h₀ L h l := fun p hp => N p (.tail _ hp)
theorem news_drop2 {h₀ h : Heap} {L : Addr} {a b : Addr × Obj} {l : List (Addr × Obj)} (N : News h₀ L h (a :: b :: l)) : News h₀ L h (a :: l) := fun p hp => N p (by
  rcases List.mem_cons.mp hp with rfl | hp
  · exact .head _
  · exact .tail _ (.tail _ hp))
theorem news_drop3 {h₀ h : Heap} {L : Addr} {a b c : Addr × Obj} {l : List (Addr × Obj)} (N : News h₀ L h (a :: b :: c :: l)) : News h₀ L h (a :: b :: l) := fun p hp => N p (by
  rcases List.mem_cons.mp hp with rfl | hp
  · exact .head _
  · rcases List.mem_cons.mp hp with rfl | hp
    · exact .tail _ (.head _)
    · exact .tail _ (.tail _ (.tail _ hp)))
theorem allLt_ne {d : Addr} {l : List (Addr × Obj)} (h : AllLt d l) : ∀ p ∈ l, p.1 ≠ d := fun p hp => Nat.ne_of_lt (allLt_mem h p hp)
/-! a comprehension of any length -/
/-- the end of a comprehension's turn -/
noncomputable def CompTurn (h₀ : Heap) (L : Addr) (m : Str → Option Value) (s : Shared) (led : List (Addr × Obj)) (J : Value → Prop) (y : Value) (s₂ : Shared) : Prop := ∃ h' tk', s₂ = { s with heap := h', toks := tk' } ∧ Fr h₀ L h' m ∧ News h₀ L h' led ∧ J y
theorem CompTurn.intro {h₀ : Heap} {L : Addr} {m : Str → Option Value} {s : Shared} {led : List (Addr × Obj)} {J : Value → Prop} {y : Value} {h' : Heap} {tk' : Nat} (F : Fr h₀ L h' m) (N : News h₀ L h' led) (hJ : J y) : CompTurn h₀ L m s led J y { s with heap := h', toks := tk' } := ⟨h', tk', rfl, F, N, hJ⟩
section
variable {prog : Program} {w : World} {A : Around} {s : Shared} {h₀ : Heap} {L : Addr} {m : Str → Option Value} {env : Env}
theorem comp_rest {elt : Expr} {x : Str} {scope : Scope} {cl : List (Str × Addr)} {S : List (Addr × Obj) → Prop} {P : Nat → Value → Prop} {Fin : List Value → List (Addr × Obj) → Prop} {n : Nat} {news : List (Addr × Obj)} (J : Nat → List Value → Prop) (hS : S news)
    (turn : ∀ i v ys I oI C oC D m₂ h tk, i < n → J i ys → P i v → LCg.NsObj oC m₂ → m₂ x = some v → Fr h₀ L h m → News h₀ L h ((I, oI) :: (C, oC) :: (D, LCg.lst ys) :: news) → LCg.Off3 I C D news → ((@Ne Nat I C) ∧ (@Ne Nat I D) ∧ (@Ne Nat C D)) →
      wpAny (model prog w) A (eval elt (compEnvC scope cl C env)) (CompTurn h₀ L m s ((I, oI) :: (C, oC) :: (D, LCg.lst ys) :: news) fun y => J (i + 1) (ys ++ [y])) (fun _ _ => False) { s with heap := h, toks := tk })
    (fin : ∀ ys, J n ys → Fin ys news) : ∀ k i ys, i + k = n → J i ys → LCg.CompRest prog w A h₀ L m env elt x scope cl s S P Fin k i ys news
  | 0, i, ys, e, hJ => by
    obtain rfl : i = n := by omega
    exact LCg.CompRest.zero (fin ys hJ)
  | k + 1, i, ys, e, hJ => by
    refine LCg.CompRest.succ fun v I oI C oC D m₂ h tk E' hP hC hx F N off ne => ?_
    refine wpAny_mono (turn i v ys I oI C oC D m₂ h tk (by omega) hJ hP hC hx F N off ne) (fun y s₂ hy => ?_) fun _ _ x => x.elim
    obtain ⟨h', tk', rfl, F', N', hJ'⟩ := hy
    exact LCg.CompEnd.intro (s₁ := { s with heap := h, toks := tk }) F' N' news (fun p hp => hp) off hS (comp_rest J hS turn fin k (i + 1) (ys ++ [y]) (by omega) hJ')
end
theorem ints_get : ∀ {vs : List Value} {ns : List Int}, IntsAre vs ns → ∀ i : Nat, i < ns.length → ∃ t, vs[i]? = some (.int (ns.getD i 0) t)
  | _, _, .nil, i, h => absurd h (Nat.not_lt_zero _)
  | _, _, .cons n t _, 0, _ => ⟨t, rfl⟩
  | _, _, .cons n t h, i + 1, hi => by
    obtain ⟨t', e⟩ := ints_get h i (Nat.lt_of_succ_lt_succ hi)
    exact ⟨t', by simpa using e⟩
section
variable {prog : Program} {w : World} {A : Around} {E : Value → Shared → Prop} {s : Shared} {h₀ : Heap} {L : Addr} {m : Str → Option Value}
/-- an item of a list of the call's own, whatever it is -/
theorem item_vals {value slice : Expr} {l : Addr} {vs : List Value} {n : Nat} {k : Int} {u : Tok} {v : Value} {news : List (Addr × Obj)} {Q : Value → Shared → Prop} (h : Q v s) (N : News h₀ L s.heap news := by k_asm) (hm : (l, listOf vs.toArray n) ∈ news := by assumption) (hx : vs[k.toNat]? = some v := by assumption) (h0 : 0 ≤ k := by omega) (hhi : k < 2 ^ 63 := by omega)
    (hs : subscripted slice false (.ref l) (.int k u) = operate [.ref l, .int k u] (getItem (.ref l) (.int k u)) := by with_unfolding_all rfl) :
    wpAny (model prog w) A (subscriptTail value slice (.ref l) (.int k u)) Q E s :=
  tail_any (News.isList N hm).typeIs slot_list_getitem.lookup (wpAny_getItem_list (News.isList N hm) h0 hhi (by simpa using hx) h) hs
end
theorem addL_N {prog : Program} {w : World} {A : Around} {E : Value → Shared → Prop} {s : Shared} {h₀ : Heap} {L : Addr} {m : Str → Option Value} {a b : Addr} {vs ws : List Value} {n n2 : Nat} {news : List (Addr × Obj)} {Q : Value → Shared → Prop}
    (F : Fr h₀ L s.heap m) (N : News h₀ L s.heap news) (ha : (a, listOf vs.toArray n) ∈ news) (hb : (b, listOf ws.toArray n2) ∈ news) (hz : vs.length + ws.length ≤ 1048576)
    (h : ∀ D h', Fr h₀ L h' m → News h₀ L h' ((D, listOf (vs ++ ws).toArray 0) :: news) → (∀ p ∈ news, p.1 < D) → Q (.ref D) { s with heap := h' }) : wpAny (model prog w) A (binaryOp .Add (.ref a) (.ref b)) Q E s :=
  kmk_add_lit F N (News.isList N ha) (News.isList N hb) (by simp) h (by rw [sizeLine_eq]; simpa using by omega)
theorem mul1_N {prog : Program} {w : World} {A : Around} {E : Value → Shared → Prop} {s : Shared} {h₀ : Heap} {L : Addr} {m : Str → Option Value} {l : Addr} {v : Value} {n : Nat} {x : Int} {u : Tok} {news : List (Addr × Obj)} {Q : Value → Shared → Prop}
    (h : ∀ D h', Fr h₀ L h' m → News h₀ L h' ((D, listOf (List.replicate x.toNat v).toArray 0) :: news) → (∀ p ∈ news, p.1 < D) → Q (.ref D) { s with heap := h' })
    (F : Fr h₀ L s.heap m := by k_asm) (N : News h₀ L s.heap news := by k_asm) (hl : (l, listOf #[v] n) ∈ news := by k_mem) (h0 : 0 ≤ x := by omega) (h1 : x ≤ 256 := by omega) : wpAny (model prog w) A (binaryOp .Mult (.ref l) (.int x u)) Q E s :=
  KMa.mul (vs := [v]) F N (News.isList N hl) (by omega) (by omega) (by simp only [List.length_singleton]; omega) (by simp) h
end BloomP
end

noncomputable section
namespace BloomP
/-! the walk's lines -/
local macro_rules | `(tactic| walk_at "And") => `(tactic| ((first | (with_reducible refine And.intro True.intro ?_) | (with_reducible refine And.intro (Eq.refl Flow.next) ?_)); (try dsimp only)))
local macro_rules | `(tactic| walk_at "call builtin:len") => `(tactic| (k_here; (with_reducible refine len_oct ?_); (try dsimp only)))
local macro_rules | `(tactic| walk_at "subscriptTail") => `(tactic| (k_here; (with_reducible refine item_oct ?_); (try dsimp only)))
local macro_rules | `(tactic| walk_at "binaryOp LShift int int") => `(tactic| (k_here; (with_reducible refine lsh_oct ?_); (try dsimp only)))
local macro_rules | `(tactic| walk_at "pyIter ref") => `(tactic| refine hold ?_)
local macro_rules | `(tactic| walk_at "call ref") => `(tactic| (k_here; (with_reducible show wpAny _ _ (call (Value.ref 138) _) _ _ _); (k_dflt refine draw_call ?_); intro t9 h9 tk9 F9 N9; (try dsimp only); (try k_fold)))
local macro_rules | `(tactic| walk_at "call ref") => `(tactic| (k_here; (with_reducible show wpAny _ _ (call (Value.ref 145) _) _ _ _); (k_dflt refine key_call ?_); intro t9 h9 tk9 F9 N9; (try dsimp only); (try k_fold)))
local macro_rules | `(tactic| walk_at "call ref") => `(tactic| (k_here; (with_reducible show wpAny _ _ (call (Value.ref 117) _) _ _ _); (k_dflt refine may_call ?_); intro h9 tk9 F9 N9; (try dsimp only); (try k_fold)))
local macro_rules | `(tactic| walk_at "call ref") => `(tactic| (k_here; (with_reducible show wpAny _ _ (call (Value.ref 152) [Value.bytes _ _, Value.bytes _ _]) _ _ _); (k_dflt refine litBB_call ?_); intro h9 tk9 F9 N9; (try dsimp only); (try k_fold)))
local macro_rules | `(tactic| walk_at "call ref") => `(tactic| (k_here; (with_reducible show wpAny _ _ (call (Value.ref 152) [Value.bytes _ _, Value.ref _]) _ _ _); (k_dflt refine litBL_call ?_); intro h9 tk9 F9 N9; (try dsimp only); (try k_fold)))
local macro_rules | `(tactic| walk_at "call ref") => `(tactic| (k_here; (with_reducible show wpAny _ _ (call (Value.ref 131) _) _ _ _); (k_dflt refine bits_call ?_); intro l9 vs9 k9 h9 tk9 F9 N9 i9 o9; (try k_lt o9); (try dsimp only); (try k_fold)))
local macro_rules | `(tactic| walk_at "call ref") => `(tactic| (k_here; (with_reducible show wpAny _ _ (call (Value.ref 120) _) _ _ _); (k_dflt refine init_call ?_); intro x9 d9 t91 t92 t93 h9 tk9 F9 N9 o9 p9; (try k_lt o9); (try k_lt2 p9); (try dsimp only); (try k_fold)))
local macro_rules | `(tactic| walk_at "subscriptTail") => `(tactic| (k_here; (with_reducible show wpAny _ _ (subscriptTail _ _ (Value.ref _) (Value.int _ _)) _ _ _); (k_dflt refine item_vals ?_); (try dsimp only)))
local macro_rules | `(tactic| walk_at "binaryOp Mult ref int") => `(tactic| (k_here; (with_reducible show wpAny _ _ (binaryOp Operator.Mult (Value.ref _) (Value.int _ _)) _ _ _); (k_dflt refine mul1_N ?_); intro D' h' F' N' l1; (try k_lt l1); (try k_sweep)))
local macro_rules | `(tactic| walk_at "CompSrc") => `(tactic| refine hold ?_)
local macro_rules | `(tactic| walk_at "InvEndN") => `(tactic| refine hold ?_)
local macro_rules | `(tactic| walk_at "call type:bytes") => `(tactic| refine hold ?_)
local macro_rules | `(tactic| k_mem) => `(tactic| assumption)
local macro_rules | `(tactic| k_all) => `(tactic| assumption)
local macro_rules | `(tactic| k_ne) => `(tactic| first | assumption | exact Ne.symm (by assumption))
/-! end of the lines -/
theorem anew7 : True ∧ True := by
  w_top off
  first | (walk1; done) | exact ⟨trivial, trivial⟩
section
section
variable {w : World} {mean : ExcName → Option Value} {mg mb : Str → Option Value} {dp un : Nat} {gd : Option (List Code)} {A₀ : Around} {base h₀ : Heap} {L cN cC cB cL cS : Addr} {m : Str → Option Value} {s : Shared} {Q : Flow → Shared → Prop} {rest : List Stmt}
/-- the script's numbers -/
noncomputable def OkNums (ns : List Int) : Prop := 1 ≤ ns.length ∧ ns.length ≤ 20 ∧ ∀ n ∈ ns, 0 ≤ n ∧ n < 999983
theorem okNums_take {ns : List Int} (h : ¬ (List.map (fun k => Int.fmod k 999983) (List.take 20 ns)).length = 0) : OkNums (List.map (fun k => Int.fmod k 999983) (List.take 20 ns)) := by
  refine ⟨by omega, by rw [List.length_map, List.length_take]; omega, fun n hn => ?_⟩
  obtain ⟨k, _, rfl⟩ := List.mem_map.mp hn
  exact ⟨Int.fmod_nonneg_of_pos _ (by decide), Int.fmod_lt_of_pos _ (by decide)⟩
theorem okNums_five : OkNums [5] := ⟨by decide, by decide, fun n hn => by rw [List.mem_singleton.mp hn]; decide⟩
set_option maxRecDepth 100000 in
set_option maxHeartbeats 4000000 in
theorem seg_nums {sl : Addr} {vs : List Value} {ns : List Int} {news : List (Addr × Obj)} (oN : Obj) (cx : Cx w mean mg mb dp un A₀ base h₀ L cN cC cB cL cS) (F : Fr h₀ L s.heap (kstB m [(Str.ofString "script", .ref sl)])) (N : News h₀ L s.heap ((cN, oN) :: news))
    (dN : oN.data = .cell none) (nN : ∀ p ∈ news, p.1 ≠ cN)
    (hlist : h₀.IsList sl vs.toArray) (hints : IntsAre vs ns) (hlen : ns.length ≤ 63)
    (next : ∀ (h : Heap) (tk : Nat) (u : Str → Option Value) (oN : Obj) (nl : Addr) (k : Nat) (vs : List Value) (ns : List Int), Fr h₀ L h u → News h₀ L h ((nl, listOf vs.toArray k) :: (cN, oN) :: news) → oN.data = .cell (some (.ref nl)) →
      IntsAre vs ns → OkNums ns → @Ne Nat cN nl → (∀ p ∈ news, p.1 ≠ nl) → wpI (model lawP w) (lawA w dp un gd L cN cC cB cL cS) (execs rest (lawEnv w L cN cC cB cL cS)) Q { s with heap := h, toks := tk }) :
    wpI (model lawP w) (lawA w dp un gd L cN cC cB cL cS) (execs (lawSt w 0 2 ++ rest) (lawEnv w L cN cC cB cL cS)) Q s := by
  obtain ⟨B, X, T, hd, hu, -, -, -, -, -⟩ := cx
  unfold lawP
  revert X
  k_fill
  intro X
  have kMark := kstMark
  dsimp only [kstB] at F
  simp only [lawSt, lawIs, List.drop, List.take, List.cons_append, List.nil_append]
  refine wpI_execs_any ?_
  k_steps
  unfold Hold
  rename Fr _ _ _ _ => F1
  rename News _ _ _ _ => N1
  rename IntsAre _ (List.take 20 ns) => hI
  have hwl := hI.length
  refine LCg.CompSrc.ledger (by rfl) F1 N1 (.head _) (by rw [List.size_toArray, hwl, List.length_take, sizeLine_eq]; omega) ?_
  intro g
  clear F1 N1 hlist hints
  refine comp_rest (fun i ws => IntsAre ws (List.map (fun k => Int.fmod k 999983) (List.take i (List.take 20 ns)))) (.inr ⟨_, .head _, rfl, _, rfl⟩) ?turn ?fin _ 0 [] (by rw [Nat.zero_add]) .nil
  case turn =>
    intro i v ws I oI C oC D m₂ h tk hi hJ hP hC hx F2 N2 off ne
    rw [List.size_toArray, hwl] at hi
    obtain ⟨ti, hv⟩ := ints_get hI i hi
    rw [List.getElem?_toArray, hv] at hP
    obtain rfl := Option.some.inj hP
    clear off ne hP hv
    k_steps
    refine CompTurn.intro (by k_asm) (by k_asm) ?_
    have e : List.take (i + 1) (List.take 20 ns) = List.take i (List.take 20 ns) ++ [(List.take 20 ns).getD i 0] := by
      rw [List.take_add_one, List.getD_eq_getElem?_getD, List.getElem?_eq_getElem hi]
      rfl
    rw [e, List.map_append]
    exact hJ.append (.cons _ _ .nil)
  intro ws hI8
  rw [List.size_toArray, hwl, List.take_length] at hI8
  clear hI hwl
  k_steps
  rename (@Ne Nat _ _) ∧ (@Ne Nat cN _) ∧ _ => of9
  obtain ⟨n0, n1, n2⟩ := of9
  replace n2 := off1_mem n2
  refine wpI_cut (fun s₁ => ∃ (h : Heap) (tk : Nat) (u : Str → Option Value) (oN : Obj) (nl : Addr) (k : Nat) (vs : List Value) (ns : List Int), s₁ = { s with heap := h, toks := tk } ∧ Fr h₀ L h u ∧ News h₀ L h ((nl, listOf vs.toArray k) :: (cN, oN) :: news) ∧ oN.data = .cell (some (.ref nl)) ∧
      IntsAre vs ns ∧ OkNums ns ∧ @Ne Nat cN nl ∧ (∀ p ∈ news, p.1 ≠ nl)) ?_ ?_
  case refine_2 =>
    rintro s₁ ⟨h, tk, u, oN, nl, k, vs, ns, rfl, h1, h2, h3, h4, h5, h6, h7⟩
    exact next h tk u oN nl k vs ns h1 h2 h3 h4 h5 h6 h7
  k_steps
  case _ =>
    rename _ ∧ _ ∧ (@LT.lt Nat _ cN _) ∧ (AllLt _ news) => lt9
    obtain ⟨-, -, k1, k2⟩ := lt9
    rename News _ _ _ _ => N9
    exact ⟨_, _, _, _, _, _, _, _, rfl, by k_asm, news_drop2 (news_drop2 N9), by k_asm, .cons 5 _ .nil, okNums_five, Nat.ne_of_lt k1, allLt_ne k2⟩
  case _ =>
    rename News _ _ _ _ => N9
    exact ⟨_, _, _, _, _, _, _, _, rfl, by k_asm, news_drop2 N9, by k_asm, hI8, okNums_take (by omega), n1, n2⟩
end
end

theorem anew8 : True ∧ True := by
  w_top off
  first | (walk1; done) | exact ⟨trivial, trivial⟩
section
theorem draw_range {ns : List Int} (h : OkNums ns) (i : Int) (h0 : 0 ≤ i) : 0 ≤ draw ns i ∧ draw ns i < 999983 + 31 * (i + 1) := by
  obtain ⟨h1, h2, h3⟩ := h
  have hl : (0 : Int) < ns.length := by omega
  have d0 : Int.fdiv i ns.length = i / ns.length := Int.fdiv_eq_ediv_of_nonneg _ (by omega)
  have d1 : 0 ≤ i / (ns.length : Int) := Int.ediv_nonneg h0 (by omega)
  have d2 : i / (ns.length : Int) ≤ i := Int.ediv_le_self _ h0
  have g : 0 ≤ ns.getD (Int.fmod i ns.length).toNat 0 ∧ ns.getD (Int.fmod i ns.length).toNat 0 < 999983 := by
    rw [List.getD_eq_getElem?_getD]
    cases e : ns[(Int.fmod i ns.length).toNat]? with
    | none => exact ⟨by decide, by decide⟩
    | some v => exact h3 v (List.mem_of_getElem? e)
  unfold draw
  rw [d0]
  omega
/-- a number of bits out of the menu -/
noncomputable def mnu (x : Int) : Int := ([1, 4, 10, 3, 30, 45, 7, 16] : List Int).getD (Int.fmod x 8).toNat 0
theorem mnu_range (x : Int) : 1 ≤ mnu x ∧ mnu x ≤ 45 := by
  have h0 := Int.fmod_nonneg_of_pos x (b := 8) (by decide)
  have h1 := Int.fmod_lt_of_pos x (b := 8) (by decide)
  have e : ∀ n : Nat, n < 8 → 1 ≤ ([1, 4, 10, 3, 30, 45, 7, 16] : List Int).getD n 0 ∧ ([1, 4, 10, 3, 30, 45, 7, 16] : List Int).getD n 0 ≤ 45 := by decide
  exact e _ (by omega)
section
variable {w : World} {mean : ExcName → Option Value} {mg mb : Str → Option Value} {dp un : Nat} {gd : Option (List Code)} {A₀ : Around} {base h₀ : Heap} {L cN cC cB cL cS : Addr} {m : Str → Option Value} {s : Shared} {Q : Flow → Shared → Prop} {rest : List Stmt}
set_option maxRecDepth 100000 in
set_option maxHeartbeats 4000000 in
theorem seg_setup {nl : Addr} {k : Nat} {vs : List Value} {ns : List Int} {news : List (Addr × Obj)} (oN oC : Obj) (cx : Cx w mean mg mb dp un A₀ base h₀ L cN cC cB cL cS) (F : Fr h₀ L s.heap m) (N : News h₀ L s.heap ((cC, oC) :: news)) (hnl : (nl, listOf vs.toArray k) ∈ news) (hN : (cN, oN) ∈ news) (nC : ∀ p ∈ news, p.1 ≠ cC)
    (dN : oN.data = .cell (some (.ref nl))) (dC : oC.data = .cell none) (hints : IntsAre vs ns) (ok : OkNums ns)
    (next : ∀ (h : Heap) (tk : Nat) (u : Str → Option Value) (oC : Obj) (b c : Int) (tb tc : Tok), Fr h₀ L h (kstB u [(Str.ofString "bits", .int b tb)]) → News h₀ L h ((cC, oC) :: news) → oC.data = .cell (some (.int c tc)) →
      1 ≤ b → b ≤ 45 → 0 ≤ c → c ≤ 4 → wpI (model lawP w) (lawA w dp un gd L cN cC cB cL cS) (execs rest (lawEnv w L cN cC cB cL cS)) Q { s with heap := h, toks := tk }) :
    wpI (model lawP w) (lawA w dp un gd L cN cC cB cL cS) (execs (lawSt w 2 5 ++ rest) (lawEnv w L cN cC cB cL cS)) Q s := by
  obtain ⟨B, X, T, hd, hu, -, -, -, -, -⟩ := cx
  have l1 := ok.1
  have l2 := ok.2.1
  unfold lawP
  revert X
  k_fill
  intro X
  have kMark := kstMark
  simp only [lawSt, lawIs, List.drop, List.take, List.cons_append, List.nil_append]
  refine wpI_execs_any ?_
  k_steps
  refine wpI_execs_any ?_
  k_steps
  rename Fr _ _ _ _ => F1
  rename News _ _ _ _ => N1
  have hb := mnu_range (draw ns 0)
  unfold mnu at hb
  obtain ⟨b, hB⟩ : ∃ b, b = ([1, 4, 10, 3, 30, 45, 7, 16] : List Int).getD (Int.fmod (draw ns 0) 8).toNat 0 := ⟨_, rfl⟩
  rw [← hB] at hb F1
  clear hB
  obtain ⟨b1, b2⟩ := hb
  refine wpI_execs_any ?_
  k_steps
  refine wpI_cut (fun s₁ => ∃ (h : Heap) (tk : Nat) (u : Str → Option Value) (mo : Int) (t1 t2 t3 : Tok), s₁ = { s with heap := h, toks := tk } ∧ Fr h₀ L h (kstB u [(Str.ofString "bits", .int b t1), (Str.ofString "setup", .int (draw ns 0) t2), (Str.ofString "most", .int mo t3)]) ∧
    News h₀ L h ((cC, oC) :: news) ∧ 1 ≤ mo ∧ mo ≤ 5) ?_ ?_
  case refine_1 =>
    k_steps
    case _ => exact ⟨_, _, _, _, _, _, _, rfl, fr_pack (by k_asm) (by kst_all), news_drop1 (by k_asm), by decide, by decide⟩
    case _ => exact ⟨_, _, _, _, _, _, _, rfl, fr_pack (by k_asm) (by kst_all), news_drop1 (by k_asm), by decide, by decide⟩
  rintro s₁ ⟨h, tk, u, mo, t1, t2, t3, rfl, F2, N2, m1, m2⟩
  dsimp only [kstB] at F2
  try clear F1 N1
  refine wpI_execs_any ?_
  k_steps
  exact next _ _ _ _ b _ t1 _ (fr_pack (by k_asm) (by kst_all)) (by k_asm) (by k_asm) b1 b2 (Int.fmod_nonneg_of_pos _ (by omega)) (by have := Int.fmod_lt_of_pos (Int.fdiv (draw ns 0) 8) (b := mo) (by omega); omega)
end
end

theorem anew9 : True ∧ True := by
  w_top off
  first | (walk1; done) | exact ⟨trivial, trivial⟩
section
section
variable {w : World} {mean : ExcName → Option Value} {mg mb : Str → Option Value} {dp un : Nat} {gd : Option (List Code)} {A₀ : Around} {base h₀ : Heap} {L cN cC cB cL cS : Addr} {m : Str → Option Value} {s : Shared} {Q : Flow → Shared → Prop} {rest : List Stmt}
set_option maxRecDepth 100000 in
set_option maxHeartbeats 4000000 in
theorem seg_blooms {nl : Addr} {k : Nat} {vs : List Value} {ns : List Int} {b : Int} {tb : Tok} {news : List (Addr × Obj)} (oN oB : Obj) (cx : Cx w mean mg mb dp un A₀ base h₀ L cN cC cB cL cS) (F : Fr h₀ L s.heap (kstB m [(Str.ofString "bits", .int b tb)])) (N : News h₀ L s.heap ((cB, oB) :: news)) (hnl : (nl, listOf vs.toArray k) ∈ news) (hN : (cN, oN) ∈ news) (nB : ∀ p ∈ news, p.1 ≠ cB)
    (dN : oN.data = .cell (some (.ref nl))) (dB : oB.data = .cell none) (hints : IntsAre vs ns) (ok : OkNums ns) (b1 : 1 ≤ b) (b2 : b ≤ 45)
    (next : ∀ (h : Heap) (tk : Nat) (u : Str → Option Value) (oB : Obj) (x dx y dy : Addr) (b' : Int) (t1 t2 t3 t4 t5 t6 t7 t8 : Tok), Fr h₀ L h (kstB u [(Str.ofString "bits", .int b tb), (Str.ofString "other", .ref y)]) →
      News h₀ L h ((y, instObj 120 dy) :: (dy, bloomD w b' (pr b') t5 t6 t7 t8) :: (x, instObj 120 dx) :: (dx, bloomD w b (pr b) t1 t2 t3 t4) :: (cB, oB) :: news) → oB.data = .cell (some (.ref x)) →
      1 ≤ b' → b' ≤ 45 → @LT.lt Nat _ cB dx → (∀ p ∈ news, @LT.lt Nat _ p.1 dx) → @LT.lt Nat _ dx x → @LT.lt Nat _ x dy → @LT.lt Nat _ dy y → wpI (model lawP w) (lawA w dp un gd L cN cC cB cL cS) (execs rest (lawEnv w L cN cC cB cL cS)) Q { s with heap := h, toks := tk }) :
    wpI (model lawP w) (lawA w dp un gd L cN cC cB cL cS) (execs (lawSt w 7 2 ++ rest) (lawEnv w L cN cC cB cL cS)) Q s := by
  obtain ⟨B, X, T, hd, hu, -, -, -, -, -⟩ := cx
  have l1 := ok.1
  have l2 := ok.2.1
  unfold lawP
  revert X
  k_fill
  intro X
  have kMark := kstMark
  dsimp only [kstB] at F
  simp only [lawSt, lawIs, List.drop, List.take, List.cons_append, List.nil_append]
  refine wpI_execs_any ?_
  k_steps
  have hm := mnu_range (draw ns 7)
  unfold mnu at hm
  refine wpI_execs_any ?_
  k_steps
  rename (@LT.lt Nat _ cB _) ∧ (AllLt _ news) => q9
  rename News _ _ _ _ => N9
  exact next _ _ _ _ _ _ _ _ _ _ _ _ _ _ _ _ _ (fr_pack (by k_asm) (by kst_all)) (news_drop3 N9) (by k_asm) hm.1 hm.2 q9.1 (allLt_mem q9.2) (by assumption) (by omega) (by assumption)
end
end

theorem anew10 : True ∧ True := by
  w_top off
  first | (walk1; done) | exact ⟨trivial, trivial⟩
section
theorem BsAre.nil : BsAre [] [] := ⟨rfl, fun i v h => by simp at h⟩
theorem BsAre.snoc {vs : List Value} {as : List (Array UInt8)} (h : BsAre vs as) (a : Array UInt8) (t : Tok) : BsAre (vs ++ [.bytes a t]) (as ++ [a]) := by
  refine ⟨by simp [h.1], fun i v hv => ?_⟩
  by_cases hi : i < vs.length
  · rw [List.getElem?_append_left hi] at hv
    obtain ⟨a', t', ha, rfl⟩ := h.2 i v hv
    exact ⟨a', t', by rw [List.getElem?_append_left (by rw [← h.1]; exact hi)]; exact ha, rfl⟩
  · rw [List.getElem?_append_right (by omega)] at hv
    have h0 : i - vs.length = 0 := by
      have := (List.getElem?_eq_some_iff.mp hv).1
      simp at this; omega
    rw [h0] at hv
    obtain rfl : Value.bytes a t = v := by simpa using hv
    exact ⟨a, t, by rw [List.getElem?_append_right (by rw [← h.1]; omega), ← h.1, h0]; rfl, rfl⟩
/-- a key of the law's, by the number of its drawing -/
noncomputable def keyAt (ns : List Int) (i : Int) : Array UInt8 := byteArr (lkL (draw ns i))
/-- the keys that the law puts into the filter -/
noncomputable def putKeys (ns : List Int) (c : Nat) : List (Array UInt8) := (List.range c).map fun j => keyAt ns (1 + (j : Nat))
theorem putKeys_succ (ns : List Int) (c : Nat) : putKeys ns (c + 1) = putKeys ns c ++ [keyAt ns (1 + (c : Nat))] := by
  unfold putKeys; rw [List.range_succ, List.map_append]; rfl
theorem putKeys_length (ns : List Int) (c : Nat) : (putKeys ns c).length = c := by simp [putKeys]
noncomputable def askKeys (ns : List Int) (c : Nat) : List (Array UInt8) := putKeys ns c ++ [keyAt ns 5]
theorem keyAt_size (ns : List Int) (i : Int) : (keyAt ns i).size ≤ 6 := by
  have := lkL_len (draw ns i)
  unfold keyAt byteArr
  simpa using this
theorem BsAre.take {vs : List Value} {as : List (Array UInt8)} (h : BsAre vs as) (n : Nat) : BsAre (vs.take n) (as.take n) := by
  refine ⟨by simp [h.1], fun i v hv => ?_⟩
  have hi : i < n := by
    have := (List.getElem?_eq_some_iff.mp hv).1
    simp at this; omega
  rw [List.getElem?_take_of_lt hi] at hv ⊢
  exact h.2 i v hv
theorem BsAre.replicate (n : Nat) (a : Array UInt8) (t : Tok) : BsAre (List.replicate n (.bytes a t)) (List.replicate n a) := by
  refine ⟨by simp, fun i v hv => ?_⟩
  rw [List.getElem?_replicate] at hv ⊢
  split at hv
  · rename_i hi
    obtain rfl := Option.some.inj hv
    exact ⟨a, t, by rw [if_pos hi], rfl⟩
  · cases hv
theorem askKeys_size {ns : List Int} {c : Nat} {a : Array UInt8} (h : a ∈ askKeys ns c) : a.size ≤ 6 := by
  unfold askKeys at h
  rcases List.mem_append.mp h with h | h
  · obtain ⟨j, _, rfl⟩ := List.mem_map.mp h
    exact keyAt_size _ _
  · rw [List.mem_singleton.mp h]; exact keyAt_size _ _
theorem askKeys_take (ns : List Int) (c : Nat) : (askKeys ns c).take c = putKeys ns c := by
  unfold askKeys
  exact List.take_left' (putKeys_length ns c)
theorem pick_upto (vs : List Value) (c : Nat) (h : c ≤ vs.length) : slicePick vs.toArray none (some (c : Int)) none = (vs.take c).toArray := by
  rw [kms_pick_eq]
  unfold kms_pick kms_lo kms_hi
  simp only [show ¬ ((c : Int) < 0) by omega, if_false, List.drop_zero, Nat.sub_zero, Int.toNat_natCast]
  rw [Nat.min_eq_left (by simpa using h)]
theorem octets_eq (b : Int) (c : Nat) : Int.fdiv ((if (c : Int) * b > 64 then (c : Int) * b else 64) + 7) 8 = lenOf b c := by
  unfold lenOf wantedOf
  congr 2
  split <;> split <;> omega
noncomputable def IsFn (h : Heap) (f : Addr) : Prop := ∃ o fd, h.get? f = some o ∧ o.data = .func fd
theorem wpI_def2 {M : Model} {A : Around} {s : Shared} {env : Env} {pos : Pos} {f : Addr} {first : List Value} {e : Expr} {rest : List Expr} {Q : Value → Shared → Prop}
    (h : wpAny M A (spliced (backTo pos (starEach (e :: rest) env))) (fun vs s₁ => Hold (IsFn s₁.heap f ∧ wpI M A (call (.ref f) (first ++ vs)) Q s₁)) (fun _ _ => False) s)
    (he : starEach (e :: rest) env = (false, eval e env) :: starEach rest env := by rfl)
    (hplain : (backTo pos (starEach rest env)).any (·.1) = false := by rfl) :
    wpI M A (callWith pos (.ref f) first (backTo pos (starEach (e :: rest) env)) []) Q s := wpI_def1 h he hplain
/-! what make gives, seen from without -/
theorem pr_range (b : Int) : 1 ≤ pr b ∧ pr b ≤ 30 := by
  unfold pr
  split
  · omega
  · split <;> omega
theorem pr_min (b : Int) : pr b = if (if Int.fdiv (b * 69) 100 > 1 then Int.fdiv (b * 69) 100 else 1) < 30 then if Int.fdiv (b * 69) 100 > 1 then Int.fdiv (b * 69) 100 else 1 else 30 := by
  unfold pr
  (repeat' split) <;> omega
theorem lenOf_range {b : Int} {n : Nat} (h0 : 0 ≤ b) (h1 : b ≤ 1024) (hn : n ≤ 64) : 8 ≤ lenOf b n ∧ lenOf b n ≤ 8192 := by
  have hW : 64 ≤ wantedOf b n ∧ wantedOf b n ≤ 65536 := by
    unfold wantedOf
    have h1 : (n : Int) * b ≤ 64 * 1024 := Int.mul_le_mul (by omega) h1 (by omega) (by omega)
    split <;> omega
  have e : lenOf b n = (wantedOf b n + 7) / 8 := Int.fdiv_eq_ediv_of_nonneg _ (by decide)
  rw [e]; omega
theorem mk_size (b p : Int) (ks : List (Array UInt8)) : (mk b p ks).size = (lenOf b ks.length).toNat + 1 := by
  unfold mk
  rw [Array.size_push, mkL_size]
  simp
theorem mk_last {b p : Int} {ks : List (Array UInt8)} (h0 : 0 ≤ p) (h1 : p < 256) : oct (mk b p ks) (lenOf b ks.length) = p := by
  unfold mk oct
  generalize e : mkL b p ks.length (Array.replicate (lenOf b ks.length).toNat 0) ks = M
  have hM : M.size = (lenOf b ks.length).toNat := by rw [← e, mkL_size]; simp
  rw [← hM, Array.getD_eq_getD_getElem?, Array.getElem?_push_size, Option.getD_some]
  have : p.toNat < 256 := by omega
  rw [show (p.toNat.toUInt8).toNat = p.toNat from UInt8.toNat_ofNat'.trans (Nat.mod_eq_of_lt (by omega))]
  omega
end

theorem anew11 : True ∧ True := by
  w_top off
  first | (walk1; done) | exact ⟨trivial, trivial⟩
section
section
variable {w : World} {mean : ExcName → Option Value} {mg mb : Str → Option Value} {dp un : Nat} {gd : Option (List Code)} {A₀ : Around} {base h₀ : Heap} {L cN cC cB cL cS : Addr} {m : Str → Option Value} {s : Shared} {Q : Flow → Shared → Prop} {rest : List Stmt}
local macro_rules | `(tactic| walk_at "binaryOp Add ref ref") => `(tactic| refine hold ?_)
set_option maxRecDepth 100000 in
set_option maxHeartbeats 4000000 in
theorem seg_asked {nl : Addr} {k : Nat} {vs : List Value} {ns : List Int} {v1 v2 : Value} {tc : Tok} {c : Nat} {news : List (Addr × Obj)} (oN oC : Obj) (cx : Cx w mean mg mb dp un A₀ base h₀ L cN cC cB cL cS) (F : Fr h₀ L s.heap (kstB m [(Str.ofString "bits", v1), (Str.ofString "other", v2)]))
    (N : News h₀ L s.heap news) (hnl : (nl, listOf vs.toArray k) ∈ news) (hN : (cN, oN) ∈ news) (hC : (cC, oC) ∈ news)
    (dN : oN.data = .cell (some (.ref nl))) (dC : oC.data = .cell (some (.int (c : Int) tc))) (hints : IntsAre vs ns) (ok : OkNums ns) (hc : c ≤ 4)
    (next : ∀ (h : Heap) (tk : Nat) (u : Str → Option Value) (al : Addr) (ak : Nat) (kvs : List Value), Fr h₀ L h (kstB u [(Str.ofString "bits", v1), (Str.ofString "other", v2), (Str.ofString "asked", .ref al)]) →
      News h₀ L h ((al, listOf kvs.toArray ak) :: news) → BsAre kvs (askKeys ns c) → (∀ p ∈ news, @LT.lt Nat _ p.1 al) → wpI (model lawP w) (lawA w dp un gd L cN cC cB cL cS) (execs rest (lawEnv w L cN cC cB cL cS)) Q { s with heap := h, toks := tk }) :
    wpI (model lawP w) (lawA w dp un gd L cN cC cB cL cS) (execs (lawSt w 9 1 ++ rest) (lawEnv w L cN cC cB cL cS)) Q s := by
  obtain ⟨B, X, T, hd, hu, -, -, -, -, -⟩ := cx
  have okd := draw_range ok
  have l1 := ok.1
  have l2 := ok.2.1
  have d5 := (okd 5 (by decide)).1
  unfold lawP
  revert X
  k_fill
  intro X
  have kMark := kstMark
  dsimp only [kstB] at F
  simp only [lawSt, lawIs, List.drop, List.take, List.cons_append, List.nil_append]
  refine wpI_execs_any ?_
  k_steps
  unfold Hold
  rename IsRange _ _ _ _ _ _ _ _ => rg
  rename Fr _ _ _ _ => F1
  rename News _ _ _ _ => N1
  refine LCg.CompSrc.range (by rfl) F1 N1 rg (small_one (by omega) (by omega) (by omega) (by omega)) (rangeSize_nat _ _) (by rw [sizeLine_eq]; omega) ?_
  intro g
  clear F1 N1 rg
  refine comp_rest (fun i ys => BsAre ys (putKeys ns i)) trivial ?turn ?fin _ 0 [] (by rfl) BsAre.nil
  case turn =>
    intro i v ys I oI C oC D m₂ h tk hi hJ hP hC hx F2 N2 off ne
    obtain ⟨ti, rfl⟩ := hP
    clear off ne
    have di := (okd (1 + (0 + (i : Int))) (by omega)).1
    k_steps
    exact CompTurn.intro (by k_asm) (by k_asm) (by rw [putKeys_succ, Int.zero_add]; exact hJ.snoc _ _)
  case fin =>
    intro ys hJ
    have hyl := hJ.1
    rw [putKeys_length] at hyl
    k_steps
    unfold Hold
    rename Fr _ _ _ _ => F8
    rename News _ _ _ _ => N8
    refine addL_N F8 N8 (.tail _ (.head _)) (.head _) (by rw [hyl, List.length_singleton]; omega) ?_
    intro D8 h8 F9 N9 lt9
    clear F8 N8
    k_steps
    rename News _ _ _ _ => N10
    refine next _ _ _ _ _ _ (fr_pack (by k_asm) (by kst_all)) (news_drop2 (news_drop2 N10)) ?_ (fun p hp => lt9 p (.tail _ (.tail _ hp)))
    have e : 0 + ((c : Int) - 0).toNat = c := by omega
    rw [e] at hJ
    exact hJ.snoc _ _
end
end

theorem anew12 : True ∧ True := by
  w_top off
  first | (walk1; done) | exact ⟨trivial, trivial⟩
section
section
variable {w : World} {mean : ExcName → Option Value} {mg mb : Str → Option Value} {dp un : Nat} {gd : Option (List Code)} {A₀ : Around} {base h₀ : Heap} {L cN cC cB cL cS : Addr} {m : Str → Option Value} {s : Shared} {Q : Flow → Shared → Prop} {rest : List Stmt}
local macro_rules | `(tactic| walk_at "subscriptTail") => `(tactic| (k_here; (with_reducible show wpAny _ _ (subscriptTail _ (Expr.Slice _ _ none _) (Value.ref _) (Value.ref _)) _ _ _); refine hold ?_))
set_option maxRecDepth 100000 in
set_option maxHeartbeats 4000000 in
theorem seg_held {x dx al : Addr} {ak : Nat} {kvs : List Value} {ns : List Int} {b : Int} {v2 : Value} {tb tc t1 t2 t3 t4 : Tok} {c : Nat} {news : List (Addr × Obj)} (oC oB : Obj) (cx : Cx w mean mg mb dp un A₀ base h₀ L cN cC cB cL cS) (F : Fr h₀ L s.heap (kstB m [(Str.ofString "bits", .int b tb), (Str.ofString "other", v2), (Str.ofString "asked", .ref al)]))
    (N : News h₀ L s.heap news) (hal : (al, listOf kvs.toArray ak) ∈ news) (hx : (x, instObj 120 dx) ∈ news) (hdx : (dx, bloomD w b (pr b) t1 t2 t3 t4) ∈ news) (hC : (cC, oC) ∈ news) (hB : (cB, oB) ∈ news)
    (dC : oC.data = .cell (some (.int (c : Int) tc))) (dB : oB.data = .cell (some (.ref x))) (hkv : BsAre kvs (askKeys ns c)) (hc : c ≤ 4) (b1 : 1 ≤ b) (b2 : b ≤ 45)
    (next : ∀ (h : Heap) (tk : Nat) (u : Str → Option Value) (th to : Tok), Fr h₀ L h (kstB u [(Str.ofString "other", v2), (Str.ofString "asked", .ref al), (Str.ofString "held", .bytes (mk b (pr b) (putKeys ns c)) th), (Str.ofString "octets", .int (lenOf b c) to)]) →
      News h₀ L h news → wpI (model lawP w) (lawA w dp un gd L cN cC cB cL cS) (execs rest (lawEnv w L cN cC cB cL cS)) Q { s with heap := h, toks := tk }) :
    wpI (model lawP w) (lawA w dp un gd L cN cC cB cL cS) (execs (lawSt w 10 3 ++ rest) (lawEnv w L cN cC cB cL cS)) Q s := by
  obtain ⟨B, X, T, hd, hu, -, -, -, -, -⟩ := cx
  unfold lawP
  revert X
  k_fill
  intro X
  have kMark := kstMark
  dsimp only [kstB] at F
  simp only [lawSt, lawIs, List.drop, List.take, List.cons_append, List.nil_append]
  have hkl : kvs.length = c + 1 := by rw [hkv.1]; simp [askKeys, putKeys_length]
  refine wpI_execs_cons (wpI_Assign (wpI_method ?_))
  k_steps
  refine wpI_def2 ?_
  k_steps
  refine unhold ?_
  refine kmk_slice (s := ⟨_, _, _, _, _⟩) F N (News.isList N hal) (by constructor) (by constructor) ?_ (by with_unfolding_all rfl) (by intro _; with_unfolding_all rfl) (by rw [List.size_toArray, sizeLine_eq]; omega)
  intro D8 h8 F1 N1 _
  rw [pick_upto kvs c (by omega)] at N1
  clear F N
  dsimp only
  k_steps
  unfold Hold
  have hkt : BsAre (kvs.take c) (putKeys ns c) := by
    have := hkv.take c
    rwa [askKeys_take] at this
  refine ⟨⟨_, _, (X.keeps F1.keep) _ _ (by k_is), rfl⟩, ?_⟩
  have hpr := pr_range b
  have hll := lenOf_range (b := b) (n := c) (by omega) (by omega) (by omega)
  k_dflt (refine' TellI.use (make_tells w x dx _ b (pr b) _ _ _ _ _ _ (putKeys ns c) _ ?hx ?hdx ?hkl hkt b1 (by omega) hpr.1 hpr.2 (by rw [putKeys_length]; omega) ?hsz) ?k1 F1 ?k3 N1 ?k5 ?kK ?kd ?ku ?_; (case hx => k_mem); (case hdx => k_mem); (case hkl => k_mem); (case k1 => k_asm); (case k3 => k_asm); (case k5 => k_asm); (case kK => exact rfl); (case kd => ktr_room); (case ku => ktr_units))
  case hsz =>
    intro a ha
    obtain ⟨j, _, rfl⟩ := List.mem_map.mp ha
    have := keyAt_size ns (1 + (j : Nat))
    omega
  intro r9 n9 h9 tk9 F9 N9 p9
  obtain ⟨e9, t9, q9⟩ := p9
  subst e9
  subst q9
  dsimp only
  clear F1 N1
  have hz := mk_size b (pr b) (putKeys ns c)
  have hlast := mk_last (b := b) (p := pr b) (ks := putKeys ns c) (by omega) (by omega)
  rw [putKeys_length] at hz hlast
  obtain ⟨H, hH⟩ : ∃ H, Hold (H = mk b (pr b) (putKeys ns c)) := ⟨_, hold rfl⟩
  have hH' : mk b (pr b) (putKeys ns c) = H := Eq.symm hH
  rw [hH'] at hz hlast
  simp only [hH']
  clear hH'
  k_steps
  refine wpI_execs_any ?_
  k_steps
  rename Fr _ _ _ _ => F2
  rename News _ _ _ _ => N2
  rw [octets_eq] at F2
  obtain ⟨O, hO⟩ : ∃ O, Hold (O = lenOf b c) := ⟨_, hold rfl⟩
  have hO' : lenOf b c = O := Eq.symm hO
  rw [hO'] at hz hlast F2 hll
  clear hO'
  have hz2 : (H.size : Int) = O + 1 := by omega
  have hz3 : H.size ≤ 1048577 := by omega
  have k0 : 0 ≤ O := by omega
  have k1 : O < (H.size : Int) := by omega
  refine wpI_cut (fun s₁ => ∃ (h : Heap) (tk : Nat) (u : Str → Option Value) (th to : Tok), s₁ = { s with heap := h, toks := tk } ∧ Fr h₀ L h (kstB u [(Str.ofString "other", v2), (Str.ofString "asked", .ref al), (Str.ofString "held", .bytes H th), (Str.ofString "octets", .int O to)]) ∧
      News h₀ L h news) ?_ ?_
  case refine_2 =>
    rintro s₁ ⟨h, tk, u, th, to, rfl, F3, N3⟩
    have eH : H = _ := hH
    have eO : O = _ := hO
    rw [eH, eO] at F3
    exact next h tk u th to F3 N3
  k_steps
  all_goals first
    | exact absurd hz2 (by assumption)
    | exact absurd (hlast.trans (pr_min b)) (by assumption)
    | exact ⟨_, _, _, _, _, rfl, fr_pack (by k_asm) (by kst_all), news_drop1 (by k_asm)⟩
end
end

theorem anew13 : True ∧ True := by
  w_top off
  first | (walk1; done) | exact ⟨trivial, trivial⟩
section
/-- each key alone, as often as there are keys -/
noncomputable def aloneL (b : Int) (c : Nat) (ks : List (Array UInt8)) : List (Array UInt8) := ks.map fun key => mk b (pr b) (List.replicate (max 1 c) key)
section
variable {w : World} {mean : ExcName → Option Value} {mg mb : Str → Option Value} {dp un : Nat} {gd : Option (List Code)} {A₀ : Around} {base h₀ : Heap} {L cN cC cB cL cS : Addr} {m : Str → Option Value} {s : Shared} {Q : Flow → Shared → Prop} {rest : List Stmt}
set_option maxRecDepth 100000 in
set_option maxHeartbeats 4000000 in
theorem seg_alone {x dx al : Addr} {ak : Nat} {kvs : List Value} {ns : List Int} {b : Int} {v2 v3 v4 : Value} {tc t1 t2 t3 t4 : Tok} {c : Nat} {news : List (Addr × Obj)} (oC oB : Obj) (cx : Cx w mean mg mb dp un A₀ base h₀ L cN cC cB cL cS) (F : Fr h₀ L s.heap (kstB m [(Str.ofString "other", v2), (Str.ofString "asked", .ref al), (Str.ofString "held", v3), (Str.ofString "octets", v4)]))
    (N : News h₀ L s.heap news) (hal : (al, listOf kvs.toArray ak) ∈ news) (hx : (x, instObj 120 dx) ∈ news) (hdx : (dx, bloomD w b (pr b) t1 t2 t3 t4) ∈ news) (hC : (cC, oC) ∈ news) (hB : (cB, oB) ∈ news)
    (dC : oC.data = .cell (some (.int (c : Int) tc))) (dB : oB.data = .cell (some (.ref x))) (hkv : BsAre kvs (askKeys ns c)) (hc : c ≤ 4) (b1 : 1 ≤ b) (b2 : b ≤ 45)
    (next : ∀ (h : Heap) (tk : Nat) (u : Str → Option Value) (ol : Addr) (ok : Nat) (ovs : List Value), Fr h₀ L h (kstB u [(Str.ofString "other", v2), (Str.ofString "asked", .ref al), (Str.ofString "held", v3), (Str.ofString "octets", v4), (Str.ofString "alone", .ref ol)]) →
      News h₀ L h ((ol, listOf ovs.toArray ok) :: news) → BsAre ovs (aloneL b c (askKeys ns c)) → (∀ p ∈ news, @LT.lt Nat _ p.1 ol) → wpI (model lawP w) (lawA w dp un gd L cN cC cB cL cS) (execs rest (lawEnv w L cN cC cB cL cS)) Q { s with heap := h, toks := tk }) :
    wpI (model lawP w) (lawA w dp un gd L cN cC cB cL cS) (execs (lawSt w 13 1 ++ rest) (lawEnv w L cN cC cB cL cS)) Q s := by
  obtain ⟨B, X, T, hd, hu, -, -, -, -, -⟩ := cx
  unfold lawP
  revert X
  k_fill
  intro X
  have kMark := kstMark
  dsimp only [kstB] at F
  simp only [lawSt, lawIs, List.drop, List.take, List.cons_append, List.nil_append]
  have hkl : kvs.length = c + 1 := by rw [hkv.1]; simp [askKeys, putKeys_length]
  refine wpI_execs_cons ?_
  k_dflt (refine' Assign_comp_I (fun i ys => BsAre ys (aloneL b c ((askKeys ns c).take i))) (by rfl) F N hal (by rw [sizeLine_eq]; omega) ?hiter (by with_unfolding_all rfl) (by with_unfolding_all rfl) (by decide) (by rfl) (by decide) (by rfl) (by rfl) (by rfl) BsAre.nil ?turn ?done)
  case hiter => k_steps
  case done =>
    intro D ys h tk hJ F1 N1 lt
    rw [hkv.1, List.take_length] at hJ
    exact ⟨rfl, next _ _ _ _ _ _ (fr_pack F1 (by kst_all)) N1 hJ lt⟩
  case turn =>
    intro i v ys I oI C oC' D m₂ h tk hv hJ hC hx F1 N1 off ne
    obtain ⟨key, tkey, hkey, rfl⟩ := hkv.2 i v hv
    clear off ne
    refine wpI_method ?_
    k_steps
    refine wpI_def2 ?_
    k_steps
    unfold Hold
    rename Fr _ _ _ _ => F2
    rename News _ _ _ _ => N2
    have eM : (if (c : Int) > 1 then (c : Int) else 1).toNat = max 1 c := by split <;> omega
    rw [eM] at N2
    have hks := askKeys_size (List.mem_of_getElem? hkey)
    have hpr := pr_range b
    refine ⟨⟨_, _, (X.keeps F2.keep) _ _ (by k_is), rfl⟩, ?_⟩
    k_dflt (refine' TellI.use (make_tells w x dx _ b (pr b) _ _ _ _ _ _ (List.replicate (max 1 c) key) _ ?hx ?hdx ?hkl (BsAre.replicate _ _ _) b1 (by omega) hpr.1 hpr.2 (by rw [List.length_replicate]; omega) ?hsz) ?k1 F2 ?k3 N2 ?k5 ?kK ?kd ?ku ?_; (case hx => k_mem); (case hdx => k_mem); (case hkl => k_mem); (case k1 => k_asm); (case k3 => k_asm); (case k5 => k_asm); (case kK => exact rfl); (case kd => ktr_room); (case ku => ktr_units))
    case hsz =>
      intro a ha
      rw [List.eq_of_mem_replicate ha]
      omega
    intro r9 n9 h9 tk9 F9 N9 p9
    obtain ⟨e9, t9, q9⟩ := p9
    subst e9
    subst q9
    refine ⟨_, _, rfl, F9, kst_newsOf N9 (by intro p hp; exact .tail _ (.tail _ hp)), ?_⟩
    rw [List.take_add_one, hkey]
    unfold aloneL
    rw [List.map_append]
    exact hJ.snoc _ _
end
end

theorem anew14 : True ∧ True := by
  w_top off
  first | (walk1; done) | exact ⟨trivial, trivial⟩
section
theorem wpI_cutI {M : Model} {A : Around} {s : Shared} {env : Env} {st : Stmt} {rest : List Stmt} {Q : Flow → Shared → Prop} (P : Shared → Prop)
    (h : wpI M A (exec st env) (fun f s₁ => f = .next ∧ Cut P s₁) s) (hn : ∀ s₁, P s₁ → wpI M A (execs rest env) Q s₁) : wpI M A (execs (st :: rest) env) Q s :=
  wpI_execs_cons (wpI_mono h fun _ s₁ h₁ => ⟨h₁.1, hn s₁ h₁.2⟩)
theorem ints_replicate (n : Nat) (v : Int) (t : Tok) : IntsAre (List.replicate n (Value.int v t)) (List.replicate n v) := by
  induction n with
  | zero => exact .nil
  | succ n ih => exact .cons v t ih
theorem bs_get {vs : List Value} {as : List (Array UInt8)} (h : BsAre vs as) (i : Nat) (hi : i < as.length) : ∃ t, vs[i]? = some (.bytes (as.getD i #[]) t) := by
  have hv : i < vs.length := by rw [h.1]; exact hi
  obtain ⟨a, t, ha, e⟩ := h.2 i _ (List.getElem?_eq_getElem hv)
  exact ⟨t, by rw [List.getElem?_eq_getElem hv, e, List.getD_eq_getElem?_getD, ha]; rfl⟩
theorem getD_mem {as : List (Array UInt8)} {i : Nat} (h : i < as.length) : as.getD i #[] ∈ as := by
  rw [List.getD_eq_getElem?_getD, List.getElem?_eq_getElem h]
  exact List.getElem_mem h
/-! rows laid over one another -/
noncomputable def orK (as : List (Array UInt8)) : Nat → Nat → Int
  | 0, _ => 0
  | i + 1, j => Builtin.bitOr (orK as i j) (oct (as.getD i #[]) (j : Nat))
noncomputable def lampsL (as : List (Array UInt8)) (i n : Nat) : List Int := (List.range n).map (orK as i)
/-- while row i is laid over: the first q places stand -/
noncomputable def lampsM (as : List (Array UInt8)) (i n q : Nat) : List Int := (List.range n).map fun j => if j < q then orK as (i + 1) j else orK as i j
theorem lampsL_zero (as : List (Array UInt8)) (n : Nat) : lampsL as 0 n = List.replicate n 0 := by
  unfold lampsL
  apply List.ext_getElem
  · simp
  · intro i h1 h2
    simp [orK]
theorem lampsM_zero (as : List (Array UInt8)) (i n : Nat) : lampsM as i n 0 = lampsL as i n := by
  unfold lampsM lampsL
  simp
theorem lampsM_full (as : List (Array UInt8)) (i n : Nat) : lampsM as i n n = lampsL as (i + 1) n := by
  unfold lampsM lampsL
  apply List.map_congr_left
  intro j hj
  rw [if_pos (List.mem_range.mp hj)]
theorem lampsM_length (as : List (Array UInt8)) (i n q : Nat) : (lampsM as i n q).length = n := by simp [lampsM]
theorem lampsL_length (as : List (Array UInt8)) (i n : Nat) : (lampsL as i n).length = n := by simp [lampsL]
theorem lampsM_at (as : List (Array UInt8)) (i n q : Nat) (h : q < n) : (lampsM as i n q).getD q 0 = orK as i q := by
  unfold lampsM
  rw [List.getD_eq_getElem?_getD, List.getElem?_map, List.getElem?_range h]
  simp
theorem lampsM_step (as : List (Array UInt8)) (i n q : Nat) : (lampsM as i n q).set q (Builtin.bitOr (orK as i q) (oct (as.getD i #[]) (q : Nat))) = lampsM as i n (q + 1) := by
  unfold lampsM
  apply List.ext_getElem
  · simp
  · intro j h1 h2
    rw [List.getElem_set]
    simp only [List.getElem_map, List.getElem_range]
    by_cases e : q = j
    · subst e
      rw [if_pos rfl, if_pos (Nat.lt_succ_self _)]
      rfl
    · rw [if_neg e]
      have : j < q ↔ j < q + 1 := by omega
      simp only [this]
end

theorem anew15 : True ∧ True := by
  w_top off
  first | (walk1; done) | exact ⟨trivial, trivial⟩
section
section
variable {w : World} {mean : ExcName → Option Value} {mg mb : Str → Option Value} {dp un : Nat} {gd : Option (List Code)} {A₀ : Around} {base h₀ : Heap} {L cN cC cB cL cS : Addr} {m : Str → Option Value} {s : Shared} {Q : Flow → Shared → Prop} {rest : List Stmt}
set_option maxRecDepth 100000 in
set_option maxHeartbeats 4000000 in
theorem seg_lay {ol D : Addr} {okk ln c O : Nat} {ovs lvs : List Value} {as : List (Array UInt8)} {v1 v2 v3 : Value} {tc to : Tok} {oC oL : Obj} {news : List (Addr × Obj)} (cx : Cx w mean mg mb dp un A₀ base h₀ L cN cC cB cL cS)
    (F : Fr h₀ L s.heap (kstB m [(Str.ofString "other", v1), (Str.ofString "asked", v2), (Str.ofString "held", v3), (Str.ofString "octets", .int (O : Int) to), (Str.ofString "alone", .ref ol)]))
    (N : News h₀ L s.heap ((D, listOf lvs.toArray ln) :: news)) (hC : (cC, oC) ∈ news) (hL : (cL, oL) ∈ news) (hol : (ol, listOf ovs.toArray okk) ∈ news) (lt : ∀ p ∈ news, @LT.lt Nat _ p.1 D)
    (dC : oC.data = .cell (some (.int (c : Int) tc))) (dL : oL.data = .cell (some (.ref D))) (hov : BsAre ovs as) (hlen : as.length = c + 1) (hc : c ≤ 4) (hO : O ≤ 200) (hsz : ∀ a ∈ as, a.size = O + 1) (hints : IntsAre lvs (lampsL as 0 O))
    (next : ∀ (h : Heap) (tk : Nat) (u : Str → Option Value) (lvs : List Value), Fr h₀ L h (kstB u [(Str.ofString "other", v1), (Str.ofString "asked", v2), (Str.ofString "held", v3), (Str.ofString "octets", .int (O : Int) to), (Str.ofString "alone", .ref ol)]) →
      News h₀ L h ((D, listOf lvs.toArray ln) :: news) → IntsAre lvs (lampsL as c O) →
      wpI (model lawP w) (lawA w dp un gd L cN cC cB cL cS) (execs rest (lawEnv w L cN cC cB cL cS)) Q { s with heap := h, toks := tk }) :
    wpI (model lawP w) (lawA w dp un gd L cN cC cB cL cS) (execs (lawSt w 15 1 ++ rest) (lawEnv w L cN cC cB cL cS)) Q s := by
  obtain ⟨B, X, T, hd, hu, -, -, -, -, -⟩ := cx
  unfold lawP
  revert X
  k_fill
  intro X
  have kMark := kstMark
  dsimp only [kstB] at F
  simp only [lawSt, lawIs, List.drop, List.take, List.cons_append, List.nil_append]
  have hC' : (cC, oC) ∈ (D, listOf lvs.toArray ln) :: news := .tail _ hC
  refine wpI_execs_any ?_
  k_steps
  unfold Hold
  rename IsRange _ _ _ _ _ _ _ _ => rg
  rename Fr _ _ _ _ => lF
  rename News _ _ _ _ => lN
  refine' kst_range (fun d : List Value => (D, listOf d.toArray ln) :: news) (fun _ => []) (fun _ => True) [Str.ofString "j"] (fun pre d => IntsAre d (lampsL as pre.length O)) lvs (by rfl) rg (small_one (by omega) (by omega) (by omega) (by omega)) (rangeSize_nat _ _) lF lN trivial (List.forall_mem_nil _) hints ?kt ?kd
  case kd =>
    rintro d u8 h8 tk8 - e8 F8 N8
    rw [rangeKs_length] at e8
    dsimp only [kstB] at F8
    have ec : ((c : Int) - 0).toNat = c := by omega
    rw [ec] at e8
    exact ⟨rfl, next _ _ _ d (fr_pack F8 (by kst_all)) N8 e8⟩
  rintro d pre i ti u h tk own ei hi ho - e4 F4 N4
  dsimp only [kstB] at F4
  simp only [List.cons_append] at N4
  clear lF lN rg
  have hCo : (cC, oC) ∈ (D, listOf d.toArray ln) :: (news ++ own) := .tail _ (List.mem_append_left _ hC)
  k_steps
  unfold Hold
  rename IsRange _ _ _ _ _ _ _ _ => rg
  rename Fr _ _ _ _ => lF
  rename News _ _ _ _ => lN
  have hip : pre.length < as.length := by omega
  obtain ⟨tA, hvA⟩ := bs_get hov pre.length hip
  have hAz := hsz _ (getD_mem hip)
  obtain ⟨RA, hRA⟩ : ∃ RA, Hold (RA = as.getD pre.length #[]) := ⟨_, hold rfl⟩
  have hRA' : as.getD pre.length #[] = RA := Eq.symm hRA
  rw [hRA'] at hvA hAz
  clear hRA'
  have ei' : i.toNat = pre.length := by omega
  rw [← ei'] at hvA
  refine' kst_range (fun e : List Value => (D, listOf e.toArray ln) :: (news ++ own)) (fun _ => []) (fun _ => True) [] (fun q e => IntsAre e (lampsM as pre.length O q.length)) d (by rfl) rg (small_one (by omega) (by omega) (by omega) (by omega)) (rangeSize_nat _ _) lF lN trivial (List.forall_mem_nil _) (by rw [List.length_nil, lampsM_zero]; exact e4) ?jt ?jd
  case jd =>
    rintro e u8 h8 tk8 - e8 F8 N8
    rw [rangeKs_length] at e8
    dsimp only [kstB] at F8
    have ec : ((O : Int) - 0).toNat = O := by omega
    rw [ec, lampsM_full] at e8
    clear lF lN rg
    k_steps
    unfold Hold
    refine' kst_end e (by k_asm) (by k_asm) ?en ?eo rfl trivial (List.forall_mem_nil _) ?er ?el
    case en =>
      intro p hp
      rcases List.mem_cons.mp hp with rfl | hp
      · exact .head _
      · exact .tail _ (List.mem_append_left _ hp)
    case eo => exact fun p hp => .tail _ (List.mem_append_right _ hp)
    case er =>
      intro z h1 h2 h3
      simp only [List.contains_cons, List.contains_nil, Bool.or_false, beq_eq_false_iff_ne, ne_eq] at h3
      simp [h1, h3]
    case el =>
      rw [List.length_append, List.length_singleton]
      exact e8
  rintro e pre2 j tj u8 h8 tk8 own2 ej hj ho2 - e8 F8 N8
  dsimp only [kstB] at F8
  simp only [List.cons_append, List.append_assoc] at N8
  clear lF lN rg
  have hj2 : pre2.length < O := by omega
  have ej' : j.toNat = pre2.length := by omega
  have hm1 : (D, listOf e.toArray ln) ∈ (D, listOf e.toArray ln) :: (news ++ (own ++ own2)) := .head _
  have hm2 : (ol, listOf ovs.toArray okk) ∈ (D, listOf e.toArray ln) :: (news ++ (own ++ own2)) := .tail _ (List.mem_append_left _ hol)
  have hm3 : (cL, oL) ∈ (D, listOf e.toArray ln) :: (news ++ (own ++ own2)) := .tail _ (List.mem_append_left _ hL)
  obtain ⟨tl, hvl⟩ := ints_get e8 j.toNat (by rw [lampsM_length]; omega)
  have eg : (lampsM as pre.length O pre2.length).getD j.toNat 0 = orK as pre.length pre2.length := by rw [ej']; exact lampsM_at as _ _ _ hj2
  rw [eg] at hvl
  have hpost : ∀ q ∈ news ++ (own ++ own2), q.1 ≠ D := fun q hq => by
    rcases List.mem_append.mp hq with hq | hq
    · exact Nat.ne_of_lt (lt q hq)
    · rcases List.mem_append.mp hq with hq | hq
      · exact ho q hq D (by simp)
      · exact ho2 q hq D (by simp)
  have hlm : j < ((lampsM as pre.length O pre2.length).length : Int) := by rw [lampsM_length]; omega
  have hj0 : 0 ≤ j := by omega
  have hj9 : j < (RA.size : Int) := by omega
  k_steps
  unfold Hold
  rename Fr _ _ _ _ => F9
  rename News _ _ _ _ => N9
  rename IntsAre (e.set _ _) _ => I9
  rw [eg, ej'] at I9
  have ejn : j = ((pre2.length : Nat) : Int) := by omega
  have e9 : (lampsM as pre.length O pre2.length).set pre2.length (Builtin.bitOr (orK as pre.length pre2.length) (oct RA j)) = lampsM as pre.length O (pre2.length + 1) := by
    rw [show RA = as.getD pre.length #[] from hRA, ejn]
    exact lampsM_step as pre.length O pre2.length
  rw [e9] at I9
  rw [eg, ej'] at N9
  refine' kst_end (e.set pre2.length (.int (Builtin.bitOr (orK as pre.length pre2.length) (oct RA j)) _)) F9 N9 (fun p hp => ?en) (fun p hp => ?eo) rfl trivial (List.forall_mem_nil _) ?er ?el
  case en =>
    rcases List.mem_cons.mp hp with rfl | hp
    · exact .head _
    · rcases List.mem_append.mp hp with hp | hp
      · exact .tail _ (List.mem_append_left _ hp)
      · exact .tail _ (List.mem_append_right _ (List.mem_append_left _ hp))
  case eo => exact .tail _ (List.mem_append_right _ (List.mem_append_right _ hp))
  case er =>
    intro z h1 h2 h3
    simp [h1]
  case el =>
    rw [List.length_append, List.length_singleton]
    exact I9
end
end

theorem anew16 : True ∧ True := by
  w_top off
  first | (walk1; done) | exact ⟨trivial, trivial⟩
section
section
variable {w : World} {mean : ExcName → Option Value} {mg mb : Str → Option Value} {dp un : Nat} {gd : Option (List Code)} {A₀ : Around} {base h₀ : Heap} {L cN cC cB cL cS : Addr} {m : Str → Option Value} {s : Shared} {Q : Flow → Shared → Prop} {rest : List Stmt}
set_option maxRecDepth 100000 in
set_option maxHeartbeats 4000000 in
theorem seg_zero {O : Nat} {v1 v2 v3 v5 : Value} {to : Tok} {news : List (Addr × Obj)} (oL : Obj) (cx : Cx w mean mg mb dp un A₀ base h₀ L cN cC cB cL cS)
    (F : Fr h₀ L s.heap (kstB m [(Str.ofString "other", v1), (Str.ofString "asked", v2), (Str.ofString "held", v3), (Str.ofString "octets", .int (O : Int) to), (Str.ofString "alone", v5)]))
    (N : News h₀ L s.heap ((cL, oL) :: news)) (nL : ∀ p ∈ news, p.1 ≠ cL) (dL : oL.data = .cell none) (hO : O ≤ 200)
    (next : ∀ (h : Heap) (tk : Nat) (u : Str → Option Value) (D : Addr) (oL : Obj) (t : Tok), Fr h₀ L h (kstB u [(Str.ofString "other", v1), (Str.ofString "asked", v2), (Str.ofString "held", v3), (Str.ofString "octets", .int (O : Int) to), (Str.ofString "alone", v5)]) →
      News h₀ L h ((D, listOf (List.replicate O (Value.int 0 t)).toArray 0) :: (cL, oL) :: news) → oL.data = .cell (some (.ref D)) → (∀ p ∈ (cL, oL) :: news, @LT.lt Nat _ p.1 D) → wpI (model lawP w) (lawA w dp un gd L cN cC cB cL cS) (execs rest (lawEnv w L cN cC cB cL cS)) Q { s with heap := h, toks := tk }) :
    wpI (model lawP w) (lawA w dp un gd L cN cC cB cL cS) (execs (lawSt w 14 1 ++ rest) (lawEnv w L cN cC cB cL cS)) Q s := by
  obtain ⟨B, X, T, hd, hu, -, -, -, -, -⟩ := cx
  unfold lawP
  revert X
  k_fill
  intro X
  have kMark := kstMark
  dsimp only [kstB] at F
  simp only [lawSt, lawIs, List.drop, List.take, List.cons_append, List.nil_append]
  refine wpI_execs_any ?_
  k_steps
  rename _ ∧ (@LT.lt Nat _ cL _) ∧ (AllLt _ news) => q9
  rename News _ _ _ _ => N1
  rw [Int.toNat_natCast] at N1
  exact next _ _ _ _ _ _ (fr_pack (by k_asm) (by kst_all)) (news_drop2 N1) (by k_asm) (List.forall_mem_cons.mpr ⟨q9.2.1, allLt_mem q9.2.2⟩)
set_option maxRecDepth 100000 in
set_option maxHeartbeats 4000000 in
theorem seg_same {D : Addr} {v1 v2 v5 : Value} {ln O : Nat} {lvs : List Value} {zs : List Int} {p : Int} {th to : Tok} {oL : Obj} {H : Array UInt8} {news : List (Addr × Obj)} (cx : Cx w mean mg mb dp un A₀ base h₀ L cN cC cB cL cS)
    (F : Fr h₀ L s.heap (kstB m [(Str.ofString "other", v1), (Str.ofString "asked", v2), (Str.ofString "held", .bytes H th), (Str.ofString "octets", .int (O : Int) to), (Str.ofString "alone", v5)]))
    (N : News h₀ L s.heap news) (hD : (D, listOf lvs.toArray ln) ∈ news) (hL : (cL, oL) ∈ news)
    (dL : oL.data = .cell (some (.ref D))) (hO : O ≤ 200) (hH : H.size = O + 1) (hp : oct H (O : Int) = p) (hints : IntsAre lvs zs) (hz : zs.length = O) (hr : ∀ n ∈ zs ++ [p], 0 ≤ n ∧ n < 256) (hEq : H = byteArr (zs ++ [p]))
    (next : ∀ (h : Heap) (tk : Nat) (u : Str → Option Value), Fr h₀ L h (kstB u [(Str.ofString "other", v1), (Str.ofString "asked", v2), (Str.ofString "held", .bytes H th), (Str.ofString "octets", .int (O : Int) to), (Str.ofString "alone", v5)]) → News h₀ L h news →
      wpI (model lawP w) (lawA w dp un gd L cN cC cB cL cS) (execs rest (lawEnv w L cN cC cB cL cS)) Q { s with heap := h, toks := tk }) :
    wpI (model lawP w) (lawA w dp un gd L cN cC cB cL cS) (execs (lawSt w 16 1 ++ rest) (lawEnv w L cN cC cB cL cS)) Q s := by
  obtain ⟨B, X, T, hd, hu, -, -, -, -, -⟩ := cx
  unfold lawP
  revert X
  k_fill
  intro X
  have kMark := kstMark
  dsimp only [kstB] at F
  simp only [lawSt, lawIs, List.drop, List.take, List.cons_append, List.nil_append]
  have hH2 : H.size ≤ 1048577 := by omega
  refine wpI_execs_any ?_
  k_steps
  unfold Hold
  rename Fr _ _ _ _ => F1
  rename News _ _ _ _ => N1
  rename IntsAre _ (zs ++ _) => hI
  rw [hp] at hI
  refine bytes_K F1 N1 (News.isList N1 (.head _)) hI hr (by rw [hI.length, List.length_append, List.length_singleton, hz, sizeLine_eq]; omega) rfl ?_
  intro h2 t2 tk2 F2 N2 _
  have e : (List.map (fun n => n.toNat.toUInt8) (zs ++ [p])).toArray = H := hEq.symm
  rw [e]
  clear F1 N1
  try dsimp only
  k_steps
  all_goals first
    | (exfalso; rename (H.toList != H.toList) = true => bad; simp at bad)
    | exact next _ _ _ (fr_pack F2 (by kst_all)) (kst_newsOf N2 fun q hq => .tail _ (.tail _ hq))
end
end

theorem anew17 : True ∧ True := by
  w_top off
  first | (walk1; done) | exact ⟨trivial, trivial⟩
section
section
variable {w : World} {mean : ExcName → Option Value} {mg mb : Str → Option Value} {dp un : Nat} {gd : Option (List Code)} {A₀ : Around} {base h₀ : Heap} {L cN cC cB cL cS : Addr} {m : Str → Option Value} {s : Shared} {Q : Flow → Shared → Prop} {rest : List Stmt}
set_option maxRecDepth 100000 in
set_option maxHeartbeats 4000000 in
theorem seg_check {x dx y dy al ol : Addr} {ak okk c O : Nat} {kvs ovs : List Value} {ks as : List (Array UInt8)} {b b' p p' : Int} {tc th to t1 t2 t3 t4 t5 t6 t7 t8 : Tok} {oC oB : Obj} {H : Array UInt8} {news : List (Addr × Obj)} (cx : Cx w mean mg mb dp un A₀ base h₀ L cN cC cB cL cS)
    (F : Fr h₀ L s.heap (kstB m [(Str.ofString "other", .ref y), (Str.ofString "asked", .ref al), (Str.ofString "held", .bytes H th), (Str.ofString "octets", .int (O : Int) to), (Str.ofString "alone", .ref ol)]))
    (N : News h₀ L s.heap news) (hal : (al, listOf kvs.toArray ak) ∈ news) (hol : (ol, listOf ovs.toArray okk) ∈ news) (hx : (x, instObj 120 dx) ∈ news) (hdx : (dx, bloomD w b p t1 t2 t3 t4) ∈ news) (hy : (y, instObj 120 dy) ∈ news) (hdy : (dy, bloomD w b' p' t5 t6 t7 t8) ∈ news)
    (hC : (cC, oC) ∈ news) (hB : (cB, oB) ∈ news) (dC : oC.data = .cell (some (.int (c : Int) tc))) (dB : oB.data = .cell (some (.ref x)))
    (hO : O ≤ 200) (hc : c ≤ 4) (hH : H.size = O + 1) (hkv : BsAre kvs ks) (hov : BsAre ovs as) (hks : ks.length = c + 1) (has : as.length = c + 1) (hkz : ∀ a ∈ ks, a.size ≤ 6)
    (hall : ∀ i, i ≤ c → (as.getD i #[]).size = H.size ∧ oct (as.getD i #[]) (O : Int) = oct H (O : Int) ∧ (i < c → litBB (as.getD i #[]) H = true) ∧ mayB (ks.getD i #[]) H = litBB (as.getD i #[]) H)
    (next : ∀ (h : Heap) (tk : Nat) (u : Str → Option Value), Fr h₀ L h (kstB u [(Str.ofString "other", .ref y), (Str.ofString "asked", .ref al), (Str.ofString "held", .bytes H th), (Str.ofString "octets", .int (O : Int) to), (Str.ofString "alone", .ref ol)]) → News h₀ L h news →
      wpI (model lawP w) (lawA w dp un gd L cN cC cB cL cS) (execs rest (lawEnv w L cN cC cB cL cS)) Q { s with heap := h, toks := tk }) :
    wpI (model lawP w) (lawA w dp un gd L cN cC cB cL cS) (execs (lawSt w 17 1 ++ rest) (lawEnv w L cN cC cB cL cS)) Q s := by
  obtain ⟨B, X, T, hd, hu, -, -, -, -, -⟩ := cx
  unfold lawP
  revert X
  k_fill
  intro X
  have kMark := kstMark
  dsimp only [kstB] at F
  simp only [lawSt, lawIs, List.drop, List.take, List.cons_append, List.nil_append]
  refine wpI_execs_any ?_
  k_steps
  unfold Hold
  rename IsRange _ _ _ _ _ _ _ _ => rg
  rename Fr _ _ _ _ => lF
  rename News _ _ _ _ => lN
  refine' kst_range (fun _ : Unit => news) (fun _ => []) (fun _ => True) [Str.ofString "want"] (fun _ _ => True) () (by rfl) rg (small_one (by omega) (by omega) (by omega) (by omega)) (rangeSize_nat _ _) lF lN trivial (List.forall_mem_nil _) trivial ?kt ?kd
  case kd =>
    rintro d u8 h8 tk8 - - F8 N8
    dsimp only [kstB] at F8
    exact ⟨rfl, next _ _ _ (fr_pack F8 (by kst_all)) N8⟩
  rintro d pre i ti u h tk own ei hi ho - - F4 N4
  dsimp only [kstB] at F4
  clear lF lN rg
  have hal' : (al, listOf kvs.toArray ak) ∈ news ++ own := List.mem_append_left _ hal
  have hol' : (ol, listOf ovs.toArray okk) ∈ news ++ own := List.mem_append_left _ hol
  have hx' : (x, instObj 120 dx) ∈ news ++ own := List.mem_append_left _ hx
  have hdx' : (dx, bloomD w b p t1 t2 t3 t4) ∈ news ++ own := List.mem_append_left _ hdx
  have hy' : (y, instObj 120 dy) ∈ news ++ own := List.mem_append_left _ hy
  have hdy' : (dy, bloomD w b' p' t5 t6 t7 t8) ∈ news ++ own := List.mem_append_left _ hdy
  have hC' : (cC, oC) ∈ news ++ own := List.mem_append_left _ hC
  have hB' : (cB, oB) ∈ news ++ own := List.mem_append_left _ hB
  have hip : pre.length ≤ c := by omega
  obtain ⟨g1, g2, g3, g4⟩ := hall pre.length hip
  obtain ⟨tA, hvA⟩ := bs_get hov pre.length (by omega)
  obtain ⟨tK, hvK⟩ := bs_get hkv pre.length (by omega)
  have hKz := hkz _ (getD_mem (as := ks) (i := pre.length) (by omega))
  clear hall
  generalize as.getD pre.length #[] = RA at hvA g1 g2 g3 g4
  generalize ks.getD pre.length #[] = RK at hvK hKz g4
  have ei' : i.toNat = pre.length := by omega
  rw [← ei'] at hvA hvK
  have z0 : (0 : Int) ≤ (O : Int) := by omega
  have z1 : (O : Int) < (RA.size : Int) := by omega
  have z2 : (O : Int) < (H.size : Int) := by omega
  k_steps
  all_goals first
    | (exfalso; rename (RA.size : Int) ≠ (H.size : Int) => bad; exact bad (by rw [g1]))
    | (exfalso; rename oct RA _ ≠ oct H _ => bad; exact bad g2)
    | (exfalso; rename (mayB RK H != litBB RA H) = true => bad; rw [g4] at bad; simp at bad)
    | (exfalso; rename litBB RA H = false => bad; have good := g3 (by omega); rw [bad] at good; cases good)
    | skip
  all_goals
    unfold Hold
    refine' kst_end () (by k_asm) (by k_asm) (fun p hp => List.mem_append_left _ hp) (fun p hp => List.mem_append_right _ hp) rfl trivial (List.forall_mem_nil _) ?kr trivial
    case kr =>
      intro z h1 h2 h3
      simp only [List.contains_cons, List.contains_nil, Bool.or_false, beq_eq_false_iff_ne, ne_eq] at h3
      simp [h1, h3]
end
end

theorem anew18 : True ∧ True := by
  w_top off
  first | (walk1; done) | exact ⟨trivial, trivial⟩
section
/-- the drawn row of eight octets -/
noncomputable def rowN (ns : List Int) (n : Nat) : List Int := (List.range n).map fun j => Int.fmod (Int.fdiv (draw ns (9 + (j : Nat))) 4) 256
theorem rowN_succ (ns : List Int) (n : Nat) : rowN ns (n + 1) = rowN ns n ++ [Int.fmod (Int.fdiv (draw ns (9 + (n : Nat))) 4) 256] := by
  unfold rowN; rw [List.range_succ, List.map_append]; rfl
section
variable {w : World} {mean : ExcName → Option Value} {mg mb : Str → Option Value} {dp un : Nat} {gd : Option (List Code)} {A₀ : Around} {base h₀ : Heap} {L cN cC cB cL cS : Addr} {m : Str → Option Value} {s : Shared} {Q : Flow → Shared → Prop} {rest : List Stmt}
set_option maxRecDepth 100000 in
set_option maxHeartbeats 4000000 in
theorem seg_draws {nl : Addr} {k : Nat} {vs : List Value} {ns : List Int} {v1 : Value} {v0 : Option Value} {news : List (Addr × Obj)} (oN oL : Obj) (cx : Cx w mean mg mb dp un A₀ base h₀ L cN cC cB cL cS) (F : Fr h₀ L s.heap (kstB m [(Str.ofString "other", v1)]))
    (N : News h₀ L s.heap ((cL, oL) :: news)) (hnl : (nl, listOf vs.toArray k) ∈ news) (hN : (cN, oN) ∈ news) (nL : ∀ p ∈ news, p.1 ≠ cL)
    (dN : oN.data = .cell (some (.ref nl))) (dL : oL.data = .cell v0) (hints : IntsAre vs ns) (ok : OkNums ns)
    (next : ∀ (h : Heap) (tk : Nat) (u : Str → Option Value) (D : Addr) (oL : Obj) (kk : Nat) (ys : List Value) (tp tq : Tok), Fr h₀ L h (kstB u [(Str.ofString "other", v1), (Str.ofString "probes", .int (Int.fmod (draw ns 8) 42) tp), (Str.ofString "key", .bytes (keyAt ns 17) tq), (Str.ofString "want", .bool true)]) →
      News h₀ L h ((D, listOf ys.toArray kk) :: (cL, oL) :: news) → oL.data = .cell (some (.ref D)) → IntsAre ys (rowN ns 8) → @Ne Nat cL D → (∀ p ∈ news, p.1 ≠ D) → wpI (model lawP w) (lawA w dp un gd L cN cC cB cL cS) (execs rest (lawEnv w L cN cC cB cL cS)) Q { s with heap := h, toks := tk }) :
    wpI (model lawP w) (lawA w dp un gd L cN cC cB cL cS) (execs (lawSt w 18 4 ++ rest) (lawEnv w L cN cC cB cL cS)) Q s := by
  obtain ⟨B, X, T, hd, hu, -, -, -, -, -⟩ := cx
  have okd := draw_range ok
  have l1 := ok.1
  have l2 := ok.2.1
  have d8 := (okd 8 (by decide)).1
  have d17 := (okd 17 (by decide)).1
  unfold lawP
  revert X
  k_fill
  intro X
  have kMark := kstMark
  dsimp only [kstB] at F
  simp only [lawSt, lawIs, List.drop, List.take, List.cons_append, List.nil_append]
  refine wpI_execs_any ?_
  k_steps
  refine wpI_execs_any ?_
  k_steps
  refine wpI_execs_any ?_
  k_steps
  unfold Hold
  rename IsRange _ _ _ _ _ _ _ _ => rg
  rename Fr _ _ _ _ => F1
  rename News _ _ _ _ => N1
  refine LCg.CompSrc.range (by rfl) F1 N1 rg (small_one (by omega) (by omega) (by omega) (by omega)) (rangeSize_nat _ _) (by rw [sizeLine_eq]; omega) ?_
  intro g
  clear F1 N1 rg
  refine comp_rest (fun i ys => IntsAre ys (rowN ns i)) trivial ?turn ?fin _ 0 [] (by rfl) .nil
  case turn =>
    intro i v ys I oI C oC D m₂ h tk hi hJ hP hC hx F2 N2 off ne
    obtain ⟨ti, rfl⟩ := hP
    clear off ne
    have di := (okd (9 + (0 + (i : Int))) (by omega)).1
    k_steps
    exact CompTurn.intro (by k_asm) (by k_asm) (by rw [rowN_succ, Int.zero_add]; exact hJ.append (.cons _ _ .nil))
  case fin =>
    intro ys hJ
    k_steps
    refine wpI_execs_any ?_
    k_steps
    rename (@Ne Nat cL _) ∧ _ => of9
    exact next _ _ _ _ _ _ _ _ _ (fr_pack (by k_asm) (by kst_all)) (by k_asm) (by k_asm) hJ of9.1 (off1_mem of9.2)
end
end

theorem anew19 : True ∧ True := by
  w_top off
  first | (walk1; done) | exact ⟨trivial, trivial⟩
section
noncomputable def ifBody : List Stmt → List Stmt
  | [.If _ b _ _] => b
  | _ => []
/-- the reader that the law makes for one number of probes -/
noncomputable def bitsFor (P : Int) : Int := Int.fdiv (100 * P + 68) 69
theorem bitsFor_ok {P : Int} (h0 : 0 < P) (h1 : P ≤ 30) : (1 ≤ bitsFor P ∧ bitsFor P ≤ 45) ∧ pr (bitsFor P) = P ∧ lenOf (bitsFor P) 1 = 8 := by
  have e : ∀ n : Nat, n < 31 → 0 < n → (1 ≤ bitsFor n ∧ bitsFor n ≤ 45) ∧ pr (bitsFor n) = n ∧ lenOf (bitsFor n) 1 = 8 := by decide +kernel
  obtain ⟨n, rfl⟩ := Int.eq_ofNat_of_zero_le (Int.le_of_lt h0)
  exact e n (by omega) (by omega)
section
variable {w : World} {mean : ExcName → Option Value} {mg mb : Str → Option Value} {dp un : Nat} {gd : Option (List Code)} {A₀ : Around} {base h₀ : Heap} {L cN cC cB cL cS : Addr} {m : Str → Option Value} {s : Shared} {Q : Flow → Shared → Prop} {rest : List Stmt}
set_option maxRecDepth 100000 in
set_option maxHeartbeats 4000000 in
theorem seg_single {P : Int} {K : Array UInt8} {v1 : Value} {v0 : Option Value} {tp tq : Tok} {news : List (Addr × Obj)} (oS : Obj) (cx : Cx w mean mg mb dp un A₀ base h₀ L cN cC cB cL cS)
    (F : Fr h₀ L s.heap (kstB m [(Str.ofString "other", v1), (Str.ofString "probes", .int P tp), (Str.ofString "key", .bytes K tq)]))
    (N : News h₀ L s.heap ((cS, oS) :: news)) (nS : ∀ p ∈ news, p.1 ≠ cS) (dS : oS.data = .cell v0) (hK : K.size ≤ 6) (p0 : 0 < P) (p1 : P ≤ 30)
    (next : ∀ (h : Heap) (tk : Nat) (u : Str → Option Value) (oS : Obj) (tS : Tok), Fr h₀ L h (kstB u [(Str.ofString "other", v1), (Str.ofString "probes", .int P tp), (Str.ofString "key", .bytes K tq)]) → News h₀ L h ((cS, oS) :: news) → oS.data = .cell (some (.bytes (mk (bitsFor P) P [K]) tS)) → wpI (model lawP w) (lawA w dp un gd L cN cC cB cL cS) (execs rest (lawEnv w L cN cC cB cL cS)) Q { s with heap := h, toks := tk }) :
    wpI (model lawP w) (lawA w dp un gd L cN cC cB cL cS) (execs ((ifBody (lawSt w 22 1)).take 2 ++ rest) (lawEnv w L cN cC cB cL cS)) Q s := by
  obtain ⟨B, X, T, hd, hu, -, -, -, -, -⟩ := cx
  unfold lawP
  revert X
  k_fill
  intro X
  have kMark := kstMark
  dsimp only [kstB] at F
  simp only [lawSt, lawIs, ifBody, List.drop, List.take, List.cons_append, List.nil_append]
  obtain ⟨⟨g1, g2⟩, g3, g4⟩ := bitsFor_ok p0 p1
  unfold bitsFor at g1 g2
  refine wpI_execs_cons (wpI_Assign (wpI_method ?_))
  k_steps
  refine wpI_def2 ?_
  k_steps
  unfold Hold
  rename Fr _ _ _ _ => F2
  rename News _ _ _ _ => N2
  have eB : Int.fdiv (100 * P + 68) 69 = bitsFor P := rfl
  rw [eB] at N2 g1 g2
  have hpr := pr_range (bitsFor P)
  refine ⟨⟨_, _, (X.keeps F2.keep) _ _ (by k_is), rfl⟩, ?_⟩
  k_dflt (refine' TellI.use (make_tells w _ _ _ (bitsFor P) (pr (bitsFor P)) _ _ _ _ _ _ [K] _ ?hx ?hdx ?hkl (BsAre.snoc BsAre.nil K tq) g1 (by omega) hpr.1 hpr.2 (Nat.le_of_ble_eq_true rfl) ?hsz) ?k1 F2 ?k3 N2 ?k5 ?kK ?kd ?ku ?_; (case hx => k_mem); (case hdx => k_mem); (case hkl => k_mem); (case k1 => k_asm); (case k3 => k_asm); (case k5 => k_asm); (case kK => exact rfl); (case kd => ktr_room); (case ku => ktr_units))
  case hsz =>
    intro a ha
    rw [List.mem_singleton.mp ha]
    omega
  intro r9 n9 h9 tk9 F9 N9 p9
  obtain ⟨e9, t9, q9⟩ := p9
  subst e9
  subst q9
  clear F2 N2
  have hz := mk_size (bitsFor P) (pr (bitsFor P)) [K]
  have hlast := mk_last (b := bitsFor P) (p := pr (bitsFor P)) (ks := [K]) (by omega) (by omega)
  rw [show [K].length = 1 from rfl, g4] at hz hlast
  rw [g3] at hz hlast
  dsimp only
  obtain ⟨S, hS⟩ : ∃ S, Hold (S = mk (bitsFor P) P [K]) := ⟨_, hold rfl⟩
  have hS' : mk (bitsFor P) (pr (bitsFor P)) [K] = S := by rw [g3]; exact Eq.symm hS
  have hS2 : mk (bitsFor P) P [K] = S := Eq.symm hS
  rw [hS2] at hz hlast
  simp only [hS']
  clear hS' hS2
  have hz1 : S.size = 9 := hz
  have hz2 : S.size ≤ 1048577 := by omega
  have hz3 : (8 : Int) < (S.size : Int) := by omega
  k_steps
  refine wpI_cut (fun s₁ => ∃ (h : Heap) (tk : Nat) (u : Str → Option Value) (oS : Obj) (tS : Tok), s₁ = { s with heap := h, toks := tk } ∧ Fr h₀ L h (kstB u [(Str.ofString "other", v1), (Str.ofString "probes", .int P tp), (Str.ofString "key", .bytes K tq)]) ∧ News h₀ L h ((cS, oS) :: news) ∧ oS.data = .cell (some (.bytes S tS))) ?_ ?_
  case refine_2 =>
    rintro s₁ ⟨h, tk, u, oS, tS, rfl, F3, N3, d3⟩
    rw [show S = _ from hS] at d3
    exact next h tk u oS tS F3 N3 d3
  k_steps
  all_goals first
    | (exfalso; rename (S.size : Int) ≠ 9 => bad; omega)
    | (exfalso; rename oct S 8 ≠ P => bad; exact bad hlast)
    | exact ⟨_, _, _, _, _, rfl, fr_pack (by k_asm) (by kst_all), news_drop1 (news_drop1 (news_drop1 (by k_asm))), by k_asm⟩
end
end

theorem anew20 : True ∧ True := by
  w_top off
  first | (walk1; done) | exact ⟨trivial, trivial⟩
section
/-- a row with a filter's lamps laid over -/
noncomputable def orS (zs : List Int) (S : Array UInt8) (n : Nat) : List Int := (List.range n).map fun j => Builtin.bitOr (zs.getD j 0) (oct S (j : Nat))
theorem orS_succ (zs : List Int) (S : Array UInt8) (n : Nat) : orS zs S (n + 1) = orS zs S n ++ [Builtin.bitOr (zs.getD n 0) (oct S (n : Nat))] := by
  unfold orS; rw [List.range_succ, List.map_append]; rfl
theorem orS_length (zs : List Int) (S : Array UInt8) (n : Nat) : (orS zs S n).length = n := by simp [orS]
noncomputable def Octs (zs : List Int) : Prop := ∀ n ∈ zs, 0 ≤ n ∧ n < 256
theorem Octs.getD {zs : List Int} (h : Octs zs) (j : Nat) : 0 ≤ zs.getD j 0 ∧ zs.getD j 0 < 256 := by
  rw [List.getD_eq_getElem?_getD]
  cases e : zs[j]? with
  | none => exact ⟨by decide, by decide⟩
  | some v => exact h v (List.mem_of_getElem? e)
theorem orS_octs {zs : List Int} (h : Octs zs) (S : Array UInt8) (n : Nat) : Octs (orS zs S n) := by
  intro v hv
  obtain ⟨j, _, rfl⟩ := List.mem_map.mp hv
  have g := h.getD j
  exact bitOr_range 8 g.1 (oct_nonneg S _) g.2 (oct_lt S _)
theorem Octs.set {zs : List Int} (h : Octs zs) (j : Nat) {v : Int} (h0 : 0 ≤ v) (h1 : v < 256) : Octs (zs.set j v) := by
  intro n hn
  rcases List.mem_or_eq_of_mem_set hn with hn | rfl
  · exact h n hn
  · exact ⟨h0, h1⟩
theorem flip_range {x q : Int} (h0 : 0 ≤ x) (h1 : x < 256) (q0 : 0 ≤ q) (q1 : q < 8) : 0 ≤ Builtin.bitXor x (1 * 2 ^ q.toNat) ∧ Builtin.bitXor x (1 * 2 ^ q.toNat) < 256 := by
  have e : ∀ n : Nat, n < 8 → (0 : Int) ≤ 1 * 2 ^ n ∧ (1 : Int) * 2 ^ n < 2 ^ 8 := by decide
  have g := e q.toNat (by omega)
  exact bitXor_range 8 h0 g.1 h1 g.2
section
variable {w : World} {mean : ExcName → Option Value} {mg mb : Str → Option Value} {dp un : Nat} {gd : Option (List Code)} {A₀ : Around} {base h₀ : Heap} {L cN cC cB cL cS : Addr} {m : Str → Option Value} {s : Shared} {Q : Flow → Shared → Prop} {rest : List Stmt}
set_option maxRecDepth 100000 in
set_option maxHeartbeats 4000000 in
theorem seg_lit {nl D : Addr} {k kk : Nat} {vs ys : List Value} {ns zs : List Int} {P : Int} {S : Array UInt8} {v1 v2 : Value} {tp tS : Tok} {news : List (Addr × Obj)} (oN oL oS : Obj) (cx : Cx w mean mg mb dp un A₀ base h₀ L cN cC cB cL cS)
    (F : Fr h₀ L s.heap (kstB m [(Str.ofString "other", v1), (Str.ofString "probes", .int P tp), (Str.ofString "key", v2)]))
    (N : News h₀ L s.heap ((D, listOf ys.toArray kk) :: (cL, oL) :: news)) (hnl : (nl, listOf vs.toArray k) ∈ news) (hN : (cN, oN) ∈ news) (hS : (cS, oS) ∈ news) (nL : ∀ p ∈ news, p.1 ≠ cL) (nD : @Ne Nat cL D)
    (dN : oN.data = .cell (some (.ref nl))) (dL : oL.data = .cell (some (.ref D))) (dS : oS.data = .cell (some (.bytes S tS))) (hints : IntsAre vs ns) (ok : OkNums ns)
    (p0 : 0 < P) (p1 : P ≤ 30) (hSz : S.size = 9) (hz : IntsAre ys zs) (hz8 : zs.length = 8) (hzo : Octs zs)
    (next : ∀ (h : Heap) (tk : Nat) (u : Str → Option Value) (D : Addr) (oL : Obj) (kk : Nat) (ys : List Value) (zs : List Int), Fr h₀ L h (kstB u [(Str.ofString "other", v1), (Str.ofString "probes", .int P tp), (Str.ofString "key", v2), (Str.ofString "want", .bool (litBL S (zs ++ [P])))]) →
      News h₀ L h ((D, listOf ys.toArray kk) :: (cL, oL) :: news) → oL.data = .cell (some (.ref D)) → IntsAre ys zs → zs.length = 8 → Octs zs →
      wpI (model lawP w) (lawA w dp un gd L cN cC cB cL cS) (execs rest (lawEnv w L cN cC cB cL cS)) Q { s with heap := h, toks := tk }) :
    wpI (model lawP w) (lawA w dp un gd L cN cC cB cL cS) (execs ((ifBody (lawSt w 22 1)).drop 2 ++ rest) (lawEnv w L cN cC cB cL cS)) Q s := by
  obtain ⟨B, X, T, hd, hu, -, -, -, -, -⟩ := cx
  have d18 := (draw_range ok 18 (by decide)).1
  have l1 := ok.1
  have l2 := ok.2.1
  unfold lawP
  revert X
  k_fill
  intro X
  have kMark := kstMark
  dsimp only [kstB] at F
  simp only [lawSt, lawIs, ifBody, List.drop, List.take, List.cons_append, List.nil_append]
  have hz2 : S.size ≤ 1048577 := by omega
  refine wpI_execs_any ?_
  k_steps
  rename Fr _ _ _ _ => F1
  obtain ⟨tu, hT⟩ : ∃ tu, tu = Int.fmod (draw ns 18) 128 := ⟨_, rfl⟩
  rw [← hT] at F1
  have tu0 : 0 ≤ tu := by rw [hT]; exact Int.fmod_nonneg_of_pos _ (by decide)
  clear hT
  refine wpI_execs_any ?_
  k_steps
  unfold Hold
  rename IsRange _ _ _ _ _ _ _ _ => rg
  rename Fr _ _ _ _ => F1
  rename News _ _ _ _ => N1
  refine LCg.CompSrc.range (by rfl) F1 N1 rg (small_one (by decide) (by decide) (by decide) (by decide)) (rangeSize_nat _ _) (by rw [sizeLine_eq]; decide) ?_
  intro g
  clear F1 N1 rg
  refine comp_rest (fun i ws => IntsAre ws (orS zs S i)) trivial ?turn ?fin _ 0 [] (by rfl) .nil
  case turn =>
    intro i v ws I oI C oC D m₂ h tk hi hJ hP hC hx F2 N2 off ne
    obtain ⟨ti, rfl⟩ := hP
    clear off ne
    have j0 : (0 : Int) ≤ 0 + (i : Int) := by omega
    have j1 : 0 + (i : Int) < (S.size : Int) := by omega
    have j2 : 0 + (i : Int) < (zs.length : Int) := by omega
    k_steps
    have ej : 0 + (i : Int) = ((i : Nat) : Int) := by omega
    exact CompTurn.intro (by k_asm) (by k_asm) (by rw [orS_succ, ej]; exact hJ.append (.cons _ _ .nil))
  case fin =>
    intro ws hJ
    k_steps
    rename Fr _ _ _ _ => F3
    rename News _ _ _ _ => N3
    rename Obj => oL'
    rename oL'.data = _ => dL'
    have hJ8 : IntsAre ws (orS zs S 8) := hJ
    have hl8 := orS_length zs S 8
    have ho8 := orS_octs hzo S 8
    clear hJ hz hz8 hzo
    generalize orS zs S 8 = zt at hJ8 hl8 ho8
    rename (@Ne Nat D _) ∧ _ => of9
    obtain ⟨n0, n1, n2⟩ := of9
    replace n2 := off1_mem n2
    refine wpI_cut (fun s₁ => ∃ (h : Heap) (tk : Nat) (u : Str → Option Value) (D : Addr) (kk : Nat) (ys : List Value) (zs : List Int) (oL : Obj), s₁ = { s with heap := h, toks := tk } ∧ Fr h₀ L h (kstB u [(Str.ofString "other", v1), (Str.ofString "probes", .int P tp), (Str.ofString "key", v2)]) ∧
      News h₀ L h ((D, listOf ys.toArray kk) :: (cL, oL) :: news) ∧ oL.data = .cell (some (.ref D)) ∧ IntsAre ys zs ∧ zs.length = 8 ∧ Octs zs) ?_ ?_
    case refine_2 =>
      clear F3 N3 n0 n1 n2 dL' hJ8 hl8 ho8 nL nD hN hnl hints
      rintro s₁ ⟨h, tk, u, D, kk, ys, zs, oL, rfl, F4, N4, d4, i4, l4, o4⟩
      have hl9 : (zs ++ [P]).length = 9 := by rw [List.length_append, l4]; rfl
      dsimp only [kstB] at F4
      refine wpI_execs_any ?_
      k_steps
      exact next _ _ _ D oL _ _ zs (fr_pack (by k_asm) (by kst_all)) (kst_newsOf (by k_asm) fun q hq => .tail _ (.tail _ hq)) d4 i4 l4 o4
    rcases Int.lt_or_le tu 64 with htu | htu
    · have hq := div8_range (x := tu) (n := 8) tu0 htu
      obtain ⟨q1', q2', q3', q4'⟩ := hq
      have q5' : Int.fdiv tu 8 < (zt.length : Int) := by omega
      k_steps
      rename IntsAre (ws.set _ _) _ => hi9
      have hfl := flip_range (ho8.getD (Int.fdiv tu 8).toNat).1 (ho8.getD (Int.fdiv tu 8).toNat).2 q3' q4'
      rename News _ _ _ _ => N9
      exact ⟨_, _, _, _, _, _, _, _, rfl, fr_pack (by k_asm) (by kst_all), news_drop2 N9, dL', hi9, by rw [List.length_set]; exact hl8, ho8.set _ hfl.1 hfl.2⟩
    · k_steps
      exact ⟨_, _, _, _, _, _, _, _, rfl, fr_pack (by k_asm) (by kst_all), news_drop2 N3, dL', hJ8, hl8, ho8⟩
end
end

theorem anew21 : True ∧ True := by
  w_top off
  first | (walk1; done) | exact ⟨trivial, trivial⟩
section
section
variable {w : World} {mean : ExcName → Option Value} {mg mb : Str → Option Value} {dp un : Nat} {gd : Option (List Code)} {A₀ : Around} {base h₀ : Heap} {L cN cC cB cL cS : Addr} {m : Str → Option Value} {s : Shared} {Q : Flow → Shared → Prop} {rest : List Stmt}
theorem news_swap {h₀ h : Heap} {L : Addr} {a b c : Addr × Obj} {l : List (Addr × Obj)} (N : News h₀ L h (a :: b :: c :: l)) : News h₀ L h (c :: a :: b :: l) := fun p hp => N p (by
  rcases List.mem_cons.mp hp with rfl | hp
  · exact .tail _ (.tail _ (.head _))
  · rcases List.mem_cons.mp hp with rfl | hp
    · exact .head _
    · rcases List.mem_cons.mp hp with rfl | hp
      · exact .tail _ (.head _)
      · exact .tail _ (.tail _ (.tail _ hp)))
theorem news_back {h₀ h : Heap} {L : Addr} {a b c : Addr × Obj} {l : List (Addr × Obj)} (N : News h₀ L h (c :: a :: b :: l)) : News h₀ L h (a :: b :: c :: l) := news_swap (news_swap N)
set_option maxRecDepth 100000 in
set_option maxHeartbeats 4000000 in
theorem seg_turn {nl D : Addr} {k kk : Nat} {vs ys : List Value} {ns zs : List Int} {P : Int} {K : Array UInt8} {v1 : Value} {v0 : Option Value} {tp tq : Tok} {news : List (Addr × Obj)} (oN oL oS : Obj) (cx : Cx w mean mg mb dp un A₀ base h₀ L cN cC cB cL cS)
    (F : Fr h₀ L s.heap (kstB m [(Str.ofString "other", v1), (Str.ofString "probes", .int P tp), (Str.ofString "key", .bytes K tq), (Str.ofString "want", .bool true)]))
    (N : News h₀ L s.heap ((D, listOf ys.toArray kk) :: (cL, oL) :: (cS, oS) :: news)) (hnl : (nl, listOf vs.toArray k) ∈ news) (hN : (cN, oN) ∈ news) (nL : ∀ p ∈ news, p.1 ≠ cL) (nS : ∀ p ∈ news, p.1 ≠ cS) (hLS : @Ne Nat cL cS) (hDL : @Ne Nat cL D) (hDS : @Ne Nat cS D)
    (dN : oN.data = .cell (some (.ref nl))) (dL : oL.data = .cell (some (.ref D))) (dS : oS.data = .cell v0) (hints : IntsAre vs ns) (ok : OkNums ns) (hK : K.size ≤ 6) (p0 : 0 ≤ P) (p1 : P < 42) (hz : IntsAre ys zs) (hz8 : zs.length = 8) (hzo : Octs zs)
    (hlaw : 0 < P → P ≤ 30 → ∀ zs : List Int, zs.length = 8 → Octs zs → litBL (mk (bitsFor P) P [K]) (zs ++ [P]) = mayB K (byteArr (zs ++ [P])))
    (hlaw2 : ¬ (0 < P ∧ P ≤ 30) → mayB K (byteArr (zs ++ [P])) = true)
    (next : ∀ (h : Heap) (tk : Nat) (u : Str → Option Value) (D : Addr) (oL oS : Obj) (kk : Nat) (ys : List Value) (zs : List Int), Fr h₀ L h (kstB u [(Str.ofString "other", v1), (Str.ofString "probes", .int P tp), (Str.ofString "key", .bytes K tq), (Str.ofString "want", .bool (mayB K (byteArr (zs ++ [P]))))]) →
      News h₀ L h ((D, listOf ys.toArray kk) :: (cL, oL) :: (cS, oS) :: news) → oL.data = .cell (some (.ref D)) → IntsAre ys zs → zs.length = 8 → Octs zs → wpI (model lawP w) (lawA w dp un gd L cN cC cB cL cS) (execs rest (lawEnv w L cN cC cB cL cS)) Q { s with heap := h, toks := tk }) :
    wpI (model lawP w) (lawA w dp un gd L cN cC cB cL cS) (execs (lawSt w 22 1 ++ rest) (lawEnv w L cN cC cB cL cS)) Q s := by
  have cx' := cx
  obtain ⟨B, X, T, hd, hu, -, -, -, -, -⟩ := cx
  unfold lawP
  revert X
  k_fill
  intro X
  have kMark := kstMark
  have F0 := F
  dsimp only [kstB] at F
  simp only [lawSt, lawIs, List.drop, List.take, List.cons_append, List.nil_append]
  refine wpI_cutI (fun s₁ => ∃ (h : Heap) (tk : Nat) (u : Str → Option Value) (D : Addr) (oL oS : Obj) (kk : Nat) (ys : List Value) (zs : List Int), s₁ = { s with heap := h, toks := tk } ∧ Fr h₀ L h (kstB u [(Str.ofString "other", v1), (Str.ofString "probes", .int P tp), (Str.ofString "key", .bytes K tq), (Str.ofString "want", .bool (mayB K (byteArr (zs ++ [P]))))]) ∧
      News h₀ L h ((D, listOf ys.toArray kk) :: (cL, oL) :: (cS, oS) :: news) ∧ oL.data = .cell (some (.ref D)) ∧ IntsAre ys zs ∧ zs.length = 8 ∧ Octs zs) (wpI_If ?_) ?_
  case refine_2 =>
    rintro s₁ ⟨h, tk, u, D, oL, oS, kk, ys, zs, rfl, h1, h2, h3, h4, h5, h6⟩
    exact next h tk u D oL oS kk ys zs h1 h2 h3 h4 h5 h6
  k_steps
  case _ =>
    have hPp : 0 < P := by assumption
    have hPq : P ≤ 30 := by assumption
    show wpI _ _ (execs ((ifBody (lawSt w 22 1)).take 2 ++ ((ifBody (lawSt w 22 1)).drop 2 ++ [])) (lawEnv w L cN cC cB cL cS)) _ _
    refine seg_single oS cx' (fr_pack F (by kst_all)) (news_swap N) ?_ dS hK hPp hPq ?_
    · exact List.forall_mem_cons.mpr ⟨Ne.symm hDS, List.forall_mem_cons.mpr ⟨hLS, nS⟩⟩
    intro h tk u oS' tS F1 N1 dS'
    refine seg_lit oN oL oS' cx' (s := { s with heap := h, toks := tk }) (news := (cS, oS') :: news) F1 (news_back N1) (.tail _ hnl) (.tail _ hN) (.head _) (List.forall_mem_cons.mpr ⟨Ne.symm hLS, nL⟩) hDL dN dL dS' hints ok hPp hPq ?_ hz hz8 hzo ?_
    · rw [mk_size, show [K].length = 1 from rfl, (bitsFor_ok hPp hPq).2.2]; rfl
    intro h' tk' u' D' oL' kk' ys' zs' F2 N2 dL' hz' hz8' hzo'
    refine wpI_execs_nil ⟨rfl, h', tk', u', D', oL', oS', kk', ys', zs', rfl, ?_, N2, dL', hz', hz8', hzo'⟩
    rw [← hlaw hPp hPq zs' hz8' hzo']
    exact F2
  case _ =>
    have e := hlaw2 (by omega)
    refine wpI_execs_nil ⟨rfl, _, _, _, D, oL, oS, kk, ys, zs, rfl, fr_pack F ?_, N, dL, hz, hz8, hzo⟩
    rw [e]
    kst_all
  case _ =>
    have e := hlaw2 (by omega)
    refine wpI_execs_nil ⟨rfl, _, _, _, D, oL, oS, kk, ys, zs, rfl, fr_pack F ?_, N, dL, hz, hz8, hzo⟩
    rw [e]
    kst_all
end
end

theorem anew22 : True ∧ True := by
  w_top off
  first | (walk1; done) | exact ⟨trivial, trivial⟩
section
theorem mayB_short (K R : Array UInt8) (h : R.size < 2) : mayB K R = false := by
  unfold mayB
  rw [if_pos (by omega)]
theorem picked_one (R : Array UInt8) : (KBy.picked R none (some 1)).size < 2 := by
  rw [KBc.picked_eq, List.size_toArray, List.length_take]
  have : (Option.elim (some (1 : Int)) R.size (clipAt R.size)) ≤ 1 := by
    show clipAt R.size 1 ≤ 1
    rw [KBc.clip_lit]
    exact Nat.min_le_left _ _
  omega
section
variable {w : World} {mean : ExcName → Option Value} {mg mb : Str → Option Value} {dp un : Nat} {gd : Option (List Code)} {A₀ : Around} {base h₀ : Heap} {L cN cC cB cL cS : Addr} {m : Str → Option Value} {s : Shared} {Q : Flow → Shared → Prop} {rest : List Stmt}
local macro_rules | `(tactic| walk_at "subscriptTail") => `(tactic| (k_here; (with_reducible show wpAny _ _ (subscriptTail _ (Expr.Slice _ _ none _) (Value.bytes _ _) (Value.ref _)) _ _ _); refine hold ?_))
set_option maxRecDepth 100000 in
set_option maxHeartbeats 4000000 in
theorem seg_end {x dx y dy D : Addr} {kk : Nat} {ys : List Value} {zs : List Int} {b b' p p' P : Int} {K : Array UInt8} {tp tq t1 t2 t3 t4 t5 t6 t7 t8 : Tok} {oB oL : Obj} {news : List (Addr × Obj)} (cx : Cx w mean mg mb dp un A₀ base h₀ L cN cC cB cL cS)
    (F : Fr h₀ L s.heap (kstB m [(Str.ofString "other", .ref y), (Str.ofString "probes", .int P tp), (Str.ofString "key", .bytes K tq), (Str.ofString "want", .bool (mayB K (byteArr (zs ++ [P]))))]))
    (N : News h₀ L s.heap news) (hD : (D, listOf ys.toArray kk) ∈ news) (hL : (cL, oL) ∈ news) (hx : (x, instObj 120 dx) ∈ news) (hdx : (dx, bloomD w b p t1 t2 t3 t4) ∈ news) (hy : (y, instObj 120 dy) ∈ news) (hdy : (dy, bloomD w b' p' t5 t6 t7 t8) ∈ news) (hB : (cB, oB) ∈ news) (dB : oB.data = .cell (some (.ref x)))
    (dL : oL.data = .cell (some (.ref D))) (hK : K.size ≤ 6) (p0 : 0 ≤ P) (p1 : P < 42) (hz : IntsAre ys zs) (hz8 : zs.length = 8) (hzo : Octs zs)
    (next : ∀ (h : Heap) (tk : Nat) (u : Str → Option Value), Fr h₀ L h u → Q (.ret (.bool true)) { s with heap := h, toks := tk }) :
    wpI (model lawP w) (lawA w dp un gd L cN cC cB cL cS) (execs (lawSt w 23 3) (lawEnv w L cN cC cB cL cS)) Q s := by
  obtain ⟨B, X, T, hd, hu, -, -, -, -, -⟩ := cx
  unfold lawP
  revert X
  k_fill
  intro X
  have kMark := kstMark
  dsimp only [kstB] at F
  simp only [lawSt, lawIs, List.drop, List.take, List.cons_append, List.nil_append]
  have hzl : (zs ++ [P]).length = 9 := by rw [List.length_append, hz8]; rfl
  refine wpI_execs_any ?_
  k_steps
  unfold Hold
  rename Fr _ _ _ _ => F1
  rename News _ _ _ _ => N1
  rename IntsAre _ (zs ++ _) => hI
  have hr : ∀ n ∈ zs ++ [P], 0 ≤ n ∧ n < 256 := by
    intro n hn
    rcases List.mem_append.mp hn with hn | hn
    · exact hzo n hn
    · rw [List.mem_singleton.mp hn]; omega
  refine bytes_K F1 N1 (News.isList N1 (.head _)) hI hr (by rw [hI.length, hzl, sizeLine_eq]; omega) rfl ?_
  intro h2 t2 tk2 F2 N2 _
  have N3 := kst_newsOf N2 (l' := news) fun q hq => .tail _ (.tail _ hq)
  have e : (List.map (fun n => n.toNat.toUInt8) (zs ++ [P])).toArray = byteArr (zs ++ [P]) := rfl
  rw [e]
  clear F1 N1 N2 e
  have hRz : (byteArr (zs ++ [P])).size = 9 := by rw [byteArr_size, hzl]
  generalize byteArr (zs ++ [P]) = R at hRz F2
  try dsimp only
  k_steps
  refine wpI_execs_any ?_
  k_steps
  all_goals first
    | (exfalso; rename (mayB K R != mayB K R) = true => bad; simp at bad)
    | skip
  have hs1 : mayB K (KBy.picked R none (some 1)) = false := mayB_short _ _ (picked_one R)
  have hs2 : mayB K #[] = false := mayB_short _ _ (by decide)
  have hone := picked_one R
  refine wpI_execs_last ?_
  k_steps
  refine unhold ?_
  rename Fr _ _ _ _ => F8
  rename News _ _ _ _ => N8
  refine KBc.slice_K (s := ⟨_, _, _, _, _⟩) F8 N8 rfl (by constructor) (by constructor) (by rw [KBw.ints_length]; omega) ?_
  intro h8 t8 k8 F9 N9 _
  clear F8 N8
  dsimp only
  k_steps
  case _ =>
    rw [hs2]
    exact next _ _ _ (by k_asm)
  case _ =>
    exfalso
    rename (mayB K (KBy.picked R none (some 1)) == false) = false => bad
    rw [hs1] at bad
    cases bad
end
end

end BloomP
end

noncomputable section
namespace BloomP
/-! the plain law: which lamps a filter has -/
noncomputable def octN (b : Array UInt8) (j : Nat) : Nat := (b.getD j 0).toNat
theorem octN_lt (b : Array UInt8) (j : Nat) : octN b j < 2 ^ 8 := (b.getD j 0).toNat_lt
theorem oct_cast (b : Array UInt8) (j : Nat) : oct b (j : Int) = ((octN b j : Nat) : Int) := rfl
theorem bitOr_cast (x y : Nat) : Builtin.bitOr (x : Int) (y : Int) = ((x ||| y : Nat) : Int) := by
  rw [bitOr_nn (Int.natCast_nonneg _) (Int.natCast_nonneg _)]; rfl
theorem bitAnd_cast (x y : Nat) : Builtin.bitAnd (x : Int) (y : Int) = ((x &&& y : Nat) : Int) := by
  unfold Builtin.bitAnd
  have h : ∀ z : Nat, decide (0 ≤ (z : Int)) = true := fun z => by simp
  simp only [h, Int.toNat_natCast]
theorem pow_cast (k : Nat) : (1 : Int) * 2 ^ k = ((2 ^ k : Nat) : Int) := by
  rw [Int.one_mul, Int.natCast_pow]; rfl
/-- the q-th lamp of a row of octets -/
noncomputable def lamp (b : Array UInt8) (q : Nat) : Bool := (octN b (q / 8)).testBit (q % 8)
theorem place {p : Int} (h : 0 ≤ p) : Int.fdiv p 8 = ((p.toNat / 8 : Nat) : Int) ∧ Int.fmod p 8 = ((p.toNat % 8 : Nat) : Int) := by
  have e : Int.fdiv p 8 = p / 8 := Int.fdiv_eq_ediv_of_nonneg _ (by decide)
  have e2 : Int.fmod p 8 = p % 8 := Int.fmod_eq_emod_of_nonneg _ (by decide)
  rw [e, e2]
  omega
theorem and_pow (x k : Nat) : ¬ (((x &&& 2 ^ k : Nat) : Int) = 0) ↔ x.testBit k = true := by
  constructor
  · intro h
    cases e : x.testBit k with
    | true => rfl
    | false =>
      refine absurd ?_ h
      have z : x &&& 2 ^ k = 0 := by
        apply Nat.eq_of_testBit_eq
        intro t
        rw [Nat.testBit_and, Nat.testBit_two_pow, Nat.zero_testBit]
        by_cases ht : k = t
        · subst ht; rw [e, Bool.false_and]
        · simp [ht]
      rw [z]; rfl
  · intro h z
    have z' : x &&& 2 ^ k = 0 := by omega
    have : (x &&& 2 ^ k).testBit k = true := by rw [Nat.testBit_and, Nat.testBit_two_pow, h]; simp
    rw [z', Nat.zero_testBit] at this
    cases this
theorem litAt_iff (b : Array UInt8) {p : Int} (h : 0 ≤ p) : litAt b p ↔ lamp b p.toNat = true := by
  obtain ⟨e1, e2⟩ := place h
  unfold litAt lamp
  rw [e1, e2, Int.toNat_natCast, oct_cast, pow_cast, bitAnd_cast]
  exact and_pow _ _
theorem octN_setb (b : Array UInt8) {p : Int} (h : 0 ≤ p) (h1 : p.toNat < b.size * 8) (j : Nat) : octN (setb b p) j = if p.toNat / 8 = j then octN b j ||| 2 ^ (p.toNat % 8) else octN b j := by
  obtain ⟨e1, e2⟩ := place h
  have hj : p.toNat / 8 < b.size := by omega
  unfold setb
  rw [e1, e2, Int.toNat_natCast, Int.toNat_natCast, oct_cast, pow_cast, bitOr_cast, Int.toNat_natCast]
  unfold octN
  rw [Array.getD_eq_getD_getElem?, Array.getElem?_setIfInBounds]
  by_cases e : p.toNat / 8 = j
  · subst e
    rw [if_pos rfl, if_pos hj, if_pos rfl, Option.getD_some]
    have hlt : (b.getD (p.toNat / 8) 0).toNat ||| 2 ^ (p.toNat % 8) < 2 ^ 8 := Nat.or_lt_two_pow (b.getD (p.toNat / 8) 0).toNat_lt (Nat.pow_lt_pow_right (by decide) (Nat.mod_lt _ (by decide)))
    exact UInt8.toNat_ofNat'.trans (Nat.mod_eq_of_lt hlt)
  · rw [if_neg e, if_neg e, Array.getD_eq_getD_getElem?]
theorem lamp_setb (b : Array UInt8) {p : Int} (h : 0 ≤ p) (h1 : p.toNat < b.size * 8) (q : Nat) : lamp (setb b p) q = (lamp b q || decide (p.toNat = q)) := by
  unfold lamp
  rw [octN_setb b h h1]
  by_cases e : p.toNat / 8 = q / 8
  · rw [if_pos e, Nat.testBit_or, Nat.testBit_two_pow]
    congr 1
    by_cases e2 : p.toNat % 8 = q % 8
    · have : p.toNat = q := by omega
      simp [this]
    · have : p.toNat ≠ q := fun e3 => e2 (by rw [e3])
      simp [e2, this]
  · rw [if_neg e]
    have : p.toNat ≠ q := fun e3 => e (by rw [e3])
    simp [this]
theorem pl_lt (key : Array UInt8) {wide : Int} (k : Nat) {n : Nat} (hw : wide = ((n * 8 : Nat) : Int)) (hn : 0 < n) : 0 ≤ pl key wide k ∧ (pl key wide k).toNat < n * 8 := by
  have := pl_range key wide k (by omega)
  omega
theorem lamp_mkK (b key : Array UInt8) {wide : Int} (hw : wide = ((b.size * 8 : Nat) : Int)) (hn : 0 < b.size) (q : Nat) : ∀ k, lamp (mkK b key wide k) q = (lamp b q || decide (∃ i, i < k ∧ (pl key wide i).toNat = q))
  | 0 => by simp [mkK]
  | k + 1 => by
    show lamp (setb (mkK b key wide k) (pl key wide k)) q = _
    have hp := pl_lt key (wide := wide) k hw hn
    rw [lamp_setb _ hp.1 (by rw [mkK_size]; exact hp.2), lamp_mkK b key hw hn q k, Bool.or_assoc]
    congr 1
    rw [← Bool.decide_or]
    refine decide_eq_decide.mpr ⟨?_, ?_⟩
    · rintro (⟨i, hi, e⟩ | e)
      · exact ⟨i, by omega, e⟩
      · exact ⟨k, by omega, e⟩
    · rintro ⟨i, hi, e⟩
      by_cases hk : i = k
      · subst hk; exact .inr e
      · exact .inl ⟨i, by omega, e⟩
theorem lamp_mkL (bits probes : Int) (n : Nat) (q : Nat) (hl : 0 < lenOf bits n) : ∀ (keys : List (Array UInt8)) (b : Array UInt8), (b.size : Int) = lenOf bits n →
    (lamp (mkL bits probes n b keys) q = true ↔ (lamp b q = true ∨ ∃ key ∈ keys, ∃ i, i < probes.toNat ∧ (pl key (lenOf bits n * 8) i).toNat = q))
  | [], b, _ => by simp [mkL]
  | key :: r, b, hb => by
    show lamp (mkL bits probes n (mkK b key (lenOf bits n * 8) probes.toNat) r) q = true ↔ _
    rw [lamp_mkL bits probes n q hl r _ (by rw [mkK_size]; exact hb), lamp_mkK b key (by omega) (by omega)]
    simp only [Bool.or_eq_true, decide_eq_true_eq, List.mem_cons, exists_eq_or_imp, or_assoc]
theorem octN_push_lt (b : Array UInt8) (v : UInt8) {j : Nat} (h : j < b.size) : octN (b.push v) j = octN b j := by
  unfold octN
  rw [Array.getD_eq_getD_getElem?, Array.getD_eq_getD_getElem?, Array.getElem?_push_lt h, Array.getElem?_eq_getElem h]
theorem octN_zero (n j : Nat) : octN (Array.replicate n 0) j = 0 := by
  unfold octN
  rw [Array.getD_eq_getD_getElem?, Array.getElem?_replicate]
  split <;> rfl
theorem lamp_mk (bits probes : Int) (keys : List (Array UInt8)) (hl : 0 < lenOf bits keys.length) {q : Nat} (hq : q < (lenOf bits keys.length).toNat * 8) :
    lamp (mk bits probes keys) q = true ↔ ∃ key ∈ keys, ∃ i, i < probes.toNat ∧ (pl key (lenOf bits keys.length * 8) i).toNat = q := by
  have hz : lamp (Array.replicate (lenOf bits keys.length).toNat 0) q = false := by
    unfold lamp
    rw [octN_zero, Nat.zero_testBit]
  have e : lamp (mk bits probes keys) q = lamp (mkL bits probes keys.length (Array.replicate (lenOf bits keys.length).toNat 0) keys) q := by
    unfold lamp mk
    rw [octN_push_lt]
    rw [mkL_size, Array.size_replicate]
    omega
  rw [e, lamp_mkL bits probes keys.length q hl keys _ (by rw [Array.size_replicate]; omega), hz]
  simp
/-! rows laid over one another, lamp by lamp -/
theorem or_eq_right_iff {x y : Nat} (hx : x < 2 ^ 8) : x ||| y = y ↔ ∀ t, t < 8 → x.testBit t = true → y.testBit t = true := by
  constructor
  · intro e t _ ht
    rw [← e, Nat.testBit_or, ht, Bool.true_or]
  · intro h
    apply Nat.eq_of_testBit_eq
    intro t
    rw [Nat.testBit_or]
    by_cases ht : t < 8
    · cases hxt : x.testBit t with
      | false => rw [Bool.false_or]
      | true => rw [h t ht hxt, Bool.or_true]
    · rw [Nat.testBit_lt_two_pow (Nat.lt_of_lt_of_le hx (Nat.pow_le_pow_right (by decide) (by omega))), Bool.false_or]
theorem litBB_iff (few many : Array UInt8) : litBB few many = true ↔ ∀ q, q < (few.size - 1) * 8 → lamp few q = true → lamp many q = true := by
  unfold litBB
  rw [decide_eq_true_eq]
  constructor
  · intro h q hq hl
    have hj := h (q / 8) (by omega)
    rw [oct_cast, oct_cast, bitOr_cast] at hj
    exact (or_eq_right_iff (octN_lt _ _)).mp (Int.ofNat.inj hj) (q % 8) (Nat.mod_lt _ (by decide)) hl
  · intro h j hj
    rw [oct_cast, oct_cast, bitOr_cast]
    congr 1
    refine (or_eq_right_iff (octN_lt _ _)).mpr fun t ht hx => ?_
    have := h (j * 8 + t) (by omega)
    unfold lamp at this
    rw [show (j * 8 + t) / 8 = j by omega, show (j * 8 + t) % 8 = t by omega] at this
    exact this hx
end BloomP
end

noncomputable section
namespace BloomP
theorem bool_ext {a b : Bool} (h : a = true ↔ b = true) : a = b := by
  cases a <;> cases b <;> simp_all
theorem mayB_iff (key held : Array UInt8) {p : Int} (h2 : 2 ≤ held.size) (hl : oct held ((held.size : Int) - 1) = p) (hp : p ≤ 30) :
    mayB key held = true ↔ ∀ i, i < p.toNat → lamp held (pl key (((held.size : Int) - 1) * 8) i).toNat = true := by
  unfold mayB
  rw [hl, if_neg (by omega), if_neg (by omega), decide_eq_true_eq]
  constructor
  · intro h i hi
    exact (litAt_iff held (pl_range key _ i (by omega)).1).mp (h i hi)
  · intro h i hi
    exact (litAt_iff held (pl_range key _ i (by omega)).1).mpr (h i hi)
/-- a key may be there just if its own lamps are lit -/
theorem may_lit {b p : Int} {n : Nat} {key H : Array UInt8} (hn : 1 ≤ n) (hO : 1 ≤ lenOf b n) (hH : (H.size : Int) = lenOf b n + 1) (hl : oct H (lenOf b n) = p) (hp : p ≤ 30) : mayB key H = litBB (mk b p (List.replicate n key)) H := by
  have hlen : (List.replicate n key).length = n := List.length_replicate
  have e1 : (H.size : Int) - 1 = lenOf b n := by omega
  refine bool_ext ((mayB_iff key H (p := p) (by omega) (by rw [e1]; exact hl) hp).trans (Iff.trans ?_ (litBB_iff _ _).symm))
  have hsz := mk_size b p (List.replicate n key)
  rw [hlen] at hsz
  rw [e1]
  constructor
  · intro h q hq hA
    have hA' := (lamp_mk b p (List.replicate n key) (by rw [hlen]; omega) (q := q) (by rw [hlen]; omega)).mp hA
    obtain ⟨k', hk', i, hi, e⟩ := hA'
    rw [hlen, List.eq_of_mem_replicate hk'] at e
    rw [← e]
    exact h i hi
  · intro h i hi
    have hq := pl_lt key (wide := lenOf b n * 8) i (n := (lenOf b n).toNat) (by omega) (by omega)
    refine h _ (by omega) ?_
    refine (lamp_mk b p (List.replicate n key) (by rw [hlen]; omega) (by rw [hlen]; exact hq.2)).mpr ⟨key, List.mem_replicate.mpr ⟨by omega, rfl⟩, i, hi, ?_⟩
    rw [hlen]
theorem octN_byteArr {zs : List Int} (h : Octs zs) (j : Nat) : ((octN (byteArr zs) j : Nat) : Int) = zs.getD j 0 := by
  unfold octN byteArr
  rw [Array.getD_eq_getD_getElem?, List.getElem?_toArray, List.getElem?_map, List.getD_eq_getElem?_getD]
  cases e : zs[j]? with
  | none => rfl
  | some v =>
    have hv := h v (List.mem_of_getElem? e)
    simp only [Option.map_some, Option.getD_some]
    rw [show (v.toNat.toUInt8).toNat = v.toNat from UInt8.toNat_ofNat'.trans (Nat.mod_eq_of_lt (by omega))]
    omega
theorem oct_byteArr {zs : List Int} (h : Octs zs) (j : Nat) : oct (byteArr zs) (j : Int) = zs.getD j 0 := octN_byteArr h j
theorem litBL_eq {S : Array UInt8} {zs : List Int} (h : Octs zs) : litBL S zs = litBB S (byteArr zs) := by
  unfold litBL litBB
  refine decide_eq_decide.mpr ⟨fun k j hj => ?_, fun k j hj => ?_⟩
  · rw [oct_byteArr h]; exact k j hj
  · have := k j hj
    rw [oct_byteArr h] at this
    exact this
theorem Octs.snoc {zs : List Int} (h : Octs zs) {v : Int} (h0 : 0 ≤ v) (h1 : v < 256) : Octs (zs ++ [v]) := by
  intro n hn
  rcases List.mem_append.mp hn with hn | hn
  · exact h n hn
  · rw [List.mem_singleton.mp hn]; exact ⟨h0, h1⟩
theorem row_last {zs : List Int} {P : Int} (hz : zs.length = 8) (h : Octs (zs ++ [P])) : (byteArr (zs ++ [P])).size = 9 ∧ oct (byteArr (zs ++ [P])) 8 = P := by
  refine ⟨by rw [byteArr_size, List.length_append, hz]; rfl, ?_⟩
  have := oct_byteArr h 8
  rw [show ((8 : Nat) : Int) = 8 from rfl] at this
  rw [this, List.getD_eq_getElem?_getD, List.getElem?_append_right (by omega), hz]
  rfl
theorem law_single {P : Int} {K : Array UInt8} (p0 : 0 < P) (p1 : P ≤ 30) (zs : List Int) (hz : zs.length = 8) (ho : Octs zs) : litBL (mk (bitsFor P) P [K]) (zs ++ [P]) = mayB K (byteArr (zs ++ [P])) := by
  have ho9 := ho.snoc (v := P) (by omega) (by omega)
  obtain ⟨hs, hl⟩ := row_last hz ho9
  obtain ⟨_, _, g⟩ := bitsFor_ok p0 p1
  rw [litBL_eq ho9]
  exact (may_lit (n := 1) (b := bitsFor P) (p := P) (key := K) (Nat.le_refl _) (by omega) (by rw [hs, g]; rfl) (by rw [g]; exact hl) p1).symm
theorem law_none {P : Int} {K : Array UInt8} (p0 : 0 ≤ P) (p1 : P < 42) (hn : ¬ (0 < P ∧ P ≤ 30)) (zs : List Int) (hz : zs.length = 8) (ho : Octs zs) : mayB K (byteArr (zs ++ [P])) = true := by
  have ho9 := ho.snoc (v := P) (by omega) (by omega)
  obtain ⟨hs, hl⟩ := row_last hz ho9
  unfold mayB
  rw [hs, show (((9 : Nat) : Int) - 1) = 8 from rfl, hl, if_neg (by decide)]
  split
  · rfl
  · refine decide_eq_true fun i hi => ?_
    omega
theorem rowN_octs (ns : List Int) (n : Nat) : Octs (rowN ns n) := by
  intro v hv
  obtain ⟨j, _, rfl⟩ := List.mem_map.mp hv
  exact ⟨Int.fmod_nonneg_of_pos _ (by decide), Int.fmod_lt_of_pos _ (by decide)⟩
theorem rowN_length (ns : List Int) (n : Nat) : (rowN ns n).length = n := by simp [rowN]
/-! the filter is the keys' lamps laid over one another -/
noncomputable def orN (as : List (Array UInt8)) : Nat → Nat → Nat
  | 0, _ => 0
  | i + 1, j => orN as i j ||| octN (as.getD i #[]) j
theorem orK_cast (as : List (Array UInt8)) (j : Nat) : ∀ i, orK as i j = ((orN as i j : Nat) : Int)
  | 0 => rfl
  | i + 1 => by
    show Builtin.bitOr (orK as i j) (oct (as.getD i #[]) (j : Nat)) = _
    rw [orK_cast as j i, oct_cast, bitOr_cast]
    rfl
theorem orN_lt (as : List (Array UInt8)) (j : Nat) : ∀ i, orN as i j < 2 ^ 8
  | 0 => by show 0 < 2 ^ 8; decide
  | i + 1 => Nat.or_lt_two_pow (orN_lt as j i) (octN_lt _ _)
theorem orN_bit (as : List (Array UInt8)) (j t : Nat) : ∀ i, (orN as i j).testBit t = true ↔ ∃ i', i' < i ∧ (octN (as.getD i' #[]) j).testBit t = true
  | 0 => by
    show (0 : Nat).testBit t = true ↔ _
    rw [Nat.zero_testBit]
    simp
  | i + 1 => by
    show (orN as i j ||| octN (as.getD i #[]) j).testBit t = true ↔ _
    rw [Nat.testBit_or, Bool.or_eq_true, orN_bit as j t i]
    constructor
    · rintro (⟨i', h, e⟩ | e)
      · exact ⟨i', by omega, e⟩
      · exact ⟨i, by omega, e⟩
    · rintro ⟨i', h, e⟩
      by_cases hk : i' = i
      · subst hk; exact .inr e
      · exact .inl ⟨i', by omega, e⟩
theorem lampsL_octs (as : List (Array UInt8)) (i n : Nat) : Octs (lampsL as i n) := by
  intro v hv
  obtain ⟨j, _, rfl⟩ := List.mem_map.mp hv
  have := orN_lt as j i
  rw [orK_cast]
  omega
theorem ext_oct {A B : Array UInt8} (h : A.size = B.size) (k : ∀ j, j < A.size → octN A j = octN B j) : A = B := by
  apply Array.ext h
  intro j h1 h2
  have := k j h1
  unfold octN at this
  rw [Array.getD_eq_getD_getElem?, Array.getD_eq_getD_getElem?, Array.getElem?_eq_getElem h1, Array.getElem?_eq_getElem h2] at this
  exact UInt8.toNat_inj.mp this
theorem lenOf_alone {b : Int} (h0 : 1 ≤ b) (h1 : b ≤ 45) (c : Nat) : lenOf b (max 1 c) = lenOf b c := by
  cases c with
  | zero =>
    unfold lenOf wantedOf
    simp only [Nat.max_zero]
    rw [if_pos (show ((1 : Nat) : Int) * b < 64 by omega), if_pos (show ((0 : Nat) : Int) * b < 64 by omega)]
  | succ c => rw [Nat.max_eq_right (by omega)]
theorem aloneL_length (b : Int) (c : Nat) (ks : List (Array UInt8)) : (aloneL b c ks).length = ks.length := by simp [aloneL]
theorem aloneL_getD {b : Int} {c : Nat} {ks : List (Array UInt8)} {i : Nat} (h : i < ks.length) : (aloneL b c ks).getD i #[] = mk b (pr b) (List.replicate (max 1 c) (ks.getD i #[])) := by
  unfold aloneL
  rw [List.getD_eq_getElem?_getD, List.getElem?_map, List.getD_eq_getElem?_getD, List.getElem?_eq_getElem h]
  rfl
theorem askKeys_length (ns : List Int) (c : Nat) : (askKeys ns c).length = c + 1 := by simp [askKeys, putKeys_length]
theorem askKeys_getD (ns : List Int) {c i : Nat} (h : i < c) : (askKeys ns c).getD i #[] = (putKeys ns c).getD i #[] := by
  unfold askKeys
  rw [List.getD_eq_getElem?_getD, List.getD_eq_getElem?_getD, List.getElem?_append_left (by rw [putKeys_length]; exact h)]
/-- each key alone: as wide as the filter, its probes behind -/
theorem alone_size {b : Int} (h0 : 1 ≤ b) (h1 : b ≤ 45) (c : Nat) (key : Array UInt8) : (mk b (pr b) (List.replicate (max 1 c) key)).size = (lenOf b c).toNat + 1 := by
  rw [mk_size, List.length_replicate, lenOf_alone h0 h1]
theorem alone_last {b : Int} (h0 : 1 ≤ b) (h1 : b ≤ 45) (c : Nat) (key : Array UInt8) : oct (mk b (pr b) (List.replicate (max 1 c) key)) (lenOf b c) = pr b := by
  have hp := pr_range b
  have := mk_last (b := b) (p := pr b) (ks := List.replicate (max 1 c) key) (by omega) (by omega)
  rw [List.length_replicate, lenOf_alone h0 h1] at this
  exact this
theorem law_same {b : Int} (h0 : 1 ≤ b) (h1 : b ≤ 45) (ns : List Int) (c : Nat) (hc : c ≤ 4) :
    mk b (pr b) (putKeys ns c) = byteArr (lampsL (aloneL b c (askKeys ns c)) c (lenOf b c).toNat ++ [pr b]) := by
  have hp := pr_range b
  have hlr := lenOf_range (b := b) (n := c) (by omega) (by omega) (by omega)
  have hoc := (lampsL_octs (aloneL b c (askKeys ns c)) c (lenOf b c).toNat).snoc (v := pr b) (by omega) (by omega)
  have hsz := mk_size b (pr b) (putKeys ns c)
  rw [putKeys_length] at hsz
  refine ext_oct (by rw [hsz, byteArr_size, List.length_append, lampsL_length]; rfl) fun j hj => ?_
  have hR := octN_byteArr hoc j
  rw [List.getD_eq_getElem?_getD] at hR
  by_cases hl : j < (lenOf b c).toNat
  · rw [List.getElem?_append_left (by rw [lampsL_length]; exact hl)] at hR
    have e : (lampsL (aloneL b c (askKeys ns c)) c (lenOf b c).toNat)[j]? = some (orK (aloneL b c (askKeys ns c)) c j) := by
      unfold lampsL
      rw [List.getElem?_map, List.getElem?_range hl]
      rfl
    rw [e, Option.getD_some, orK_cast] at hR
    rw [Int.ofNat.inj hR]
    apply Nat.eq_of_testBit_eq
    intro t
    by_cases ht : t < 8
    · refine bool_ext (Iff.trans ?_ (orN_bit _ j t c).symm)
      have hA := lamp_mk b (pr b) (putKeys ns c) (by rw [putKeys_length]; omega) (q := j * 8 + t) (by rw [putKeys_length]; omega)
      unfold lamp at hA
      rw [show (j * 8 + t) / 8 = j by omega, show (j * 8 + t) % 8 = t by omega, putKeys_length] at hA
      rw [hA]
      have hB : ∀ i, i < c → ((octN ((aloneL b c (askKeys ns c)).getD i #[]) j).testBit t = true ↔ ∃ i', i' < (pr b).toNat ∧ (pl ((putKeys ns c).getD i #[]) (lenOf b c * 8) i').toNat = j * 8 + t) := by
        intro i hi
        rw [aloneL_getD (by rw [askKeys_length]; omega), askKeys_getD ns hi]
        have hX := lamp_mk b (pr b) (List.replicate (max 1 c) ((putKeys ns c).getD i #[])) (by rw [List.length_replicate, lenOf_alone h0 h1]; omega) (q := j * 8 + t) (by rw [List.length_replicate, lenOf_alone h0 h1]; omega)
        unfold lamp at hX
        rw [show (j * 8 + t) / 8 = j by omega, show (j * 8 + t) % 8 = t by omega, List.length_replicate, lenOf_alone h0 h1] at hX
        rw [hX]
        constructor
        · rintro ⟨k', hk', r⟩
          rw [List.eq_of_mem_replicate hk'] at r
          exact r
        · intro r
          exact ⟨_, List.mem_replicate.mpr ⟨by omega, rfl⟩, r⟩
      constructor
      · rintro ⟨key, hk, r⟩
        obtain ⟨i, hi, e⟩ := List.getElem_of_mem hk
        have hi' : i < c := by rw [putKeys_length] at hi; exact hi
        refine ⟨i, hi', (hB i hi').mpr ?_⟩
        rw [List.getD_eq_getElem?_getD, List.getElem?_eq_getElem hi, e]
        exact r
      · rintro ⟨i, hi, r⟩
        exact ⟨_, getD_mem (by rw [putKeys_length]; exact hi), (hB i hi).mp r⟩
    · have big : ∀ x : Nat, x < 2 ^ 8 → x.testBit t = false := fun x hx => Nat.testBit_lt_two_pow (Nat.lt_of_lt_of_le hx (Nat.pow_le_pow_right (by decide) (by omega)))
      rw [big _ (octN_lt _ _), big _ (orN_lt _ _ _)]
  · have ej : j = (lenOf b c).toNat := by omega
    rw [List.getElem?_append_right (by rw [lampsL_length]; omega), lampsL_length, ej, Nat.sub_self] at hR
    have hR2 : ((octN (byteArr (lampsL (aloneL b c (askKeys ns c)) c (lenOf b c).toNat ++ [pr b])) (lenOf b c).toNat : Nat) : Int) = pr b := hR
    have hm := mk_last (b := b) (p := pr b) (ks := putKeys ns c) (by omega) (by omega)
    rw [putKeys_length, show lenOf b c = (((lenOf b c).toNat : Nat) : Int) by omega, oct_cast] at hm
    rw [ej]
    omega
theorem law_check {b : Int} (h0 : 1 ≤ b) (h1 : b ≤ 45) (ns : List Int) (c : Nat) (hc : c ≤ 4) (i : Nat) (hi : i ≤ c) :
    ((aloneL b c (askKeys ns c)).getD i #[]).size = (mk b (pr b) (putKeys ns c)).size ∧
    oct ((aloneL b c (askKeys ns c)).getD i #[]) (((lenOf b c).toNat : Nat) : Int) = oct (mk b (pr b) (putKeys ns c)) (((lenOf b c).toNat : Nat) : Int) ∧
    (i < c → litBB ((aloneL b c (askKeys ns c)).getD i #[]) (mk b (pr b) (putKeys ns c)) = true) ∧
    mayB ((askKeys ns c).getD i #[]) (mk b (pr b) (putKeys ns c)) = litBB ((aloneL b c (askKeys ns c)).getD i #[]) (mk b (pr b) (putKeys ns c)) := by
  have hp := pr_range b
  have hlr := lenOf_range (b := b) (n := c) (by omega) (by omega) (by omega)
  have hsz := mk_size b (pr b) (putKeys ns c)
  have hm := mk_last (b := b) (p := pr b) (ks := putKeys ns c) (by omega) (by omega)
  rw [putKeys_length] at hsz hm
  have eO : (((lenOf b c).toNat : Nat) : Int) = lenOf b c := by omega
  rw [aloneL_getD (by rw [askKeys_length]; omega), eO]
  have hml := may_lit (n := max 1 c) (b := b) (p := pr b) (key := (askKeys ns c).getD i #[]) (H := mk b (pr b) (putKeys ns c)) (by omega) (by rw [lenOf_alone h0 h1]; omega) (by rw [lenOf_alone h0 h1, hsz]; omega) (by rw [lenOf_alone h0 h1]; exact hm) (by omega)
  refine ⟨by rw [alone_size h0 h1, hsz], by rw [alone_last h0 h1, hm], fun hic => ?_, hml⟩
  refine (litBB_iff _ _).mpr fun q hq hl => ?_
  rw [alone_size h0 h1] at hq
  have hX := (lamp_mk b (pr b) (List.replicate (max 1 c) ((askKeys ns c).getD i #[])) (by rw [List.length_replicate, lenOf_alone h0 h1]; omega) (q := q) (by rw [List.length_replicate, lenOf_alone h0 h1]; omega)).mp hl
  obtain ⟨k', hk', r⟩ := hX
  rw [List.eq_of_mem_replicate hk', List.length_replicate, lenOf_alone h0 h1, askKeys_getD ns hic] at r
  refine (lamp_mk b (pr b) (putKeys ns c) (by rw [putKeys_length]; omega) (by rw [putKeys_length]; omega)).mpr ⟨_, getD_mem (by rw [putKeys_length]; exact hic), ?_⟩
  rw [putKeys_length]
  exact r
end BloomP
end

noncomputable section
namespace BloomP
theorem law_body (w : World) : (lawIs w).1.1 = lawSt w 0 2 ++ (lawSt w 2 5 ++ (lawSt w 7 2 ++ (lawSt w 9 1 ++ (lawSt w 10 3 ++ (lawSt w 13 1 ++ (lawSt w 14 1 ++ (lawSt w 15 1 ++ (lawSt w 16 1 ++ (lawSt w 17 1 ++ (lawSt w 18 4 ++ (lawSt w 22 1 ++ lawSt w 23 3))))))))))) := by
  simp only [lawSt, lawIs, List.drop, List.take, List.cons_append, List.nil_append]
section
local macro_rules | `(tactic| k_ne) => `(tactic| (refine neN ?_; (try dsimp only); with_reducible assumption))
variable {w : World} {mean : ExcName → Option Value} {mg mb : Str → Option Value} {dp un : Nat} {gd : Option (List Code)} {A₀ : Around} {base h₀ : Heap} {L cN cC cB cL cS : Addr} {m : Str → Option Value} {s : Shared} {Q : Flow → Shared → Prop}
set_option maxHeartbeats 2000000 in
theorem law_walk {sl : Addr} {vs : List Value} {ns : List Int} (oN oC oB oL oS : Obj) (cx : Cx w mean mg mb dp un A₀ base h₀ L cN cC cB cL cS) (F : Fr h₀ L s.heap (kstB m [(Str.ofString "script", .ref sl)])) (N : News h₀ L s.heap [(cS, oS), (cL, oL), (cB, oB), (cC, oC), (cN, oN)])
    (dN : oN.data = .cell none) (dC : oC.data = .cell none) (dB : oB.data = .cell none) (dL : oL.data = .cell none) (dS : oS.data = .cell none)
    (hlist : h₀.IsList sl vs.toArray) (hints : IntsAre vs ns) (hlen : ns.length ≤ 63)
    (next : ∀ (h : Heap) (tk : Nat) (u : Str → Option Value), Fr h₀ L h u → Q (.ret (.bool true)) { s with heap := h, toks := tk }) :
    wpI (model lawP w) (lawA w dp un gd L cN cC cB cL cS) (execs (lawIs w).1.1 (lawEnv w L cN cC cB cL cS)) Q s := by
  rw [law_body]
  obtain ⟨-, q2, q3, q4, q5⟩ : True ∧ @LT.lt Nat _ cN cC ∧ @LT.lt Nat _ cC cB ∧ @LT.lt Nat _ cB cL ∧ @LT.lt Nat _ cL cS := ⟨trivial, cx.c2, cx.c3, cx.c4, cx.c5⟩
  have p1 : @LT.lt Nat _ cN cB := Nat.lt_trans q2 q3
  have p2 : @LT.lt Nat _ cN cL := Nat.lt_trans p1 q4
  have p3 : @LT.lt Nat _ cN cS := Nat.lt_trans p2 q5
  have p4 : @LT.lt Nat _ cC cL := Nat.lt_trans q3 q4
  have p5 : @LT.lt Nat _ cC cS := Nat.lt_trans p4 q5
  have p6 : @LT.lt Nat _ cB cS := Nat.lt_trans q4 q5
  have r1 : @Ne Nat cS cN := Nat.ne_of_gt p3
  have r2 : @Ne Nat cL cN := Nat.ne_of_gt p2
  have r3 : @Ne Nat cB cN := Nat.ne_of_gt p1
  have r4 : @Ne Nat cC cN := Nat.ne_of_gt q2
  have r5 : @Ne Nat cN cC := Nat.ne_of_lt q2
  have r6 : @Ne Nat cS cC := Nat.ne_of_gt p5
  have r7 : @Ne Nat cL cC := Nat.ne_of_gt p4
  have r8 : @Ne Nat cB cC := Nat.ne_of_gt q3
  have r9 : @Ne Nat cN cB := Nat.ne_of_lt p1
  have r10 : @Ne Nat cS cB := Nat.ne_of_gt p6
  have r11 : @Ne Nat cL cB := Nat.ne_of_gt q4
  have r12 : @Ne Nat cC cB := Nat.ne_of_lt q3
  refine seg_nums (news := [(cS, oS), (cL, oL), (cB, oB), (cC, oC)]) oN cx F (kst_newsOf N (by kst_in)) dN (by k_all) hlist hints hlen ?_
  clear F N hlist hints hlen vs ns dN
  intro h1 tk1 u1 oN nl k vs ns F N dN hints ok n1 n2
  have n3 : @Ne Nat nl cS := Ne.symm (n2 _ (.head _))
  have n4 : @Ne Nat nl cL := Ne.symm (n2 _ (.tail _ (.head _)))
  have n5 : @Ne Nat nl cB := Ne.symm (n2 _ (.tail _ (.tail _ (.head _))))
  have n6 : @Ne Nat nl cC := Ne.symm (n2 _ (.tail _ (.tail _ (.tail _ (.head _)))))
  clear n2
  refine seg_setup (news := [(nl, listOf vs.toArray k), (cN, oN), (cS, oS), (cL, oL), (cB, oB)]) oN oC cx (s := { s with heap := h1, toks := tk1 }) F (kst_newsOf N (by kst_in)) (.head _) (.tail _ (.head _)) (by k_all) dN dC hints ok ?_
  clear F N dC
  intro h2 tk2 u2 oC b ci tb tc F N dC b1 b2 c0 c4
  obtain ⟨c, rfl⟩ := Int.eq_ofNat_of_zero_le c0
  have hc : c ≤ 4 := by omega
  refine seg_blooms (news := [(nl, listOf vs.toArray k), (cN, oN), (cS, oS), (cL, oL), (cC, oC)]) oN oB cx (s := { s with heap := h2, toks := tk2 }) F (kst_newsOf N (by kst_in)) (.head _) (.tail _ (.head _)) (by k_all) dN dB hints ok b1 b2 ?_
  clear F N dB
  intro h3 tk3 u3 oB x dx y dy b' t1 t2 t3 t4 t5 t6 t7 t8 F N dB b1' b2' o0 o1 o3 o4 o5
  have o2 : @LT.lt Nat _ cS dx := o1 _ (.tail _ (.tail _ (.head _)))
  have oA : @LT.lt Nat _ cL dx := o1 _ (.tail _ (.tail _ (.tail _ (.head _))))
  clear o1
  refine seg_asked oN oC cx (s := { s with heap := h3, toks := tk3 }) F N (by k_mem) (by k_mem) (by k_mem) dN dC hints ok hc ?_
  clear F N
  intro h4 tk4 u4 al ak kvs F N hkv o6
  have o6 : @LT.lt Nat _ y al := o6 _ (.head _)
  refine seg_held oC oB cx (s := { s with heap := h4, toks := tk4 }) (fr_pack F (by kst_all)) N (by k_mem) (by k_mem) (by k_mem) (by k_mem) (by k_mem) dC dB hkv hc b1 b2 ?_
  clear F
  have N0 := N
  clear N
  intro h5 tk5 u5 th to F N
  refine seg_alone oC oB cx (s := { s with heap := h5, toks := tk5 }) F N (by k_mem) (by k_mem) (by k_mem) (by k_mem) (by k_mem) dC dB hkv hc b1 b2 ?_
  clear F N N0
  intro h6 tk6 u6 ol okk ovs F N hov o7
  have o7 : @LT.lt Nat _ al ol := o7 _ (.head _)
  have hlr := lenOf_range (b := b) (n := c) (by omega) (by omega) (by omega)
  have hO : (lenOf b c).toNat ≤ 200 := by
    have e : lenOf b c = (wantedOf b c + 7) / 8 := Int.fdiv_eq_ediv_of_nonneg _ (by decide)
    have hw : wantedOf b c ≤ 180 := by
      unfold wantedOf
      have h1 : (c : Int) * b ≤ 4 * 45 := Int.mul_le_mul (by omega) b2 (by omega) (by omega)
      split <;> omega
    omega
  have eO : lenOf b c = (((lenOf b c).toNat : Nat) : Int) := by omega
  have hp := pr_range b
  have hsz := mk_size b (pr b) (putKeys ns c)
  have hm := mk_last (b := b) (p := pr b) (ks := putKeys ns c) (by omega) (by omega)
  rw [putKeys_length] at hsz hm
  have hall := law_check b1 b2 ns c hc
  have hsame := law_same b1 b2 ns c hc
  have hoc := (lampsL_octs (aloneL b c (askKeys ns c)) c (lenOf b c).toNat).snoc (v := pr b) (by omega) (by omega)
  have hasz : ∀ a ∈ aloneL b c (askKeys ns c), a.size = (lenOf b c).toNat + 1 := by
    intro a ha
    obtain ⟨key, _, rfl⟩ := List.mem_map.mp ha
    exact alone_size b1 b2 c key
  have hal : (aloneL b c (askKeys ns c)).length = c + 1 := by rw [aloneL_length, askKeys_length]
  rw [eO] at F hm
  generalize (lenOf b c).toNat = O at F hO hsz hm hall hsame hoc hasz
  generalize mk b (pr b) (putKeys ns c) = H at F hsz hm hall hsame
  generalize aloneL b c (askKeys ns c) = as at hov hall hsame hoc hasz hal
  obtain ⟨news, hnews⟩ : ∃ news, news = [(ol, listOf ovs.toArray okk), (al, listOf kvs.toArray ak), (y, instObj 120 dy), (dy, bloomD w b' (pr b') t5 t6 t7 t8), (x, instObj 120 dx), (dx, bloomD w b (pr b) t1 t2 t3 t4), (cB, oB), (nl, listOf vs.toArray k), (cN, oN), (cC, oC)] := ⟨_, rfl⟩
  have N' : News h₀ L h6 ((cL, oL) :: (cS, oS) :: news) := by rw [hnews]; exact kst_newsOf N (by kst_in)
  have u1 : @LT.lt Nat _ cS x := Nat.lt_trans o2 o3
  have u2 : @LT.lt Nat _ cS dy := Nat.lt_trans u1 o4
  have u3 : @LT.lt Nat _ cS y := Nat.lt_trans u2 o5
  have u4 : @LT.lt Nat _ cS al := Nat.lt_trans u3 o6
  have u5 : @LT.lt Nat _ cS ol := Nat.lt_trans u4 o7
  have off : ∀ {a z : Nat}, a ≤ cS → @LT.lt Nat _ cS z → @Ne Nat z a := fun h1 h2 => Nat.ne_of_gt (Nat.lt_of_le_of_lt h1 h2)
  have cLe : @LE.le Nat _ cL cS := Nat.le_of_lt q5
  have nL : ∀ p ∈ news, p.1 ≠ cL := by
    have w1 := off cLe o2; have w2 := off cLe u1; have w3 := off cLe u2; have w4 := off cLe u3; have w5 := off cLe u4; have w6 := off cLe u5
    have w7 : @Ne Nat cB cL := Nat.ne_of_lt q4
    have w8 : @Ne Nat cN cL := Nat.ne_of_lt p2
    have w9 : @Ne Nat cC cL := Nat.ne_of_lt p4
    rw [hnews]; exact List.forall_mem_cons.mpr ⟨w6, List.forall_mem_cons.mpr ⟨w5, List.forall_mem_cons.mpr ⟨w4, List.forall_mem_cons.mpr ⟨w3, List.forall_mem_cons.mpr ⟨w2, List.forall_mem_cons.mpr ⟨w1, List.forall_mem_cons.mpr ⟨w7, List.forall_mem_cons.mpr ⟨n4, List.forall_mem_cons.mpr ⟨w8, List.forall_mem_cons.mpr ⟨w9, List.forall_mem_nil _⟩⟩⟩⟩⟩⟩⟩⟩⟩⟩
  have nS : ∀ p ∈ news, p.1 ≠ cS := by
    have w1 := Nat.ne_of_gt o2; have w2 := Nat.ne_of_gt u1; have w3 := Nat.ne_of_gt u2; have w4 := Nat.ne_of_gt u3; have w5 := Nat.ne_of_gt u4; have w6 := Nat.ne_of_gt u5
    have w7 : @Ne Nat cB cS := Nat.ne_of_lt p6
    have w8 : @Ne Nat cN cS := Nat.ne_of_lt p3
    have w9 : @Ne Nat cC cS := Nat.ne_of_lt p5
    rw [hnews]; exact List.forall_mem_cons.mpr ⟨w6, List.forall_mem_cons.mpr ⟨w5, List.forall_mem_cons.mpr ⟨w4, List.forall_mem_cons.mpr ⟨w3, List.forall_mem_cons.mpr ⟨w2, List.forall_mem_cons.mpr ⟨w1, List.forall_mem_cons.mpr ⟨w7, List.forall_mem_cons.mpr ⟨n3, List.forall_mem_cons.mpr ⟨w8, List.forall_mem_cons.mpr ⟨w9, List.forall_mem_nil _⟩⟩⟩⟩⟩⟩⟩⟩⟩⟩
  have m1 : (ol, listOf ovs.toArray okk) ∈ news := by rw [hnews]; k_mem
  have m2 : (al, listOf kvs.toArray ak) ∈ news := by rw [hnews]; k_mem
  have m3 : (y, instObj 120 dy) ∈ news := by rw [hnews]; k_mem
  have m4 : (dy, bloomD w b' (pr b') t5 t6 t7 t8) ∈ news := by rw [hnews]; k_mem
  have m5 : (x, instObj 120 dx) ∈ news := by rw [hnews]; k_mem
  have m6 : (dx, bloomD w b (pr b) t1 t2 t3 t4) ∈ news := by rw [hnews]; k_mem
  have m7 : (cB, oB) ∈ news := by rw [hnews]; k_mem
  have m8 : (nl, listOf vs.toArray k) ∈ news := by rw [hnews]; k_mem
  have m9 : (cN, oN) ∈ news := by rw [hnews]; k_mem
  have m10 : (cC, oC) ∈ news := by rw [hnews]; k_mem
  clear hnews N o0 o2 oA o3 o4 o5 o6 o7 n1 n3 n4 n5 n6
  have hLS : @Ne Nat cL cS := Nat.ne_of_lt q5
  have nL' : ∀ p ∈ (cS, oS) :: news, p.1 ≠ cL := List.forall_mem_cons.mpr ⟨Ne.symm hLS, nL⟩
  refine seg_zero oL cx (s := { s with heap := h6, toks := tk6 }) F N' nL' dL hO ?_
  clear F N' dL
  intro h7 tk7 u7 D oL tz F N dL lt
  refine seg_lay (oC := oC) (oL := oL) (ovs := ovs) (as := as) cx (s := { s with heap := h7, toks := tk7 }) F N (.tail _ (.tail _ m10)) (.head _) (.tail _ (.tail _ m1)) lt dC dL hov hal hc hO hasz (by rw [lampsL_zero]; exact ints_replicate _ _ _) ?_
  clear F N lt
  intro h8 tk8 u8 lvs F N hli
  refine seg_same (D := D) (oL := oL) (zs := lampsL as c O) (p := pr b) cx (s := { s with heap := h8, toks := tk8 }) F N (.head _) (.tail _ (.head _)) dL hO hsz hm hli (lampsL_length _ _ _) hoc hsame ?_
  clear F N
  intro h9 tk9 u9 F N
  refine seg_check (ks := askKeys ns c) (as := as) cx (s := { s with heap := h9, toks := tk9 }) F N (.tail _ (.tail _ (.tail _ m2))) (.tail _ (.tail _ (.tail _ m1))) (.tail _ (.tail _ (.tail _ m5))) (.tail _ (.tail _ (.tail _ m6))) (.tail _ (.tail _ (.tail _ m3))) (.tail _ (.tail _ (.tail _ m4))) (.tail _ (.tail _ (.tail _ m10))) (.tail _ (.tail _ (.tail _ m7))) dC dB hO hc hsz hkv hov (askKeys_length _ _) hal (fun a ha => askKeys_size ha) hall ?_
  clear F N
  intro h10 tk10 u10 F N
  refine seg_draws (news := (cS, oS) :: news) oN oL cx (s := { s with heap := h10, toks := tk10 }) (fr_pack F (by kst_all)) (news_drop1 N) (.tail _ m8) (.tail _ m9) nL' dN dL hints ok ?_
  clear F N dL
  intro h11 tk11 u11 D2 oL kk ys tp tq F N dL hys k1 k2
  have k3 : @Ne Nat cS D2 := k2 _ (.head _)
  have P0 : 0 ≤ Int.fmod (draw ns 8) 42 := Int.fmod_nonneg_of_pos _ (by decide)
  have P1 : Int.fmod (draw ns 8) 42 < 42 := Int.fmod_lt_of_pos _ (by decide)
  have hK := keyAt_size ns 17
  refine seg_turn oN oL oS cx (s := { s with heap := h11, toks := tk11 }) F N m8 m9 nL nS hLS k1 k3 dN dL dS hints ok hK P0 P1 hys (rowN_length _ _) (rowN_octs _ _) (fun p0 p1 zs hz hzo => law_single p0 p1 zs hz hzo) (fun hn => law_none P0 P1 hn _ (rowN_length _ _) (rowN_octs _ _)) ?_
  clear F N dL hys k1 k2 k3
  intro h12 tk12 u12 D3 oL3 oS3 kk3 ys3 zs3 F N dL3 hys3 hz3 hzo3
  exact seg_end (zs := zs3) (D := D3) (oB := oB) (oL := oL3) cx (s := { s with heap := h12, toks := tk12 }) F N (.head _) (.tail _ (.head _)) (.tail _ (.tail _ (.tail _ m5))) (.tail _ (.tail _ (.tail _ m6))) (.tail _ (.tail _ (.tail _ m3))) (.tail _ (.tail _ (.tail _ m4))) (.tail _ (.tail _ (.tail _ m7))) dB dL3 hK P0 P1 hys3 hz3 hzo3 (fun h tk u F => next h tk u F)
end
end BloomP
end

noncomputable section
namespace BloomP
/-- what must hold behind the law's call -/
noncomputable def EndOk (s₁ : Shared) (v : Value) (s' : Shared) : Prop := v = .bool true ∧ ∃ (h : Heap) (tk : Nat) (u : Str → Option Value), s' = { s₁ with heap := h, toks := tk } ∧ Fr s₁.heap s₁.heap.objs.size h u
set_option maxRecDepth 100000 in
set_option maxHeartbeats 4000000 in
theorem law_holds : PySem.Challenge.rw_nz0358_01.Holds := BloomH.hd (by
  k_fill
  intro w s₀ s₁ mg mb G Y hg args vals as hpre hlay hrd hwl hlo f hmg
  have KX := kIn_of Y
  refine Ground.open G ?_
  intro T B D TE TW
  wrow_args hpre hlay hrd hwl hlo
  rename IntsAre _ _ => hints
  rename Heap.IsList _ _ _ => hlist
  rename ¬ _ => hlen
  have hf : f = .ref 157 := Option.some.inj (hmg.symm.trans (mg_of KX T.g (by k_is)))
  subst hf
  clear hmg
  refine wpI_mono (Q := EndOk s₁) ?_ ?_
  case refine_2 =>
    rintro v s' ⟨rfl, h, tk, u, rfl, hF⟩
    refine GoodW.toG ?_
    refine goodW_bool hF hg (raisesW_false ?_) ?_
    · wrow_none_raised
    · wrow_post
  refine wpI_call ?_
  k_dflt (refine' codeI_top (R := Gives' (EndOk s₁)) ?k1 ?k2 ?k3 ?k4 ?k5 ?k6 ?k7 ?k8 ?_ ?c2 ?c3 ?c4; (case k1 => exact KX); (case k2 => exact T.nolimit); (case k3 => k_is); (case k4 => k_is); (case k5 => decide); (case k6 => exact BindsTo.of_eq rfl); (case k7 => exact rfl); (case k8 => decide +kernel); (case c2 => exact rfl); (case c3 => exact rfl); (case c4 => exact rfl))
  intro h₁ tk cells F N Y9
  have hY := PyProof.Rows.kc_five Y9
  obtain ⟨o1, o2, o3, o4, o5, hE, d1, d2, d3, d4, d5⟩ := hY
  subst hE
  clear Y9
  have cx : Cx w (ExcName.means s₀.heap) mg mb 302 7 callerA s₁.heap s₁.heap s₁.heap.objs.size (s₁.heap.objs.size + 1) (s₁.heap.objs.size + 1 + 1) (s₁.heap.objs.size + 1 + 1 + 1) (s₁.heap.objs.size + 1 + 1 + 1 + 1) (s₁.heap.objs.size + 1 + 1 + 1 + 1 + 1) :=
    ⟨below_caller s₁.heap, KX, T, by decide, by decide, Nat.lt_succ_self _, Nat.lt_succ_self _, Nat.lt_succ_self _, Nat.lt_succ_self _, Nat.lt_succ_self _⟩
  have F0 : Fr s₁.heap s₁.heap.objs.size h₁ (kstB _ [(Str.ofString "script", .ref _)]) := fr_pack F (by kst_all)
  show wpI (model lawP w) (lawA w 302 7 (some []) s₁.heap.objs.size (s₁.heap.objs.size + 1) (s₁.heap.objs.size + 1 + 1) (s₁.heap.objs.size + 1 + 1 + 1) (s₁.heap.objs.size + 1 + 1 + 1 + 1) (s₁.heap.objs.size + 1 + 1 + 1 + 1 + 1)) (execs (lawIs w).1.1 (lawEnv w s₁.heap.objs.size (s₁.heap.objs.size + 1) (s₁.heap.objs.size + 1 + 1) (s₁.heap.objs.size + 1 + 1 + 1) (s₁.heap.objs.size + 1 + 1 + 1 + 1) (s₁.heap.objs.size + 1 + 1 + 1 + 1 + 1))) _ { s₁ with heap := h₁, toks := tk }
  refine law_walk (s := { s₁ with heap := h₁, toks := tk }) o5 o4 o3 o2 o1 cx F0 N d5 d4 d3 d2 d1 hlist hints (by omega) ?_
  intro h tk' u Fu
  exact ⟨rfl, h, tk', u, rfl, Fu⟩)
end BloomP
end

theorem PySem.Challenge.cw_nz0358_01_holds : PySem.Challenge.rw_nz0358_01.Holds :=
  BloomP.law_holds
