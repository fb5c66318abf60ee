import PyProof.Rows.All
import Wide.All
import OpenK.AllK
import Wide.FinOn
import Lean
import PySem.Challenge.RW_xw0352_01
set_option Elab.async false
set_option compiler.extract_closed false
section TSLog
open PySem PySem.W PyProof.Rows
set_option Elab.async false
namespace Mine
open Sem (wp)

/-- codes that `exported` weighs when it looks at the stack -/
noncomputable def holders : List String := Builtin.Bytes.decodersThatHold ++ ["bytearray.__contains__", "bytearray.__mod__", "bytearray.__rmod__", "_struct.pack_into.held", "bytearray.find.held"]
noncomputable def cln : Code → Bool
  | .builtin id _ => !holders.contains id
  | _ => true
noncomputable def clnAll (l : List (Code × Pos)) : Bool := l.all fun x => cln x.1
theorem clnAll_cons {c : Code} {p : Pos} {l : List (Code × Pos)} (hc : cln c = true) (hl : clnAll l = true) : clnAll ((c, p) :: l) = true := by
  simp only [clnAll, List.all_cons, hc, Bool.true_and]; exact hl

def wpS {α : Type} (M : Model) (A : Around) (t : Sem α) (Q : α → Shared → Prop) (E : Value → Shared → Prop) (s : Shared) : Prop :=
  ∀ Γ p, Γ.In A → cln Γ.code = true → clnAll Γ.below = true → wp M Γ t (fun a _ s' => Q a s') (fun e _ s' => E e s') p s
def codeS (M : Model) (A : Around) (c : Code) (R : Result → Shared → Prop) (s : Shared) : Prop :=
  ∀ Γ p, Γ.code = c → Γ.Below A → clnAll Γ.below = true → wpCode M Γ R p s

section
variable {α β : Type} {M : Model} {A : Around} {E : Value → Shared → Prop} {s : Shared}
theorem wpS_any {t : Sem α} {Q : α → Shared → Prop} (h : wpAny M A t Q E s) : wpS M A t Q E s := fun Γ p hΓ _ _ => h Γ p hΓ
theorem codeS_any {c : Code} {R : Result → Shared → Prop} (h : codeAny M A c R s) : codeS M A c R s := fun Γ p hc hΓ _ => h Γ p hc hΓ
theorem wpS_mono {t : Sem α} {Q Q' : α → Shared → Prop} {E' : Value → Shared → Prop} (h : wpS M A t Q E s)
    (hQ : ∀ a s, Q a s → Q' a s) (hE : ∀ e s, E e s → E' e s) : wpS M A t Q' E' s :=
  fun Γ p hΓ h1 h2 => Sem.wp_mono M Γ t (fun a _ s => hQ a s) (fun e _ s => hE e s) p s (h Γ p hΓ h1 h2)
theorem codeS_mono {c : Code} {R R' : Result → Shared → Prop} (h : codeS M A c R s) (hR : ∀ r s, R r s → R' r s) : codeS M A c R' s :=
  fun Γ p hc hΓ hb => wpCode_mono hR (h Γ p hc hΓ hb)
theorem wpS_pure {a : α} {Q : α → Shared → Prop} (h : Q a s) : wpS M A (pure a) Q E s := fun _ _ _ _ _ => h
theorem wpS_bind {m : Sem α} {f : α → Sem β} {Q : β → Shared → Prop} (h : wpS M A m (fun a s' => wpS M A (f a) Q E s') E s) :
    wpS M A (m >>= f) Q E s := fun Γ p hΓ h1 h2 => by
  rw [Sem.wp_bind']
  exact Sem.wp_mono M Γ m (fun a p' s' h' => h' Γ p' hΓ h1 h2) (fun _ _ _ h' => h') p s (h Γ p hΓ h1 h2)
/-- an any-step ahead of an S-continuation -/
theorem wpS_then {m : Sem α} {f : α → Sem β} {Q : β → Shared → Prop} (h : wpAny M A m (fun a s' => wpS M A (f a) Q E s') E s) :
    wpS M A (m >>= f) Q E s := wpS_bind (wpS_any h)
theorem wpS_onRaise {m : Sem α} {k : Value → Sem Unit} {Q : α → Shared → Prop}
    (h : wpS M A m Q (fun e s' => wpS M A (k e) (fun _ s'' => E e s'') E s') s) : wpS M A (m.onRaise k) Q E s := fun Γ p hΓ h1 h2 => by
  rw [Sem.wp_onRaise]
  exact Sem.wp_mono M Γ m (fun _ _ _ h' => h') (fun e p' s' h' => h' Γ p' hΓ h1 h2) p s (h Γ p hΓ h1 h2)
theorem wpS_attempt {m : Sem α} {Q : Except Value α → Shared → Prop} (h : wpS M A m (fun a => Q (.ok a)) (fun e => Q (.error e)) s) :
    wpS M A m.attempt Q E s := fun Γ p hΓ h1 h2 => by rw [Sem.wp_attempt]; exact h Γ p hΓ h1 h2
theorem wpS_holding {vs : List Value} {m : Sem α} {Q : α → Shared → Prop} (h : wpS M A m Q E s) : wpS M A (holding vs m) Q E s :=
  fun Γ p hΓ h1 h2 => by rw [Sem.wp_holding]; exact h Γ p hΓ h1 h2
theorem wpS_standAt {pos : Pos} {Q : Unit → Shared → Prop} (h : Q () s) : wpS M A (standAt pos) Q E s := fun _ _ _ _ _ => h
theorem wpS_point {Q : Unit → Shared → Prop} (h : Q () s) : wpS M A point Q E s := fun _ _ _ _ _ => h
theorem wpS_stack {Q : List (Code × Pos) → Shared → Prop} (h : ∀ st : List (Code × Pos), clnAll st = true → Q st s) : wpS M A stack Q E s := fun Γ p _ h1 h2 => by
  show Q ((Γ.code, p) :: Γ.below) s
  exact h _ (clnAll_cons h1 h2)
theorem enter_cln {Γ : Ctx} {c : Code} {h : Option Value} {p : Pos} (h1 : cln Γ.code = true) (h2 : clnAll Γ.below = true) : clnAll (Γ.enter c h p).below = true := clnAll_cons h1 h2
theorem wpS_run {c : Code} {h : Option Value} {Q : Flow → Shared → Prop}
    (hc : codeS M (A.mark h) c (fun r s' => match r with | .ok f => Q f s' | .error e => E e s') s) (hnb : h ≠ some byPass := by intro x; cases x) :
    wpS M A (run c h) Q E s :=
  fun Γ p hΓ h1 h2 => by rw [Sem.wp_run]; exact hc _ p rfl (hΓ.enter c h p hnb) (enter_cln h1 h2)
theorem wpS_runValue {c : Code} {Q : Value → Shared → Prop}
    (hc : codeS M A c (fun r s' => match r with | .ok (.ret v) => Q v s' | .ok _ => False | .error e => E e s') s) :
    wpS M A (runValue c) Q E s := fun Γ p hΓ h1 h2 => by rw [Sem.wp_runValue]; exact hc _ p rfl (hΓ.enter c none p (by intro x; cases x)) (enter_cln h1 h2)
theorem wpS_call {f : Value} {pos : List Value} {kw : List (Str × Value)} {Q : Value → Shared → Prop}
    (hc : codeS M A (.call f ⟨pos, kw⟩) (fun r s' => match r with | .ok (.ret v) => Q v s' | .ok _ => False | .error e => E e s') s) :
    wpS M A (call f pos kw) Q E s := wpS_runValue hc
theorem codeS_of_tree {c : Code} {R : Result → Shared → Prop} (hcl : cln c = true)
    (h : wpS M (A.under c) (M.den c) (fun fin s' => match fin with | .done f => R (.ok f) s' | .again c' => c'.quiet = true ∧ codeS M A c' R s')
      (fun e s' => R (.error e) s') s) : codeS M A c R s := fun Γ p hc hΓ hb => by
  rw [wpCode_iff_wp, hc]
  refine Sem.wp_mono M Γ _ (fun fin p' s' h' => ?_) (fun _ _ _ h' => h') p s (h Γ p (hc ▸ hΓ.in) (by rw [hc]; exact hcl) hb)
  cases fin with
  | done f => exact h'
  | again c' => exact ⟨h'.1, h'.2 (Γ.goto c') p' rfl (hΓ.goto c') hb⟩
theorem codeS_loop {c : Code} {R : Result → Shared → Prop} (hcl : cln c = true) (hq : c.quiet = true) (I : Nat → Shared → Prop)
    (turn : ∀ n s, I n s → wpS M (A.under c) (M.den c)
      (fun fin s' => match fin with | .done f => R (.ok f) s' | .again c' => c' = c ∧ ∃ m, m < n ∧ I m s') (fun e s' => R (.error e) s') s)
    (n : Nat) (h : I n s) : codeS M A c R s := by
  induction n using Nat.strongRecOn generalizing s with
  | ind n ih =>
    refine codeS_of_tree hcl (wpS_mono (turn n s h) (fun fin s' hf => ?_) fun _ _ h' => h')
    cases fin with
    | done f => exact hf
    | again c' => obtain ⟨rfl, m, hm, hI⟩ := hf; exact ⟨hq, ih m hm hI⟩
theorem no_hold {id lit : String} {a : Args} (h : cln (.builtin id a) = true) (hl : holders.contains lit = true) : id ≠ lit := fun e => by
  subst e
  simp only [cln, hl, Bool.not_true, Bool.false_eq_true] at h
/-- the stack holds no code that holds a bytearray -/
theorem exported_clean {self : Value} {Q : Bool → Shared → Prop} (h : Q false s) : wpS M A (Builtin.Bytes.exported self) Q E s := by
  unfold Builtin.Bytes.exported
  refine wpS_bind (wpS_stack fun st hst => wpS_pure ?_)
  suffices e : (st.any _) = false by rw [e]; exact h
  rw [List.any_eq_false]
  intro x hx
  have hc : cln x.1 = true := List.all_eq_true.mp hst x hx
  obtain ⟨c, p⟩ := x
  dsimp only at hc
  cases c
  case builtin id args =>
    have n1 := no_hold (lit := "bytearray.__contains__") hc (by decide +kernel)
    have n2 := no_hold (lit := "bytearray.__mod__") hc (by decide +kernel)
    have n3 := no_hold (lit := "bytearray.__rmod__") hc (by decide +kernel)
    have n4 := no_hold (lit := "_struct.pack_into.held") hc (by decide +kernel)
    have n5 := no_hold (lit := "bytearray.find.held") hc (by decide +kernel)
    obtain ⟨pos, kw⟩ := args
    delta Builtin.Bytes.exported.match_1
    change ¬ (dite (id = "bytearray.__contains__") _ _) = true
    rw [dif_neg n1]
    change ¬ (dite (id = "bytearray.__mod__") _ _) = true
    rw [dif_neg n2]
    change ¬ (dite (id = "bytearray.__rmod__") _ _) = true
    rw [dif_neg n3]
    change ¬ (dite (id = "_struct.pack_into.held") _ _) = true
    rw [dif_neg n4]
    change ¬ (dite (id = "bytearray.find.held") _ _) = true
    rw [dif_neg n5]
    cases pos with
    | nil => exact Bool.false_ne_true
    | cons v tl =>
      change ¬ (Builtin.Bytes.sameRef v self && Builtin.Bytes.decodersThatHold.contains id) = true
      intro hh
      have hd := (Bool.and_eq_true_iff.mp hh).2
      refine no_hold (lit := id) hc ?_ rfl
      unfold holders
      rw [List.contains_iff_mem] at hd ⊢
      exact List.mem_append_left _ hd
  all_goals exact Bool.false_ne_true
end
end Mine
end TSLog
section TSLog2
open PySem PySem.W PyProof.Rows
set_option Elab.async false
set_option maxRecDepth 100000
namespace Mine
section
variable {prog : Program} {w : World} {A : Around} {E : Value → Shared → Prop} {R : Result → Shared → Prop} {s : Shared}
theorem codeS_func {body env}
    (h : wpS (model prog w) (A.deeper env) (execs body env) (fun f s' => R (.ok (.ret (match f with | .ret v => v | _ => .none))) s')
      (fun e s' => wpAny (model prog w) (A.deeper env) (leaving env e) (fun _ s'' => R (.error e) s'') (fun e' s'' => R (.error e') s'') s') s) :
    codeS (model prog w) A (.func body env) R s := by
  refine codeS_of_tree rfl ?_
  show wpS _ (A.deeper env) (do point; match ← (execs body env).onRaise (leaving env) with | .ret v => ret v | _ => ret .none) _ _ s
  refine wpS_bind (wpS_point (wpS_bind (wpS_onRaise (wpS_mono h (fun f s' h' => ?_) fun _ _ h' => wpS_any h'))))
  cases f <;> exact wpS_pure h'

theorem codeS_call_function {a : Addr} {args : Args} {o : Obj} {fd : FuncData} {body : List Stmt} (hroom : A.depth < recursionLimit)
    (ho : s.heap.get? a = some o)
    (hd' : o.data = .func fd) (hco : fd.scope.isCoroutine = false) (hgen : fd.scope.isGenerator = false) (hbody : fd.body = .stmts body) (hcd : s.heap.CodeRec fd.code fd.qualname)
    (h : wpAny (model prog w) A.in1 (bindArgs fd args) (fun binds s₁ =>
      wpAny (model prog w) A.in1 (newFunctionEnv fd.scope fd.globals fd.closure binds (fd.qualname ++ ".<locals>.") (some a) fd.code none fd.builtins)
        (fun env s₂ => s₂.heap.NoLimit ∧ codeS (model prog w) A (.func body env) R s₂) (fun e s' => R (.error e) s') s₁) (fun e s' => R (.error e) s') s) :
    codeS (model prog w) A (.call (.ref a) args) R s := by
  refine codeS_of_tree rfl ?_
  show wpS _ A.in1 (callAny (.ref a) args) _ _ s
  simp only [callAny]
  refine wpS_then (wpAny_load ho ?_)
  obtain ⟨c, oc, vs, tq, hc, hoc, hdc, hq⟩ := hcd
  simp only [hd', callFunction, hco, hgen, hbody, hc]
  rw [hc] at h
  refine wpS_then (m := field (.ref c) 1) (wpAny_field hoc hdc hq (wpS_then (wpAny_pure ?_)))
  exact wpS_then (wpAny_mono h (fun binds s₁ h₁ => wpS_then (wpAny_mono h₁ (fun env s₂ h₂ => wpS_then (wpAny_enterFrame h₂.1 hroom
    (wpS_pure (And.intro rfl h₂.2)))) fun _ _ h' => h')) fun _ _ h' => h')

theorem codeS_call_def {a : Addr} {o : Obj} {fd : FuncData} {body : List Stmt} {args : Args} {binds : List (Str × Value)}
    (hroom : A.depth < recursionLimit) (ho : s.heap.get? a = some o) (hdata : o.data = .func fd) (hlim : s.heap.NoLimit) (hcd : s.heap.CodeRec fd.code fd.qualname)
    (hbody : fd.body = .stmts body) (hbind : BindsTo s fd args binds)
    (hcell : ∀ x ∈ fd.scope.names, x.2 ≠ .cell) (hloc : ∀ x ∈ binds, fd.scope.names.lookup x.1 = some .local)
    (h : ∀ h₀, h₀.Ns s.heap.objs.size (fun x => binds.reverse.lookup x) → (∀ b o, s.heap.get? b = some o → h₀.get? b = some o) →
      wpS (model prog w) (A.deeper (callEnv fd s.heap.objs.size a)) (execs body (callEnv fd s.heap.objs.size a)) (fun f s' => R (.ok (.ret (match f with | .ret v => v | _ => .none))) s')
        (fun e s' => wpAny (model prog w) (A.deeper (callEnv fd s.heap.objs.size a)) (leaving (callEnv fd s.heap.objs.size a) e) (fun _ s'' => R (.error e) s'') (fun e' s'' => R (.error e') s'') s')
        { s with heap := h₀, toks := s.toks + binds.length })
    (hco : fd.scope.isCoroutine = false := by rfl) (hgen : fd.scope.isGenerator = false := by rfl) (hk : fd.scope.kind = .function := by rfl) :
    codeS (model prog w) A (.call (.ref a) args) R s := by
  refine codeS_call_function hroom ho hdata hco hgen hbody hcd (hbind _ _ _ _ ?_)
  refine wpAny_newFunctionEnv hcell hloc (fun h₀ hns₀ hsb₀ => ⟨hlim.fresh _ hsb₀, codeS_func (h h₀ hns₀ fun b o e => ?_)⟩) hk
  exact hsb₀.extBut b o (Nat.ne_of_lt (Heap.lt_size e)) (Heap.get?_push_of_some _ e)
end

section
variable {prog : Program} {w : World} {A₀ A : Around} {s : Shared} {base h₀ : Heap} {outer : List Env} {L : Addr} {m : Str → Option Value} {env : Env} {news : List (Addr × Obj)} {K : Frag} {mg mb : Str → Option Value} {p : Program} {loose : List Str} {mean : ExcName → Option Value}
  {R : Result → Shared → Prop} {name qual : Str} {params : Arguments} {body : List Stmt} {scope : Scope} {cl : List (Str × Addr)} {dV kV doc pm cdv ct oc : Value} {an od : Option Addr} {osl : Array (Option Value)} {fo : Obj} {f : Addr} {args : Args} {binds : List (Str × Value)}

theorem callS_plain (B : Below A₀ base outer h₀) (F : Fr h₀ L s.heap m) (N : News h₀ L s.heap news) (hlim : h₀.NoLimit) (hA : A.frames = some (env :: outer)) (hf : env.frame = some L) (hke : env.scope.kind = .function)
    (ho : s.heap.get? f = some fo) (hd : fo.data = .func (fnX name qual params body scope cl dV kV doc pm an cdv ct)) (hcd : s.heap.CodeRec cdv qual) (hroom : A.depth < recursionLimit)
    (hbind : BindsTo s (fnX name qual params body scope cl dV kV doc pm an cdv ct) args binds) (hloc : ∀ y ∈ binds, scope.names.lookup y.1 = some .local)
    (h : ∀ g L' h₁, Fr h₀ L g m → Fr g L' h₁ (fun y => binds.reverse.lookup y) → News g L' h₁ news → Below A base (env :: outer) g → h₀.StaysIn g → (∀ p ∈ news, p.1 < L') →
      wpS (model prog w) (A.deeper (envX qual scope L' f cdv cl)) (execs body (envX qual scope L' f cdv cl))
        (fun fl s' => LeaveK h₀ L m g R (match fl with | .ret v => v | _ => .none) s')
        (fun e s' => wpAny (model prog w) (A.deeper (envX qual scope L' f cdv cl)) (leaving (envX qual scope L' f cdv cl) e) (fun _ s'' => R (.error e) s'') (fun e' s'' => R (.error e') s'') s')
        { s with heap := h₁, toks := s.toks + binds.length })
    (hcell : ∀ x ∈ scope.names, x.2 ≠ .cell) (hco : scope.isCoroutine = false := by rfl) (hgen : scope.isGenerator = false := by rfl) (hk : scope.kind = .function := by rfl) : codeS (model prog w) A (.call (.ref f) args) R s := by
  obtain ⟨FG, BG, st, lv⟩ := groundX (R := R) B F N hA hf hke
  refine codeS_call_def (fd := fnX name qual params body scope cl dV kV doc pm an cdv ct) (body := body) (binds := binds) hroom ho hd (hlim.keeps F.keep) hcd rfl hbind hcell hloc (fun h₁ hns hk₁ => ?_) hco hgen hk
  exact wpS_mono (h _ s.heap.objs.size h₁ FG ⟨hns, fun b o e => hk₁ b o (of_hideAll _ e), Nat.le_of_eq (hideAll_size _ _)⟩
    (fun p hp => ⟨hk₁ _ _ (N p hp).1, Nat.ne_of_lt (Heap.lt_size (N p hp).1), hideAll_none _ (List.mem_map_of_mem hp)⟩) BG st (fun p hp => Heap.lt_size (N p hp).1)) (fun fl s' hl => lv _ _ hl) fun _ _ y => y

theorem callS_cells (B : Below A₀ base outer h₀) (F : Fr h₀ L s.heap m) (N : News h₀ L s.heap news) (hlim : h₀.NoLimit) (hA : A.frames = some (env :: outer)) (hf : env.frame = some L) (hke : env.scope.kind = .function)
    (ho : s.heap.get? f = some fo) (hd : fo.data = .func (fnX name qual params body scope [] dV kV doc pm an cdv ct)) (hcd : s.heap.CodeRec cdv qual) (hroom : A.depth < recursionLimit)
    (hbind : BindsTo s (fnX name qual params body scope [] dV kV doc pm an cdv ct) args binds)
    (hkind : ∀ n, ∀ x ∈ binds, scope.names.lookup x.1 = some .local ∨ (scope.names.lookup x.1 = some .cell ∧ ((cellsFrom n scope.names []).lookup x.1).isSome = true))
    (hnd : ((cellsFrom 0 scope.names []).map (·.1)).Nodup)
    (h : ∀ g L' h₁ tk cells, Fr h₀ L g m → Fr g L' h₁ (bindL (envOfC qual scope L' f cdv).kindOf binds fun _ => none) → News g L' h₁ (cells ++ news) →
      CellsAre (bindC (envOfC qual scope L' f cdv).kindOf binds fun _ => none) (cellsFrom (L' + 1) scope.names []) cells → Below A base (env :: outer) g → h₀.StaysIn g → (∀ p ∈ news, p.1 < L') →
      wpS (model prog w) (A.deeper (envOfC qual scope L' f cdv)) (execs body (envOfC qual scope L' f cdv))
        (fun fl s' => LeaveK h₀ L m g R (match fl with | .ret v => v | _ => .none) s')
        (fun e s' => wpAny (model prog w) (A.deeper (envOfC qual scope L' f cdv)) (leaving (envOfC qual scope L' f cdv) e) (fun _ s'' => R (.error e) s'') (fun e' s'' => R (.error e') s'') s')
        { s with heap := h₁, toks := tk })
    (hco : scope.isCoroutine = false := by rfl) (hgen : scope.isGenerator = false := by rfl) (hk : scope.kind = .function := by rfl) : codeS (model prog w) A (.call (.ref f) args) R s := by
  obtain ⟨FG, BG, st, lv⟩ := groundX (R := R) B F N hA hf hke
  refine codeS_call_function hroom ho hd hco hgen rfl hcd (hbind _ _ _ _ ?_)
  refine wpAny_newFunctionEnv_cells hk (hkind _) fun env' he s' x => ?_
  subst he
  refine ⟨(hlim.keeps F.keep).keeps x.toInCall.keep, codeS_func ?_⟩
  obtain ⟨h₁, tk, rfl, _⟩ := x.done
  have hk₁ := x.toInCall.keep
  obtain ⟨cells, NC, Y⟩ := Cl.news (h₀ := s.heap) (Nat.le_refl _) fun n c hm => ⟨x.cell n c (lookup_of_mem_nodup (cellsFrom_names scope.names 0 (s.heap.objs.size + 1) [] [] rfl ▸ hnd) hm), x.above n c hm⟩
  refine wpS_mono (h _ s.heap.objs.size h₁ tk cells FG ⟨x.toInCall.ns, fun b o e => hk₁ b o (of_hideAll _ e), Nat.le_of_eq (hideAll_size _ _)⟩ (fun p hp => ?_) Y BG st (fun p hp => Heap.lt_size (N p hp).1)) (fun fl s' hl => lv _ _ hl) fun _ _ y => y
  rcases List.mem_append.mp hp with hp | hp
  · refine ⟨(NC p hp).1, (NC p hp).2.1, ?_⟩
    cases q : (hideAll s.heap (news.map (·.1))).get? p.1 with
    | none => rfl
    | some o => have := of_hideAll _ q; rw [(NC p hp).2.2] at this; cases this
  · exact ⟨hk₁ _ _ (N p hp).1, Nat.ne_of_lt (Heap.lt_size (N p hp).1), hideAll_none _ (List.mem_map_of_mem hp)⟩

theorem codeS_def
    (B : Below A₀ base outer h₀) (F : Fr h₀ L s.heap m) (X₀ : K.In h₀) (N : News h₀ L s.heap news) (T : Top p loose mean mg mb h₀) (hA : A.frames = some (env :: outer)) (hf : env.frame = some L) (hke : env.scope.kind = .function)
    (ho : K.lookup f = some ⟨oc, od, .func (fnOf name qual params body scope dV kV doc pm an cdv ct), osl⟩) (hcd : codeIn K cdv qual = true) (hroom : A.depth < recursionLimit)
    (hbind : BindsTo s (fnOf name qual params body scope dV kV doc pm an cdv ct) args binds) (hloc : ∀ y ∈ binds, scope.names.lookup y.1 = some .local)
    (h : ∀ g L' h₁, Fr h₀ L g m → Fr g L' h₁ (fun y => binds.reverse.lookup y) → News g L' h₁ news → Below A base (env :: outer) g → K.In g → Top p loose mean mg mb g →
      wpS (model prog w) (A.deeper (envOf qual scope L' f cdv)) (execs body (envOf qual scope L' f cdv))
        (fun fl s' => LeaveK h₀ L m g R (match fl with | .ret v => v | _ => .none) s')
        (fun e s' => wpAny (model prog w) (A.deeper (envOf qual scope L' f cdv)) (leaving (envOf qual scope L' f cdv) e) (fun _ s'' => R (.error e) s'') (fun e' s'' => R (.error e') s'') s')
        { s with heap := h₁, toks := s.toks + binds.length })
    (hco : scope.isCoroutine = false) (hgen : scope.isGenerator = false) (hk : scope.kind = .function)
    (hcell : ∀ x ∈ scope.names, x.2 ≠ .cell) : codeS (model prog w) A (.call (.ref f) args) R s :=
  callS_plain (cl := []) B F N T.nolimit hA hf hke ((X₀.keeps F.keep) _ _ ho) rfl (codeRec_of (X₀.keeps F.keep) hcd) hroom hbind hloc (fun g L' h₁ FG F' N' B' st _ => h g L' h₁ FG F' N' B' (X₀.keeps st) (T.keeps st)) hcell hco hgen hk

theorem codeS_defC
    (B : Below A₀ base outer h₀) (F : Fr h₀ L s.heap m) (X₀ : K.In h₀) (N : News h₀ L s.heap news) (T : Top p loose mean mg mb h₀) (hA : A.frames = some (env :: outer)) (hf : env.frame = some L) (hke : env.scope.kind = .function)
    (ho : K.lookup f = some ⟨oc, od, .func (fnOf name qual params body scope dV kV doc pm an cdv ct), osl⟩) (hcd : codeIn K cdv qual = true) (hroom : A.depth < recursionLimit)
    (hbind : BindsTo s (fnOf name qual params body scope dV kV doc pm an cdv ct) args binds) (hkind : (binds.all fun y => scope.names.lookup y.1 == some .local || scope.names.lookup y.1 == some .cell) = true)
    (hnd : ((cellsFrom 0 scope.names []).map (·.1)).Nodup)
    (h : ∀ g L' h₁ tk cells, Fr h₀ L g m → Fr g L' h₁ (bindL (envOfC qual scope L' f cdv).kindOf binds fun _ => none) → News g L' h₁ (cells ++ news) →
      CellsAre (bindC (envOfC qual scope L' f cdv).kindOf binds fun _ => none) (cellsFrom (L' + 1) scope.names []) cells → Below A base (env :: outer) g → K.In g → Top p loose mean mg mb g → (∀ p ∈ news, p.1 < L') →
      wpS (model prog w) (A.deeper (envOfC qual scope L' f cdv)) (execs body (envOfC qual scope L' f cdv))
        (fun fl s' => LeaveK h₀ L m g R (match fl with | .ret v => v | _ => .none) s')
        (fun e s' => wpAny (model prog w) (A.deeper (envOfC qual scope L' f cdv)) (leaving (envOfC qual scope L' f cdv) e) (fun _ s'' => R (.error e) s'') (fun e' s'' => R (.error e') s'') s')
        { s with heap := h₁, toks := tk })
    (hco : scope.isCoroutine = false) (hgen : scope.isGenerator = false) (hk : scope.kind = .function) : codeS (model prog w) A (.call (.ref f) args) R s :=
  callS_cells B F N T.nolimit hA hf hke ((X₀.keeps F.keep) _ _ ho) rfl (codeRec_of (X₀.keeps F.keep) hcd) hroom hbind (kindsX hkind) hnd (fun g L' h₁ tk cells FG F' N' Y B' st l => h g L' h₁ tk cells FG F' N' Y B' (X₀.keeps st) (T.keeps st) l) hco hgen hk
end
end Mine
end TSLog2
section TSHead
open PySem PySem.W PySem.Calls PyProof.Rows
set_option Elab.async false
set_option maxRecDepth 100000
set_option maxHeartbeats 4000000
namespace Mine
theorem thread_ends_S {prog : Program} {w : World} {t : Sem Fin} {s : Shared} {R : Result → Shared → Prop} (hreg : s.asleep)
    (h : wpS (model prog w) callerA t (fun fin s' => ∃ f, fin = .done f ∧ (R (.ok f) s' ∧ leftWithCleanup s'.gens = false)) (fun e s' => R (.error e) s' ∧ leftWithCleanup s'.gens = false) s) :
    ∃ n r s' s'', runN (denote table) prog w n s ⟨t, .builtin "claim.caller" {}, default, []⟩ = .halted (outcomeOf r) s' ∧
      schedN (denote table) prog w n (.single s ⟨t, .builtin "claim.caller" {}, default, []⟩) = .halted (outcomeOf r) s' ∧ s'.forget = s''.forget ∧ R r s'' := by
  have here := h ⟨.builtin "claim.caller" {}, none, none, [], none⟩ default caller_in (by decide +kernel) rfl
  obtain ⟨n, r, s₁, s₂, hs, hn, hfo, hR⟩ := wp_halts_full (M := model prog w) (R := R) hreg
    (Sem.wp_mono _ _ t (fun fin _ _ h' => by obtain ⟨f, rfl, x⟩ := h'; exact x) (fun _ _ _ h' => h') default s here)
  exact ⟨n, r, s₂, s₁, hn, hs, hfo, hR⟩

theorem callFrom_S {c : ClaimW} {tree : List Value → Sem Fin} {w : World} {s : Shared} {free : Addr → Prop} {gens : Prop} {kept : Heap → Prop} (hz : s.asleep) (hgens : s.gens = #[])
    (hspec : ∀ args, c.pre args = true → WData.layableAll args = true →
      ∀ ord : List DictEntry → List DictEntry, (∀ l, (ord l).Perm l) →
      ∃ vs s₁, layAllW c.records (classAt s.heap) w.params ord args s = some (vs, s₁) ∧
        wpS (model c.prog w) callerA (tree vs) (fun fin s' => ∃ f, fin = .done f ∧ (c.Ends s args vs s₁ (.ok f) s' ∧ s'.os = s.os ∧ AllBare s'.gens ∧ kept s'.heap))
          (fun e s' => c.Ends s args vs s₁ (.error e) s' ∧ s'.os = s.os ∧ AllBare s'.gens ∧ kept s'.heap) s₁) :
    c.CallFrom (fun vs => ⟨tree vs, .builtin "claim.caller" {}, default, []⟩) w free gens kept s := by
  intro args hpre hlay ord hord
  obtain ⟨vs, s₁, hlaid, hcode⟩ := hspec args hpre hlay ord hord
  have rest := layAllW_rest _ _ _ hlaid
  obtain ⟨k, r, s', s'', hrun, hsched, hfo, hcase, hos, hkp⟩ := thread_ends_S (R := fun r s' => c.Ends s args vs s₁ r s' ∧ s'.os = s.os ∧ kept s'.heap)
    (Shared.asleep_of_life rest.2.2.2 hz)
    (wpS_mono hcode (fun fin s' x => by obtain ⟨f, e, h1, h2, h3, h4⟩ := x; exact ⟨f, e, ⟨h1, h2, h4⟩, leftWithCleanup_false_of_bare h3⟩)
      fun e s' x => ⟨⟨x.1, x.2.1, x.2.2.2⟩, leftWithCleanup_false_of_bare x.2.2.1⟩)
  obtain ⟨eh, _, _, eo, _⟩ := Shared.forget_eq hfo
  have hcase := hcase.congr eh
  rw [← eo] at hos
  rw [← eh] at hkp
  have life : s'.heap.life = s.heap.life := (runN_life _ _ _ hrun).trans rest.2.2.2
  refine ⟨vs, s₁, hlaid, k, _, s', hsched, ?_, (fun _ i x hx => by rw [hgens] at hx; simp at hx), hkp, by rw [life], Shared.rest_eq hos⟩
  rcases hcase with ⟨v, rfl, d1, d2, d3, d4, d5⟩ | ⟨e, ob, cls, rfl, d1, d2, d3, d4, d5⟩
  · exact .inl ⟨v, rfl, d1, d2, d3, fun b o y _ => d4 b o y, d5⟩
  · exact .inr ⟨e, ob, cls, rfl, d1, d2, d3, d4, fun b o y _ => d5 b o y⟩

abbrev WalkS (q : Program) (loose : List Str) (XP : (Str → Option Value) → Heap → Prop) (YP : World → Heap → Prop) (r : RowW) (d : DefRec) (kwd : List (Str × PySem.Expr)) : Prop :=
  ∀ (w : World) (s₀ s₁ : Shared) (mg mb : Str → Option Value), Ground q loose r.records XP w s₀ mg mb s₁.heap → YP w s₁.heap → ∀ (a : Addr) (o : Obj) (pm cd doc dV kV : Value), s₁.heap.get? a = some o →
    o.data = .func { docDef d.name d.params d.body d.scope pm cd doc with defaults := dV, kwdefaults := kV } → s₁.heap.CodeRec cd d.name → Dflts mg s₁.heap d.params kwd dV kV → mg d.name = some (.ref a) → s₁.gens = #[] →
    ∀ (args : List WData) (vals : List Value) (as : List Addr), r.claim.pre args = true → WData.layableAll args = true → ReadsAllW r.records (classAt s₀.heap) s₁.heap vals args as → WellAll w.params s₁.heap vals args → (∀ a ∈ as, (a == sysModules) = false) →
      wpS (model r.prog w) callerA (PySem.call (.ref a) vals) (fun v s' => GoodWG r.claim (classAt s₀.heap) (ExcName.means s₀.heap) args s₁ (.ok (.ret v)) s')
        (fun e s' => GoodWG r.claim (classAt s₀.heap) (ExcName.means s₀.heap) args s₁ (.error e) s') s₁

/-- the library's head, with the walk asked for clean contexts only; o_head finds it by this name -/
theorem PySem.W.holds_open {r : OpenRow} {q : Program} {loose : List Str} {Xt : Shared → Bool} {XP : (Str → Option Value) → Heap → Prop} {α : Type} {Yf : Shared → α} {Ya : World → α} {YP : World → Heap → Prop} {d : DefRec} {kwd : List (Str × PySem.Expr)} {N : Nat}
    (left : LeftO r.prog q loose Xt Yf Ya N) (hY : ∀ w s, Yf s = Ya w → YP w s.heap) (hYk : ∀ w h h', YP w h → (∀ b o, h.get? b = some o → h'.get? b = some o) → YP w h')
    (hX : ∀ s, Xt s = true → XP (s.heap.nsMap mainGlobals) s.heap) (hXk : ∀ mg h h', XP mg h → (∀ b o, h.get? b = some o → h'.get? b = some o) → XP mg h')
    (hdef : defOf q r.name = some (d, kwd)) (hp : r.prog.theDef r.name = some (d.params, d.body, d.scope)) (hk : kwWritten? d.params.kwonlyargs d.params.kw_defaults = some kwd) (hRf : ∀ s, Xt s = true → RecFacts r.records s.heap) (hwr : (!r.writes || r.records.isEmpty) = true)
    (k1 : r.wellSaid = true) (ok : (chainsOk q && opensWell r.prog && (frees r.toRowW && r.within.isEmpty)) = true) (hb : r.prog.bare) (hw : r.toRowW.promised)
    (walk : WalkS q loose XP YP r.toRowW d kwd) : r.Holds := by
  have ok' := ok
  simp only [Bool.and_eq_true] at ok'
  obtain ⟨⟨hch, o1⟩, k5, k6⟩ := ok'
  obtain ⟨hsame, hu, ha, hap, hm⟩ := frees_parts k5
  have hwi : r.within = [] := List.isEmpty_iff.mp k6
  refine ⟨k1, hw, ⟨hb, o1, by show r.toRowW.makers.map _ = []; rw [hm]; rfl⟩, hw.witness, fun w => ?_⟩
  have B := left.behind (XP := fun mg h => XP mg h ∧ RecFacts r.records h) (fun s hs => ⟨hX s hs, hRf s hs⟩) hch w
  refine ⟨B.1, fun s' hs' => ?_⟩
  obtain ⟨s₀, hf, hg0, s, hT, hz, hgens, hg, G00, y⟩ := B.2 s' hs'
  have G0 : Ground q loose [] XP w s (s.heap.nsMap mainGlobals) (s.heap.nsMap builtinsNs) s.heap := ⟨G00.T, G00.B, G00.D, G00.TE, G00.TD, G00.W, G00.X.1, G00.cls, G00.has, G00.apart, G00.once, G00.K⟩
  have RF := G00.X.2
  have hT' := hT
  have pins : ∀ n, n = r.name → isTheDefsW r.prog s.heap n := fun n e => by subst e; exact pinned_of_view hg G0 hdef hp hk
  refine ⟨s₀, hf, hg0, s, hT, fun n hn => pins n (by split at hn <;> simp_all), RF.1, RF.2.1, ?_⟩
  have hgens : s.gens = #[] := Array.eq_empty_of_size_eq_zero (beq_iff_eq.mp hgens)
  have G : Ground q loose r.records XP w s _ _ s.heap := RF.ground G0
  refine callFrom_S (c := r.toRowW.claim) hz hgens fun args hpre hlay ord hord => ?_
  obtain ⟨⟨vs, s₁⟩, hlaid⟩ := Option.isSome_iff_exists.mp (layAllW_isSome (P := w.params) (ord := ord) G.has args r.args s (pre_splitW hpre).1)
  have keeps := layAllW_keeps _ _ _ hlaid
  have rest := layAllW_rest _ _ _ hlaid
  obtain ⟨as, hrd, hin, hold⟩ := reads_layAllW hord _ _ _ hlaid hlay s₁.heap (fun _ _ e => e)
  have L : Laid r.records w s s₁ args vs as := ⟨⟨ord, hord, hlaid⟩, hrd, hin, hold, keeps, rest.1.trans hgens, rest.2.2.1⟩
  have G₁ := G.keeps hXk keeps
  obtain ⟨a, o, pm, cd, doc, dV, kV, h1, h2, h3, h4, h5⟩ := G₁.fn hdef
  have h := walk w s s₁ _ _ G₁ (hYk _ _ _ (hY w s y) keeps) a o pm cd doc dV kV h2 h3 h4 h5 (defOf_name hdef ▸ h1) L.gens args vs as hpre hlay L.reads L.well (L.low G.low)
  have hi := ident_freeW hu ha hap
  refine ⟨vs, s₁, hlaid, ?_⟩
  have fin : ∀ res s', GoodWG r.toRowW.claim (classAt s.heap) (ExcName.means s.heap) args s₁ res s' → _ := fun res s' g => g.laid (c := r.toRowW.claim) hsame hwi hi L
  show wpS _ _ (do match ← nsGet mainNs r.name with
      | some f => do ret (← PySem.call f vs)
      | none => unsupported "claim.caller:no-such-global") _ _ _
  refine wpS_then (wpAny_nsGet G₁.T.g (by
    rw [h1]
    refine wpS_bind (wpS_mono h (fun v s' g => wpS_pure ⟨_, rfl, ?_⟩) fun e s' g => ?_)
    · have z := fin _ _ g
      exact ⟨z.1, z.2.1, z.2.2, fun q => ⟨namesKept_of hT' hg _ keeps g.2.1.old, noTable hwr q⟩⟩
    · have z := fin _ _ g
      exact ⟨z.1, z.2.1, z.2.2, fun q => ⟨namesKept_of hT' hg _ keeps g.2.1.old, noTable hwr q⟩⟩))
end Mine
end TSHead
section TKDef
open PySem PySem.W PyProof.Rows
set_option Elab.async false
set_option maxRecDepth 100000
namespace Mine
noncomputable abbrev tS (x : String) (t : Nat) : Value := .str (Str.ofString x) t
noncomputable abbrev dE (P : Params) (x : String) (t : Nat) (v : Value) : DictEntry := ⟨PyData.keyHash P (Str.ofString x), .str (Str.ofString x) t, v⟩
noncomputable def nth : List Stmt → Nat → Stmt
  | s :: _, 0 => s
  | _ :: r, n + 1 => nth r n
  | [], _ => default
noncomputable def inCls : Stmt → List Stmt
  | .ClassDef _ _ _ b _ _ _ _ _ _ _ => b
  | _ => []
noncomputable def stm (i : Nat) : Stmt := nth PySem.Challenge.pw_xw0352_01.main.body i
noncomputable def mth (i j : Nat) : Stmt := nth (inCls (stm i)) j
noncomputable def fO (st : Stmt) (qual : String) (code md dV : Value) : Obj := match st with
  | .FunctionDef name params body _ _ _ scope _ _ _ => ⟨.type "function", none, .func (fnOf name (Str.ofString qual) params body scope dV .none .none md none code .none), [].toArray⟩
  | _ => default
noncomputable def K (P : Params) : Frag :=
  (nat_lit 2, ⟨.none, none, .dict [dE P "type.__subclasses__.Exception.0" 221 (.int 38 0), dE P "type.__subclasses__.Exception.n" 222 (.int 1 0)].toArray 2, [].toArray⟩) ::
  (nat_lit 3, ⟨.type "dict", none, .dict ((dE P "__name__" 165 (tS "law_xw0352_01" 1926)) :: (dE P "__doc__" 166 (.none)) :: (dE P "__package__" 167 (.none)) :: (dE P "__loader__" 168 (.builtin "__main__.__loader__#opaque")) :: (dE P "__spec__" 169 (.none)) :: (dE P "__annotations__" 170 (.ref 6)) :: (dE P "__builtins__" 171 (.ref 4)) :: (dE P "__file__" 173 (tS "/claim/cut.py" 172)) :: (dE P "__cached__" 174 (.none)) :: (dE P "_wall" 193 (.ref 21)) :: (dE P "StackError" 224 (.ref 38)) :: (dE P "SizeError" 240 (.ref 51)) :: (dE P "StateError" 256 (.ref 63)) :: (dE P "ResetError" 272 (.ref 75)) :: (dE P "TimedOutError" 288 (.ref 87)) :: (dE P "plus" 299 (.ref 96)) :: (dE P "distance" 308 (.ref 103)) :: (dE P "is_before" 318 (.ref 110)) :: (dE P "is_at_most" 327 (.ref 117)) :: (dE P "latest" 336 (.ref 124)) :: (dE P "AckPolicy" 409 (.ref 177)) :: (dE P "Congestion" 528 (.ref 268)) :: (dE P "MOST_SHIFT_retransmit" 532 (.int 7 531)) :: (dE P "RetransmitClock" 631 (.ref 345)) :: (dE P "RttEstimate" 707 (.ref 401)) :: (dE P "SendQueue" 779 (.ref 457)) :: (dE P "PeerWindow" 842 (.ref 499)) :: (dE P "Sender" 1080 (.ref 690)) :: (dE P "put16" 1089 (.ref 701)) :: (dE P "FIN" 1093 (.int 1 1092)) :: (dE P "SYN" 1095 (.int 2 1094)) :: (dE P "PSH" 1097 (.int 8 1096)) :: (dE P "ACK" 1099 (.int 16 1098)) :: (dE P "OPTION_MSS" 1101 (.int 2 1100)) :: (dE P "MSS_SIZE" 1103 (.int 4 1102)) :: (dE P "Segment" 1173 (.ref 740)) :: (dE P "check_number" 1181 (.ref 751)) :: (dE P "mss_option" 1188 (.ref 758)) :: (dE P "CLOSED" 1192 (tS "closed" 1191)) :: (dE P "LISTEN" 1194 (tS "listen" 1193)) :: (dE P "SYN_SENT" 1196 (tS "syn sent" 1195)) :: (dE P "SYN_RECEIVED" 1198 (tS "syn received" 1197)) :: (dE P "ESTABLISHED" 1200 (tS "established" 1199)) :: (dE P "FIN_WAIT_1" 1202 (tS "fin wait 1" 1201)) :: (dE P "FIN_WAIT_2" 1204 (tS "fin wait 2" 1203)) :: (dE P "CLOSE_WAIT" 1206 (tS "close wait" 1205)) :: (dE P "CLOSING" 1208 (tS "closing" 1207)) :: (dE P "LAST_ACK" 1210 (tS "last ack" 1209)) :: (dE P "TIME_WAIT" 1212 (tS "time wait" 1211)) :: (dE P "opening_steps" 1218 (.ref 765)) :: (dE P "closing_steps" 1224 (.ref 772)) :: (dE P "follow" 1233 (.ref 779)) :: (dE P "may_send" 1240 (.ref 786)) :: (dE P "may_receive" 1247 (.ref 793)) :: (dE P "is_sending" 1254 (.ref 800)) :: (dE P "Wheel" 1348 (.ref 863)) :: (dE P "RESEND" 1352 (.int 1 1351)) :: (dE P "PERSIST" 1354 (.int 2 1353)) :: (dE P "DELAYED" 1356 (.int 3 1355)) :: (dE P "WAIT" 1358 (.int 4 1357)) :: (dE P "MOST_WINDOW" 1360 (.int 65535 1359)) :: (dE P "Limits" 1407 (.ref 884)) :: (dE P "clock_of" 1415 (.ref 895)) :: (dE P "Tcb" 1481 (.ref 927)) :: (dE P "MOST_SHIFT_tcp_user" 1485 (.int 7 1484)) :: (dE P "closed" 1494 (.ref 938)) :: (dE P "check_error" 1501 (.ref 945)) :: (dE P "send" 1511 (.ref 952)) :: (dE P "receive" 1521 (.ref 959)) :: (dE P "ack_segment" 1528 (.ref 966)) :: (dE P "syn_segment" 1535 (.ref 973)) :: (dE P "flags_of" 1544 (.ref 980)) :: (dE P "take_asked_fin" 1552 (.ref 987)) :: (dE P "data_segments" 1568 (.ref 994)) :: (dE P "output" 1577 (.ref 1001)) :: (dE P "keep_timers" 1585 (.ref 1008)) :: (dE P "probe_wait" 1593 (.ref 1015)) :: (dE P "Assembly" 1751 (.ref 1107)) :: (dE P "Receiver" 1925 (.ref 1241)) :: (dE P "_law_pool" 1936 (.ref 1252)) :: (dE P "_law_take" 1945 (.ref 1259)) :: (dE P "_law_heard" 1953 (.ref 1266)) :: (dE P "_law_word" 1960 (.ref 1273)) :: (dE P "_law_states_right" 1971 (.ref 1280)) :: (dE P "_law_ends_right" 1984 (.ref 1287)) :: (dE P "law" 1990 (.ref 1292)) :: []).toArray 86, [].toArray⟩) ::
  (nat_lit 34, ⟨.type "code", none, .fields [tS "__init__" 208, tS "StackError.__init__" 209, tS "/claim/cut.py" 210, .int 7 0, .int 2 0, .int 0 0, .int 0 0, .int 3 0, .ref 29, .bool true, .int 181 0, .ref 30, .none, .ref 31, .ref 32, .ref 33, .int 213 0, .int 7 0, tS "/claim/cut.py" 214].toArray, [].toArray⟩) ::
  (nat_lit 35, fO (mth 2 0) "StackError.__init__" (.ref 34) (tS "thinstack.errors" 194) (.none)) ::
  (nat_lit 37, ⟨.type "dict", none, .dict [dE P "__module__" 203 (tS "thinstack.errors" 194), dE P "__firstlineno__" 207 (.int 5 206), dE P "__init__" 215 (.ref 35), dE P "__static_attributes__" 217 (.ref 36), dE P "__weakref__" 219 (.ref 39), dE P "__doc__" 220 (.none)].toArray 3, [].toArray⟩) ::
  (nat_lit 38, ⟨.type "type", none, .cls { name := "StackError", bases := [.type "Exception"], mro := [.ref 38, .type "Exception", .type "BaseException", .type "object"], ns := 37, qualname := "StackError", hasDict := true, slotNames := [], subclasses := [.ref 51, .ref 63, .ref 75, .ref 87], abstract := false, collection := none, hasDel := false }, [some (.ref 22), none, some (tS "StackError" 196), some (tS "StackError" 204), some (.builtin "Exception.__new__"), some (.bool true)].toArray⟩) ::
  (nat_lit 50, ⟨.type "dict", none, .dict [dE P "__module__" 232 (tS "thinstack.errors" 194), dE P "__firstlineno__" 236 (.int 9 235), dE P "__static_attributes__" 237 (.ref 49), dE P "__doc__" 238 (.none)].toArray 2, [].toArray⟩) ::
  (nat_lit 51, ⟨.type "type", none, .cls { name := "SizeError", bases := [.ref 38], mro := [.ref 51, .ref 38, .type "Exception", .type "BaseException", .type "object"], ns := 50, qualname := "SizeError", hasDict := true, slotNames := [], subclasses := [], abstract := false, collection := none, hasDel := false }, [some (.ref 42), none, some (tS "SizeError" 225), some (tS "SizeError" 233), some (.builtin "Exception.__new__"), some (.bool true)].toArray⟩) ::
  (nat_lit 62, ⟨.type "dict", none, .dict [dE P "__module__" 248 (tS "thinstack.errors" 194), dE P "__firstlineno__" 252 (.int 11 251), dE P "__static_attributes__" 253 (.ref 61), dE P "__doc__" 254 (.none)].toArray 2, [].toArray⟩) ::
  (nat_lit 63, ⟨.type "type", none, .cls { name := "StateError", bases := [.ref 38], mro := [.ref 63, .ref 38, .type "Exception", .type "BaseException", .type "object"], ns := 62, qualname := "StateError", hasDict := true, slotNames := [], subclasses := [], abstract := false, collection := none, hasDel := false }, [some (.ref 54), none, some (tS "StateError" 241), some (tS "StateError" 249), some (.builtin "Exception.__new__"), some (.bool true)].toArray⟩) ::
  (nat_lit 74, ⟨.type "dict", none, .dict [dE P "__module__" 264 (tS "thinstack.errors" 194), dE P "__firstlineno__" 268 (.int 13 267), dE P "__static_attributes__" 269 (.ref 73), dE P "__doc__" 270 (.none)].toArray 2, [].toArray⟩) ::
  (nat_lit 75, ⟨.type "type", none, .cls { name := "ResetError", bases := [.ref 38], mro := [.ref 75, .ref 38, .type "Exception", .type "BaseException", .type "object"], ns := 74, qualname := "ResetError", hasDict := true, slotNames := [], subclasses := [], abstract := false, collection := none, hasDel := false }, [some (.ref 66), none, some (tS "ResetError" 257), some (tS "ResetError" 265), some (.builtin "Exception.__new__"), some (.bool true)].toArray⟩) ::
  (nat_lit 86, ⟨.type "dict", none, .dict [dE P "__module__" 280 (tS "thinstack.errors" 194), dE P "__firstlineno__" 284 (.int 15 283), dE P "__static_attributes__" 285 (.ref 85), dE P "__doc__" 286 (.none)].toArray 2, [].toArray⟩) ::
  (nat_lit 87, ⟨.type "type", none, .cls { name := "TimedOutError", bases := [.ref 38], mro := [.ref 87, .ref 38, .type "Exception", .type "BaseException", .type "object"], ns := 86, qualname := "TimedOutError", hasDict := true, slotNames := [], subclasses := [], abstract := false, collection := none, hasDel := false }, [some (.ref 78), none, some (tS "TimedOutError" 273), some (tS "TimedOutError" 281), some (.builtin "Exception.__new__"), some (.bool true)].toArray⟩) ::
  (nat_lit 95, ⟨.type "code", none, .fields [tS "plus" 291, tS "plus" 292, tS "/claim/cut.py" 293, .int 18 0, .int 3 0, .int 0 0, .int 0 0, .int 3 0, .ref 90, .bool true, .int 181 0, .ref 91, .none, .ref 92, .ref 93, .ref 94, .int 297 0, .int 18 0, tS "/claim/cut.py" 298].toArray, [].toArray⟩) ::
  (nat_lit 96, fO (stm 8) "plus" (.ref 95) (tS "thinstack.sequence" 289) (.none)) ::
  (nat_lit 102, ⟨.type "code", none, .fields [tS "distance" 300, tS "distance" 301, tS "/claim/cut.py" 302, .int 20 0, .int 3 0, .int 0 0, .int 0 0, .int 3 0, .ref 97, .bool true, .int 181 0, .ref 98, .none, .ref 99, .ref 100, .ref 101, .int 306 0, .int 20 0, tS "/claim/cut.py" 307].toArray, [].toArray⟩) ::
  (nat_lit 103, fO (stm 9) "distance" (.ref 102) (tS "thinstack.sequence" 289) (.none)) ::
  (nat_lit 109, ⟨.type "code", none, .fields [tS "is_before" 309, tS "is_before" 310, tS "/claim/cut.py" 311, .int 22 0, .int 3 0, .int 0 0, .int 0 0, .int 3 0, .ref 104, .bool true, .int 181 0, .ref 105, .none, .ref 106, .ref 107, .ref 108, .int 316 0, .int 22 0, tS "/claim/cut.py" 317].toArray, [].toArray⟩) ::
  (nat_lit 110, fO (stm 10) "is_before" (.ref 109) (tS "thinstack.sequence" 289) (.none)) ::
  (nat_lit 116, ⟨.type "code", none, .fields [tS "is_at_most" 319, tS "is_at_most" 320, tS "/claim/cut.py" 321, .int 25 0, .int 3 0, .int 0 0, .int 0 0, .int 3 0, .ref 111, .bool true, .int 181 0, .ref 112, .none, .ref 113, .ref 114, .ref 115, .int 325 0, .int 25 0, tS "/claim/cut.py" 326].toArray, [].toArray⟩) ::
  (nat_lit 117, fO (stm 11) "is_at_most" (.ref 116) (tS "thinstack.sequence" 289) (.none)) ::
  (nat_lit 137, ⟨.type "code", none, .fields [tS "__init__" 351, tS "AckPolicy.__init__" 352, tS "/claim/cut.py" 353, .int 32 0, .int 2 0, .int 0 0, .int 0 0, .int 3 0, .ref 132, .bool true, .int 181 0, .ref 133, .none, .ref 134, .ref 135, .ref 136, .int 356 0, .int 32 0, tS "/claim/cut.py" 357].toArray, [].toArray⟩) ::
  (nat_lit 138, fO (mth 14 0) "AckPolicy.__init__" (.ref 137) (tS "thinstack.acks" 337) (.none)) ::
  (nat_lit 176, ⟨.type "dict", none, .dict [dE P "__module__" 346 (tS "thinstack.acks" 337), dE P "__firstlineno__" 350 (.int 30 349), dE P "__init__" 358 (.ref 138), dE P "on_octets" 368 (.ref 146), dE P "at_once" 375 (.ref 153), dE P "is_due" 383 (.ref 160), dE P "on_sent" 390 (.ref 167), dE P "due_time" 397 (.ref 174), dE P "__static_attributes__" 402 (.ref 175), dE P "__dict__" 404 (.ref 178), dE P "__weakref__" 406 (.ref 179), dE P "__doc__" 407 (.none)].toArray 4, [].toArray⟩) ::
  (nat_lit 177, ⟨.type "type", none, .cls { name := "AckPolicy", bases := [.type "object"], mro := [.ref 177, .type "object"], ns := 176, qualname := "AckPolicy", hasDict := true, slotNames := [], subclasses := [], abstract := false, collection := none, hasDel := false }, [none, none, some (tS "AckPolicy" 339), some (tS "AckPolicy" 347), some (.builtin "object.__new__"), some (.bool true)].toArray⟩) ::
  (nat_lit 194, ⟨.type "code", none, .fields [tS "__init__" 424, tS "Congestion.__init__" 425, tS "/claim/cut.py" 426, .int 56 0, .int 4 0, .int 0 0, .int 0 0, .int 3 0, .ref 189, .bool true, .int 181 0, .ref 190, .none, .ref 191, .ref 192, .ref 193, .int 431 0, .int 56 0, tS "/claim/cut.py" 432].toArray, [].toArray⟩) ::
  (nat_lit 195, fO (mth 16 0) "Congestion.__init__" (.ref 194) (tS "thinstack.congestion" 410) (.none)) ::
  (nat_lit 267, ⟨.type "dict", none, .dict [dE P "__module__" 419 (tS "thinstack.congestion" 410), dE P "__firstlineno__" 423 (.int 54 422), dE P "__init__" 433 (.ref 195), dE P "window" 440 (.ref 202), dE P "told_mss" 448 (.ref 209), dE P "grow" 456 (.ref 216), dE P "halved" 464 (.ref 223), dE P "acked" 472 (.ref 230), dE P "slow_start" 481 (.ref 237), dE P "avoid" 489 (.ref 244), dE P "duplicate" 497 (.ref 251), dE P "recovered" 504 (.ref 258), dE P "timed_out" 512 (.ref 265), dE P "__static_attributes__" 521 (.ref 266), dE P "__dict__" 523 (.ref 269), dE P "__weakref__" 525 (.ref 270), dE P "__doc__" 526 (.none)].toArray 4, [].toArray⟩) ::
  (nat_lit 268, ⟨.type "type", none, .cls { name := "Congestion", bases := [.type "object"], mro := [.ref 268, .type "object"], ns := 267, qualname := "Congestion", hasDict := true, slotNames := [], subclasses := [], abstract := false, collection := none, hasDel := false }, [none, none, some (tS "Congestion" 412), some (tS "Congestion" 420), some (.builtin "object.__new__"), some (.bool true)].toArray⟩) ::
  (nat_lit 285, ⟨.type "code", none, .fields [tS "__init__" 545, tS "RetransmitClock.__init__" 546, tS "/claim/cut.py" 547, .int 118 0, .int 3 0, .int 0 0, .int 0 0, .int 3 0, .ref 280, .bool true, .int 181 0, .ref 281, .none, .ref 282, .ref 283, .ref 284, .int 551 0, .int 118 0, tS "/claim/cut.py" 552].toArray, [].toArray⟩) ::
  (nat_lit 286, fO (mth 19 0) "RetransmitClock.__init__" (.ref 285) (tS "thinstack.retransmit" 529) (.none)) ::
  (nat_lit 344, ⟨.type "dict", none, .dict [dE P "__module__" 540 (tS "thinstack.retransmit" 529), dE P "__firstlineno__" 544 (.int 116 543), dE P "__init__" 553 (.ref 286), dE P "is_timing" 560 (.ref 293), dE P "sent" 569 (.ref 300), dE P "forget" 576 (.ref 307), dE P "acked" 587 (.ref 314), dE P "back_off" 594 (.ref 321), dE P "reset_tries" 601 (.ref 328), dE P "waited" 610 (.ref 335), dE P "deadline" 618 (.ref 342), dE P "__static_attributes__" 624 (.ref 343), dE P "__dict__" 626 (.ref 346), dE P "__weakref__" 628 (.ref 347), dE P "__doc__" 629 (.none)].toArray 4, [].toArray⟩) ::
  (nat_lit 345, ⟨.type "type", none, .cls { name := "RetransmitClock", bases := [.type "object"], mro := [.ref 345, .type "object"], ns := 344, qualname := "RetransmitClock", hasDict := true, slotNames := [], subclasses := [], abstract := false, collection := none, hasDel := false }, [none, none, some (tS "RetransmitClock" 533), some (tS "RetransmitClock" 541), some (.builtin "object.__new__"), some (.bool true)].toArray⟩) ::
  (nat_lit 362, ⟨.type "code", none, .fields [tS "__init__" 646, tS "RttEstimate.__init__" 647, tS "/claim/cut.py" 648, .int 162 0, .int 4 0, .int 0 0, .int 0 0, .int 3 0, .ref 357, .bool true, .int 181 0, .ref 358, .none, .ref 359, .ref 360, .ref 361, .int 653 0, .int 162 0, tS "/claim/cut.py" 654].toArray, [].toArray⟩) ::
  (nat_lit 363, fO (mth 21 0) "RttEstimate.__init__" (.ref 362) (tS "thinstack.rtt" 632) (.none)) ::
  (nat_lit 400, ⟨.type "dict", none, .dict [dE P "__module__" 641 (tS "thinstack.rtt" 632), dE P "__firstlineno__" 645 (.int 160 644), dE P "__init__" 655 (.ref 363), dE P "sample" 664 (.ref 370), dE P "mean" 671 (.ref 377), dE P "plain_timeout" 678 (.ref 384), dE P "timeout" 685 (.ref 391), dE P "bounded" 693 (.ref 398), dE P "__static_attributes__" 700 (.ref 399), dE P "__dict__" 702 (.ref 402), dE P "__weakref__" 704 (.ref 403), dE P "__doc__" 705 (.none)].toArray 4, [].toArray⟩) ::
  (nat_lit 401, ⟨.type "type", none, .cls { name := "RttEstimate", bases := [.type "object"], mro := [.ref 401, .type "object"], ns := 400, qualname := "RttEstimate", hasDict := true, slotNames := [], subclasses := [], abstract := false, collection := none, hasDel := false }, [none, none, some (tS "RttEstimate" 634), some (tS "RttEstimate" 642), some (.builtin "object.__new__"), some (.bool true)].toArray⟩) ::
  (nat_lit 418, ⟨.type "code", none, .fields [tS "__init__" 722, tS "SendQueue.__init__" 723, tS "/claim/cut.py" 724, .int 200 0, .int 2 0, .int 0 0, .int 0 0, .int 3 0, .ref 413, .bool true, .int 181 0, .ref 414, .none, .ref 415, .ref 416, .ref 417, .int 727 0, .int 200 0, tS "/claim/cut.py" 728].toArray, [].toArray⟩) ::
  (nat_lit 419, fO (mth 23 0) "SendQueue.__init__" (.ref 418) (tS "thinstack.send_queue" 708) (.none)) ::
  (nat_lit 425, ⟨.type "code", none, .fields [tS "size" 730, tS "SendQueue.size" 731, tS "/claim/cut.py" 732, .int 206 0, .int 1 0, .int 0 0, .int 0 0, .int 3 0, .ref 420, .bool true, .int 181 0, .ref 421, .none, .ref 422, .ref 423, .ref 424, .int 734 0, .int 206 0, tS "/claim/cut.py" 735].toArray, [].toArray⟩) ::
  (nat_lit 426, fO (mth 23 1) "SendQueue.size" (.ref 425) (tS "thinstack.send_queue" 708) (.none)) ::
  (nat_lit 456, ⟨.type "dict", none, .dict [dE P "__module__" 717 (tS "thinstack.send_queue" 708), dE P "__firstlineno__" 721 (.int 198 720), dE P "__init__" 729 (.ref 419), dE P "size" 736 (.ref 426), dE P "room_left" 743 (.ref 433), dE P "put" 752 (.ref 440), dE P "part" 761 (.ref 447), dE P "drop" 769 (.ref 454), dE P "__static_attributes__" 772 (.ref 455), dE P "__dict__" 774 (.ref 458), dE P "__weakref__" 776 (.ref 459), dE P "__doc__" 777 (.none)].toArray 4, [].toArray⟩) ::
  (nat_lit 457, ⟨.type "type", none, .cls { name := "SendQueue", bases := [.type "object"], mro := [.ref 457, .type "object"], ns := 456, qualname := "SendQueue", hasDict := true, slotNames := [], subclasses := [], abstract := false, collection := none, hasDel := false }, [none, none, some (tS "SendQueue" 710), some (tS "SendQueue" 718), some (.builtin "object.__new__"), some (.bool true)].toArray⟩) ::
  (nat_lit 474, ⟨.type "code", none, .fields [tS "__init__" 794, tS "PeerWindow.__init__" 795, tS "/claim/cut.py" 796, .int 229 0, .int 2 0, .int 0 0, .int 0 0, .int 3 0, .ref 469, .bool true, .int 181 0, .ref 470, .none, .ref 471, .ref 472, .ref 473, .int 799 0, .int 229 0, tS "/claim/cut.py" 800].toArray, [].toArray⟩) ::
  (nat_lit 475, fO (mth 25 0) "PeerWindow.__init__" (.ref 474) (tS "thinstack.sender" 780) (.none)) ::
  (nat_lit 498, ⟨.type "dict", none, .dict [dE P "__module__" 789 (tS "thinstack.sender" 780), dE P "__firstlineno__" 793 (.int 227 792), dE P "__init__" 801 (.ref 475), dE P "is_newer" 811 (.ref 482), dE P "take" 821 (.ref 489), dE P "keep_edge" 829 (.ref 496), dE P "__static_attributes__" 835 (.ref 497), dE P "__dict__" 837 (.ref 500), dE P "__weakref__" 839 (.ref 501), dE P "__doc__" 840 (.none)].toArray 4, [].toArray⟩) ::
  (nat_lit 499, ⟨.type "type", none, .cls { name := "PeerWindow", bases := [.type "object"], mro := [.ref 499, .type "object"], ns := 498, qualname := "PeerWindow", hasDict := true, slotNames := [], subclasses := [], abstract := false, collection := none, hasDel := false }, [none, none, some (tS "PeerWindow" 782), some (tS "PeerWindow" 790), some (.builtin "object.__new__"), some (.bool true)].toArray⟩) ::
  (nat_lit 516, ⟨.type "code", none, .fields [tS "__init__" 855, tS "Sender.__init__" 856, tS "/claim/cut.py" 857, .int 257 0, .int 5 0, .int 0 0, .int 0 0, .int 3 0, .ref 511, .bool true, .int 181 0, .ref 512, .none, .ref 513, .ref 514, .ref 515, .int 863 0, .int 257 0, tS "/claim/cut.py" 864].toArray, [].toArray⟩) ::
  (nat_lit 517, fO (mth 26 0) "Sender.__init__" (.ref 516) (tS "thinstack.sender" 780) (.none)) ::
  (nat_lit 689, ⟨.type "dict", none, .dict [dE P "__module__" 850 (tS "thinstack.sender" 780), dE P "__firstlineno__" 854 (.int 255 853), dE P "__init__" 865 (.ref 517), dE P "window" 873 (.ref 525), dE P "take_window" 883 (.ref 532), dE P "put" 891 (.ref 539), dE P "ask_fin" 898 (.ref 546), dE P "flight" 905 (.ref 553), dE P "usable" 913 (.ref 560), dE P "data_sent" 920 (.ref 567), dE P "unsent" 927 (.ref 574), dE P "is_fin_due" 935 (.ref 581), dE P "is_fin_acked" 942 (.ref 588), dE P "is_all_acked" 949 (.ref 595), dE P "go_on" 957 (.ref 602), dE P "start" 964 (.ref 609), dE P "may_go" 973 (.ref 616), dE P "pieces" 984 (.ref 624), dE P "piece_of" 997 (.ref 631), dE P "ever_sent" 1004 (.ref 638), dE P "first_piece" 1011 (.ref 645), dE P "reach" 1019 (.ref 652), dE P "back_to" 1027 (.ref 659), dE P "is_idle_with_more" 1034 (.ref 666), dE P "needs_probe" 1042 (.ref 673), dE P "probe" 1049 (.ref 680), dE P "acked" 1061 (.ref 687), dE P "__static_attributes__" 1073 (.ref 688), dE P "__dict__" 1075 (.ref 691), dE P "__weakref__" 1077 (.ref 692), dE P "__doc__" 1078 (.none)].toArray 4, [].toArray⟩) ::
  (nat_lit 690, ⟨.type "type", none, .cls { name := "Sender", bases := [.type "object"], mro := [.ref 690, .type "object"], ns := 689, qualname := "Sender", hasDict := true, slotNames := [], subclasses := [], abstract := false, collection := none, hasDel := false }, [none, none, some (tS "Sender" 843), some (tS "Sender" 851), some (.builtin "object.__new__"), some (.bool true)].toArray⟩) ::
  (nat_lit 785, ⟨.type "code", none, .fields [tS "may_send" 1234, tS "may_send" 1235, tS "/claim/cut.py" 1236, .int 460 0, .int 1 0, .int 0 0, .int 0 0, .int 3 0, .ref 780, .bool true, .int 181 0, .ref 781, .none, .ref 782, .ref 783, .ref 784, .int 1238 0, .int 460 0, tS "/claim/cut.py" 1239].toArray, [].toArray⟩) ::
  (nat_lit 786, fO (stm 54) "may_send" (.ref 785) (tS "thinstack.tcp_states" 1189) (.none)) ::
  (nat_lit 792, ⟨.type "code", none, .fields [tS "may_receive" 1241, tS "may_receive" 1242, tS "/claim/cut.py" 1243, .int 462 0, .int 1 0, .int 0 0, .int 0 0, .int 3 0, .ref 787, .bool true, .int 181 0, .ref 788, .none, .ref 789, .ref 790, .ref 791, .int 1245 0, .int 462 0, tS "/claim/cut.py" 1246].toArray, [].toArray⟩) ::
  (nat_lit 793, fO (stm 55) "may_receive" (.ref 792) (tS "thinstack.tcp_states" 1189) (.none)) ::
  (nat_lit 808, ⟨.type "tuple", none, .seq [.int 16 1269].toArray 0, [].toArray⟩) ::
  (nat_lit 812, ⟨.type "code", none, .fields [tS "__init__" 1270, tS "Wheel.__init__" 1271, tS "/claim/cut.py" 1272, .int 469 0, .int 2 0, .int 0 0, .int 0 0, .int 3 0, .ref 809, .bool true, .int 181 0, .ref 810, .none, .none, .none, .ref 811, .int 1273 0, .int 469 0, tS "/claim/cut.py" 1274].toArray, [].toArray⟩) ::
  (nat_lit 813, fO (mth 58 0) "Wheel.__init__" (.ref 812) (tS "thinstack.wheel" 1255) (.ref 808)) ::
  (nat_lit 833, ⟨.type "code", none, .fields [tS "cancel" 1293, tS "Wheel.cancel" 1294, tS "/claim/cut.py" 1295, .int 488 0, .int 2 0, .int 0 0, .int 0 0, .int 3 0, .ref 828, .bool true, .int 181 0, .ref 829, .none, .ref 830, .ref 831, .ref 832, .int 1301 0, .int 488 0, tS "/claim/cut.py" 1302].toArray, [].toArray⟩) ::
  (nat_lit 834, fO (mth 58 3) "Wheel.cancel" (.ref 833) (tS "thinstack.wheel" 1255) (.none)) ::
  (nat_lit 862, ⟨.type "dict", none, .dict [dE P "__module__" 1264 (tS "thinstack.wheel" 1255), dE P "__firstlineno__" 1268 (.int 467 1267), dE P "__init__" 1275 (.ref 813), dE P "put" 1284 (.ref 820), dE P "list_of" 1292 (.ref 827), dE P "cancel" 1303 (.ref 834), dE P "time_of" 1311 (.ref 841), dE P "next_time" 1318 (.ref 848), dE P "due" 1324 (.ref 853), dE P "keys_until" 1334 (.ref 860), dE P "__static_attributes__" 1341 (.ref 861), dE P "__dict__" 1343 (.ref 864), dE P "__weakref__" 1345 (.ref 865), dE P "__doc__" 1346 (.none)].toArray 4, [].toArray⟩) ::
  (nat_lit 863, ⟨.type "type", none, .cls { name := "Wheel", bases := [.type "object"], mro := [.ref 863, .type "object"], ns := 862, qualname := "Wheel", hasDict := true, slotNames := [], subclasses := [], abstract := false, collection := none, hasDel := false }, [none, none, some (tS "Wheel" 1257), some (tS "Wheel" 1265), some (.builtin "object.__new__"), some (.bool true)].toArray⟩) ::
  (nat_lit 880, ⟨.type "code", none, .fields [tS "__init__" 1373, tS "Limits.__init__" 1374, tS "/claim/cut.py" 1375, .int 528 0, .int 11 0, .int 0 0, .int 0 0, .int 3 0, .ref 875, .bool true, .int 181 0, .ref 876, .none, .ref 877, .ref 878, .ref 879, .int 1387 0, .int 528 0, tS "/claim/cut.py" 1388].toArray, [].toArray⟩) ::
  (nat_lit 881, fO (mth 65 0) "Limits.__init__" (.ref 880) (tS "thinstack.tcb" 1349) (.none)) ::
  (nat_lit 883, ⟨.type "dict", none, .dict [dE P "__module__" 1368 (tS "thinstack.tcb" 1349), dE P "__firstlineno__" 1372 (.int 526 1371), dE P "__init__" 1389 (.ref 881), dE P "__static_attributes__" 1400 (.ref 882), dE P "__dict__" 1402 (.ref 885), dE P "__weakref__" 1404 (.ref 886), dE P "__doc__" 1405 (.none)].toArray 4, [].toArray⟩) ::
  (nat_lit 884, ⟨.type "type", none, .cls { name := "Limits", bases := [.type "object"], mro := [.ref 884, .type "object"], ns := 883, qualname := "Limits", hasDict := true, slotNames := [], subclasses := [], abstract := false, collection := none, hasDel := false }, [none, none, some (tS "Limits" 1361), some (tS "Limits" 1369), some (.builtin "object.__new__"), some (.bool true)].toArray⟩) ::
  (nat_lit 894, ⟨.type "code", none, .fields [tS "clock_of" 1408, tS "clock_of" 1409, tS "/claim/cut.py" 1410, .int 539 0, .int 1 0, .int 0 0, .int 0 0, .int 3 0, .ref 889, .bool true, .int 181 0, .ref 890, .none, .ref 891, .ref 892, .ref 893, .int 1413 0, .int 539 0, tS "/claim/cut.py" 1414].toArray, [].toArray⟩) ::
  (nat_lit 895, fO (stm 66) "clock_of" (.ref 894) (tS "thinstack.tcb" 1349) (.none)) ::
  (nat_lit 908, ⟨.type "code", none, .fields [tS "__init__" 1428, tS "Tcb.__init__" 1429, tS "/claim/cut.py" 1430, .int 544 0, .int 5 0, .int 0 0, .int 0 0, .int 3 0, .ref 903, .bool true, .int 181 0, .ref 904, .none, .ref 905, .ref 906, .ref 907, .int 1436 0, .int 544 0, tS "/claim/cut.py" 1437].toArray, [].toArray⟩) ::
  (nat_lit 909, fO (mth 67 0) "Tcb.__init__" (.ref 908) (tS "thinstack.tcb" 1349) (.none)) ::
  (nat_lit 926, ⟨.type "dict", none, .dict [dE P "__module__" 1423 (tS "thinstack.tcb" 1349), dE P "__firstlineno__" 1427 (.int 542 1426), dE P "__init__" 1438 (.ref 909), dE P "window_now" 1445 (.ref 916), dE P "make" 1459 (.ref 924), dE P "__static_attributes__" 1474 (.ref 925), dE P "__dict__" 1476 (.ref 928), dE P "__weakref__" 1478 (.ref 929), dE P "__doc__" 1479 (.none)].toArray 4, [].toArray⟩) ::
  (nat_lit 927, ⟨.type "type", none, .cls { name := "Tcb", bases := [.type "object"], mro := [.ref 927, .type "object"], ns := 926, qualname := "Tcb", hasDict := true, slotNames := [], subclasses := [], abstract := false, collection := none, hasDel := false }, [none, none, some (tS "Tcb" 1416), some (tS "Tcb" 1424), some (.builtin "object.__new__"), some (.bool true)].toArray⟩) ::
  (nat_lit 937, ⟨.type "code", none, .fields [tS "closed" 1486, tS "closed" 1487, tS "/claim/cut.py" 1488, .int 577 0, .int 2 0, .int 0 0, .int 0 0, .int 3 0, .ref 932, .bool true, .int 181 0, .ref 933, .none, .ref 934, .ref 935, .ref 936, .int 1492 0, .int 577 0, tS "/claim/cut.py" 1493].toArray, [].toArray⟩) ::
  (nat_lit 938, fO (stm 70) "closed" (.ref 937) (tS "thinstack.tcp_user" 1482) (.none)) ::
  (nat_lit 944, ⟨.type "code", none, .fields [tS "check_error" 1495, tS "check_error" 1496, tS "/claim/cut.py" 1497, .int 583 0, .int 1 0, .int 0 0, .int 0 0, .int 3 0, .ref 939, .bool true, .int 181 0, .ref 940, .none, .ref 941, .ref 942, .ref 943, .int 1499 0, .int 583 0, tS "/claim/cut.py" 1500].toArray, [].toArray⟩) ::
  (nat_lit 945, fO (stm 71) "check_error" (.ref 944) (tS "thinstack.tcp_user" 1482) (.none)) ::
  (nat_lit 951, ⟨.type "code", none, .fields [tS "send" 1502, tS "send" 1503, tS "/claim/cut.py" 1504, .int 588 0, .int 3 0, .int 0 0, .int 0 0, .int 3 0, .ref 946, .bool true, .int 181 0, .ref 947, .none, .ref 948, .ref 949, .ref 950, .int 1509 0, .int 588 0, tS "/claim/cut.py" 1510].toArray, [].toArray⟩) ::
  (nat_lit 952, fO (stm 72) "send" (.ref 951) (tS "thinstack.tcp_user" 1482) (.none)) ::
  (nat_lit 958, ⟨.type "code", none, .fields [tS "receive" 1512, tS "receive" 1513, tS "/claim/cut.py" 1514, .int 594 0, .int 3 0, .int 0 0, .int 0 0, .int 3 0, .ref 953, .bool true, .int 181 0, .ref 954, .none, .ref 955, .ref 956, .ref 957, .int 1519 0, .int 594 0, tS "/claim/cut.py" 1520].toArray, [].toArray⟩) ::
  (nat_lit 959, fO (stm 73) "receive" (.ref 958) (tS "thinstack.tcp_user" 1482) (.none)) ::
  (nat_lit 1028, ⟨.type "code", none, .fields [tS "__init__" 1608, tS "Assembly.__init__" 1609, tS "/claim/cut.py" 1610, .int 659 0, .int 2 0, .int 0 0, .int 0 0, .int 3 0, .ref 1023, .bool true, .int 181 0, .ref 1024, .none, .ref 1025, .ref 1026, .ref 1027, .int 1613 0, .int 659 0, tS "/claim/cut.py" 1614].toArray, [].toArray⟩) ::
  (nat_lit 1029, fO (mth 83 0) "Assembly.__init__" (.ref 1028) (tS "thinstack.assembly" 1594) (.none)) ::
  (nat_lit 1047, ⟨.type "code", none, .fields [tS "offset" 1629, tS "Assembly.offset" 1630, tS "/claim/cut.py" 1631, .int 669 0, .int 3 0, .int 0 0, .int 0 0, .int 3 0, .ref 1042, .bool true, .int 181 0, .ref 1043, .none, .ref 1044, .ref 1045, .ref 1046, .int 1635 0, .int 669 0, tS "/claim/cut.py" 1636].toArray, [].toArray⟩) ::
  (nat_lit 1048, fO (mth 83 3) "Assembly.offset" (.ref 1047) (tS "thinstack.assembly" 1594) (.none)) ::
  (nat_lit 1054, ⟨.type "code", none, .fields [tS "put" 1638, tS "Assembly.put" 1639, tS "/claim/cut.py" 1640, .int 674 0, .int 4 0, .int 0 0, .int 0 0, .int 3 0, .ref 1049, .bool true, .int 181 0, .ref 1050, .none, .ref 1051, .ref 1052, .ref 1053, .int 1647 0, .int 674 0, tS "/claim/cut.py" 1648].toArray, [].toArray⟩) ::
  (nat_lit 1055, fO (mth 83 4) "Assembly.put" (.ref 1054) (tS "thinstack.assembly" 1594) (.none)) ::
  (nat_lit 1061, ⟨.type "code", none, .fields [tS "missing" 1650, tS "Assembly.missing" 1651, tS "/claim/cut.py" 1652, .int 684 0, .int 4 0, .int 0 0, .int 0 0, .int 3 0, .ref 1056, .bool true, .int 181 0, .ref 1057, .none, .ref 1058, .ref 1059, .ref 1060, .int 1664 0, .int 684 0, tS "/claim/cut.py" 1665].toArray, [].toArray⟩) ::
  (nat_lit 1062, fO (mth 83 5) "Assembly.missing" (.ref 1061) (tS "thinstack.assembly" 1594) (.none)) ::
  (nat_lit 1068, ⟨.type "code", none, .fields [tS "merged" 1667, tS "Assembly.merged" 1668, tS "/claim/cut.py" 1669, .int 701 0, .int 3 0, .int 0 0, .int 0 0, .int 3 0, .ref 1063, .bool true, .int 181 0, .ref 1064, .none, .ref 1065, .ref 1066, .ref 1067, .int 1678 0, .int 701 0, tS "/claim/cut.py" 1679].toArray, [].toArray⟩) ::
  (nat_lit 1069, fO (mth 83 6) "Assembly.merged" (.ref 1068) (tS "thinstack.assembly" 1594) (.none)) ::
  (nat_lit 1075, ⟨.type "code", none, .fields [tS "joined" 1681, tS "Assembly.joined" 1682, tS "/claim/cut.py" 1683, .int 710 0, .int 3 0, .int 0 0, .int 0 0, .int 3 0, .ref 1070, .bool true, .int 181 0, .ref 1071, .none, .ref 1072, .ref 1073, .ref 1074, .int 1693 0, .int 710 0, tS "/claim/cut.py" 1694].toArray, [].toArray⟩) ::
  (nat_lit 1076, fO (mth 83 7) "Assembly.joined" (.ref 1075) (tS "thinstack.assembly" 1594) (.none)) ::
  (nat_lit 1082, ⟨.type "code", none, .fields [tS "forget" 1696, tS "Assembly.forget" 1697, tS "/claim/cut.py" 1698, .int 721 0, .int 2 0, .int 0 0, .int 0 0, .int 3 0, .ref 1077, .bool true, .int 181 0, .ref 1078, .none, .ref 1079, .ref 1080, .ref 1081, .int 1704 0, .int 721 0, tS "/claim/cut.py" 1705].toArray, [].toArray⟩) ::
  (nat_lit 1083, fO (mth 83 8) "Assembly.forget" (.ref 1082) (tS "thinstack.assembly" 1594) (.none)) ::
  (nat_lit 1089, ⟨.type "code", none, .fields [tS "take" 1707, tS "Assembly.take" 1708, tS "/claim/cut.py" 1709, .int 732 0, .int 2 0, .int 0 0, .int 0 0, .int 3 0, .ref 1084, .bool true, .int 181 0, .ref 1085, .none, .ref 1086, .ref 1087, .ref 1088, .int 1712 0, .int 732 0, tS "/claim/cut.py" 1713].toArray, [].toArray⟩) ::
  (nat_lit 1090, fO (mth 83 9) "Assembly.take" (.ref 1089) (tS "thinstack.assembly" 1594) (.none)) ::
  (nat_lit 1106, ⟨.type "dict", none, .dict [dE P "__module__" 1603 (tS "thinstack.assembly" 1594), dE P "__firstlineno__" 1607 (.int 657 1606), dE P "__init__" 1615 (.ref 1029), dE P "size" 1621 (.ref 1034), dE P "is_empty" 1628 (.ref 1041), dE P "offset" 1637 (.ref 1048), dE P "put" 1649 (.ref 1055), dE P "missing" 1666 (.ref 1062), dE P "merged" 1680 (.ref 1069), dE P "joined" 1695 (.ref 1076), dE P "forget" 1706 (.ref 1083), dE P "take" 1714 (.ref 1090), dE P "holes" 1727 (.ref 1097), dE P "cut_behind" 1741 (.ref 1104), dE P "__static_attributes__" 1744 (.ref 1105), dE P "__dict__" 1746 (.ref 1108), dE P "__weakref__" 1748 (.ref 1109), dE P "__doc__" 1749 (.none)].toArray 4, [].toArray⟩) ::
  (nat_lit 1107, ⟨.type "type", none, .cls { name := "Assembly", bases := [.type "object"], mro := [.ref 1107, .type "object"], ns := 1106, qualname := "Assembly", hasDict := true, slotNames := [], subclasses := [], abstract := false, collection := none, hasDel := false }, [none, none, some (tS "Assembly" 1596), some (tS "Assembly" 1604), some (.builtin "object.__new__"), some (.bool true)].toArray⟩) ::
  (nat_lit 1119, ⟨.type "tuple", none, .seq [.int 1 1766].toArray 0, [].toArray⟩) ::
  (nat_lit 1125, ⟨.type "code", none, .fields [tS "__init__" 1767, tS "Receiver.__init__" 1768, tS "/claim/cut.py" 1769, .int 758 0, .int 5 0, .int 0 0, .int 0 0, .int 3 0, .ref 1120, .bool true, .int 181 0, .ref 1121, .none, .ref 1122, .ref 1123, .ref 1124, .int 1775 0, .int 758 0, tS "/claim/cut.py" 1776].toArray, [].toArray⟩) ::
  (nat_lit 1126, fO (mth 85 0) "Receiver.__init__" (.ref 1125) (tS "thinstack.receiver" 1752) (.ref 1119)) ::
  (nat_lit 1160, ⟨.type "code", none, .fields [tS "arrive" 1807, tS "Receiver.arrive" 1808, tS "/claim/cut.py" 1809, .int 788 0, .int 4 0, .int 0 0, .int 0 0, .int 3 0, .ref 1155, .bool true, .int 181 0, .ref 1156, .none, .ref 1157, .ref 1158, .ref 1159, .int 1817 0, .int 788 0, tS "/claim/cut.py" 1818].toArray, [].toArray⟩) ::
  (nat_lit 1161, fO (mth 85 5) "Receiver.arrive" (.ref 1160) (tS "thinstack.receiver" 1752) (.none)) ::
  (nat_lit 1167, ⟨.type "code", none, .fields [tS "let_in" 1820, tS "Receiver.let_in" 1821, tS "/claim/cut.py" 1822, .int 800 0, .int 3 0, .int 0 0, .int 0 0, .int 3 0, .ref 1162, .bool true, .int 181 0, .ref 1163, .none, .ref 1164, .ref 1165, .ref 1166, .int 1827 0, .int 800 0, tS "/claim/cut.py" 1828].toArray, [].toArray⟩) ::
  (nat_lit 1168, fO (mth 85 6) "Receiver.let_in" (.ref 1167) (tS "thinstack.receiver" 1752) (.none)) ::
  (nat_lit 1188, ⟨.type "code", none, .fields [tS "gather" 1847, tS "Receiver.gather" 1848, tS "/claim/cut.py" 1849, .int 816 0, .int 1 0, .int 0 0, .int 0 0, .int 3 0, .ref 1183, .bool true, .int 181 0, .ref 1184, .none, .ref 1185, .ref 1186, .ref 1187, .int 1852 0, .int 816 0, tS "/claim/cut.py" 1853].toArray, [].toArray⟩) ::
  (nat_lit 1189, fO (mth 85 9) "Receiver.gather" (.ref 1188) (tS "thinstack.receiver" 1752) (.none)) ::
  (nat_lit 1202, ⟨.type "code", none, .fields [tS "available" 1862, tS "Receiver.available" 1863, tS "/claim/cut.py" 1864, .int 830 0, .int 1 0, .int 0 0, .int 0 0, .int 3 0, .ref 1197, .bool true, .int 181 0, .ref 1198, .none, .ref 1199, .ref 1200, .ref 1201, .int 1866 0, .int 830 0, tS "/claim/cut.py" 1867].toArray, [].toArray⟩) ::
  (nat_lit 1203, fO (mth 85 11) "Receiver.available" (.ref 1202) (tS "thinstack.receiver" 1752) (.none)) ::
  (nat_lit 1209, ⟨.type "code", none, .fields [tS "read" 1869, tS "Receiver.read" 1870, tS "/claim/cut.py" 1871, .int 833 0, .int 2 0, .int 0 0, .int 0 0, .int 3 0, .ref 1204, .bool true, .int 181 0, .ref 1205, .none, .ref 1206, .ref 1207, .ref 1208, .int 1875 0, .int 833 0, tS "/claim/cut.py" 1876].toArray, [].toArray⟩) ::
  (nat_lit 1210, fO (mth 85 12) "Receiver.read" (.ref 1209) (tS "thinstack.receiver" 1752) (.none)) ::
  (nat_lit 1240, ⟨.type "dict", none, .dict [dE P "__module__" 1761 (tS "thinstack.receiver" 1752), dE P "__firstlineno__" 1765 (.int 756 1764), dE P "__init__" 1777 (.ref 1126), dE P "free_edge" 1784 (.ref 1133), dE P "should_tell" 1792 (.ref 1140), dE P "told_window" 1799 (.ref 1147), dE P "window" 1806 (.ref 1154), dE P "arrive" 1819 (.ref 1161), dE P "let_in" 1829 (.ref 1168), dE P "note_fin" 1837 (.ref 1175), dE P "ahead_of_fin" 1846 (.ref 1182), dE P "gather" 1854 (.ref 1189), dE P "has_holes" 1861 (.ref 1196), dE P "available" 1868 (.ref 1203), dE P "read" 1877 (.ref 1210), dE P "is_over" 1884 (.ref 1217), dE P "read_place" 1892 (.ref 1224), dE P "urgent" 1900 (.ref 1231), dE P "urgent_left" 1907 (.ref 1238), dE P "__static_attributes__" 1918 (.ref 1239), dE P "__dict__" 1920 (.ref 1242), dE P "__weakref__" 1922 (.ref 1243), dE P "__doc__" 1923 (.none)].toArray 4, [].toArray⟩) ::
  (nat_lit 1241, ⟨.type "type", none, .cls { name := "Receiver", bases := [.type "object"], mro := [.ref 1241, .type "object"], ns := 1240, qualname := "Receiver", hasDict := true, slotNames := [], subclasses := [], abstract := false, collection := none, hasDel := false }, [none, none, some (tS "Receiver" 1754), some (tS "Receiver" 1762), some (.builtin "object.__new__"), some (.bool true)].toArray⟩) ::
  (nat_lit 1251, ⟨.type "code", none, .fields [tS "_law_pool" 1928, tS "_law_pool" 1929, tS "/claim/cut.py" 1930, .int 853 0, .int 1 0, .int 0 0, .int 0 0, .int 3 0, .ref 1246, .bool true, .int 181 0, .ref 1247, .none, .ref 1248, .ref 1249, .ref 1250, .int 1934 0, .int 853 0, tS "/claim/cut.py" 1935].toArray, [].toArray⟩) ::
  (nat_lit 1252, fO (stm 87) "_law_pool" (.ref 1251) (tS "law_xw0352_01" 1926) (.none)) ::
  (nat_lit 1258, ⟨.type "code", none, .fields [tS "_law_take" 1937, tS "_law_take" 1938, tS "/claim/cut.py" 1939, .int 857 0, .int 2 0, .int 0 0, .int 0 0, .int 3 0, .ref 1253, .bool true, .int 181 0, .ref 1254, .none, .ref 1255, .ref 1256, .ref 1257, .int 1943 0, .int 857 0, tS "/claim/cut.py" 1944].toArray, [].toArray⟩) ::
  (nat_lit 1259, fO (stm 88) "_law_take" (.ref 1258) (tS "law_xw0352_01" 1926) (.none)) ::
  (nat_lit 1265, ⟨.type "code", none, .fields [tS "_law_heard" 1946, tS "_law_heard" 1947, tS "/claim/cut.py" 1948, .int 864 0, .int 1 0, .int 0 0, .int 0 0, .int 3 0, .ref 1260, .bool true, .int 181 0, .ref 1261, .none, .ref 1262, .ref 1263, .ref 1264, .int 1951 0, .int 864 0, tS "/claim/cut.py" 1952].toArray, [].toArray⟩) ::
  (nat_lit 1266, fO (stm 89) "_law_heard" (.ref 1265) (tS "law_xw0352_01" 1926) (.none)) ::
  (nat_lit 1272, ⟨.type "code", none, .fields [tS "_law_word" 1954, tS "_law_word" 1955, tS "/claim/cut.py" 1956, .int 874 0, .int 1 0, .int 0 0, .int 0 0, .int 3 0, .ref 1267, .bool true, .int 181 0, .ref 1268, .none, .ref 1269, .ref 1270, .ref 1271, .int 1958 0, .int 874 0, tS "/claim/cut.py" 1959].toArray, [].toArray⟩) ::
  (nat_lit 1273, fO (stm 90) "_law_word" (.ref 1272) (tS "law_xw0352_01" 1926) (.none)) ::
  (nat_lit 1279, ⟨.type "code", none, .fields [tS "_law_states_right" 1961, tS "_law_states_right" 1962, tS "/claim/cut.py" 1963, .int 878 0, .int 2 0, .int 0 0, .int 0 0, .int 3 0, .ref 1274, .bool true, .int 181 0, .ref 1275, .none, .ref 1276, .ref 1277, .ref 1278, .int 1969 0, .int 878 0, tS "/claim/cut.py" 1970].toArray, [].toArray⟩) ::
  (nat_lit 1280, fO (stm 91) "_law_states_right" (.ref 1279) (tS "law_xw0352_01" 1926) (.none)) ::
  (nat_lit 1286, ⟨.type "code", none, .fields [tS "_law_ends_right" 1972, tS "_law_ends_right" 1973, tS "/claim/cut.py" 1974, .int 885 0, .int 3 0, .int 0 0, .int 0 0, .int 3 0, .ref 1281, .bool true, .int 181 0, .ref 1282, .none, .ref 1283, .ref 1284, .ref 1285, .int 1982 0, .int 885 0, tS "/claim/cut.py" 1983].toArray, [].toArray⟩) ::
  (nat_lit 1287, fO (stm 92) "_law_ends_right" (.ref 1286) (tS "law_xw0352_01" 1926) (.none)) ::
  (nat_lit 1291, ⟨.type "code", none, .fields [tS "law" 1985, tS "law" 1986, tS "/claim/cut.py" 1987, .int 904 0, .int 1 0, .int 0 0, .int 0 0, .int 3 0, .ref 1288, .bool true, .int 181 0, .ref 1289, .none, .none, .none, .ref 1290, .int 1988 0, .int 904 0, tS "/claim/cut.py" 1989].toArray, [].toArray⟩) ::
  (nat_lit 1292, fO (stm 93) "law" (.ref 1291) (tS "law_xw0352_01" 1926) (.none)) :: []
noncomputable def Ka : List Addr := [2, 3, 34, 35, 37, 38, 50, 51, 62, 63, 74, 75, 86, 87, 95, 96, 102, 103, 109, 110, 116, 117, 137, 138, 176, 177, 194, 195, 267, 268, 285, 286, 344, 345, 362, 363, 400, 401, 418, 419, 425, 426, 456, 457, 474, 475, 498, 499, 516, 517, 689, 690, 785, 786, 792, 793, 808, 812, 813, 833, 834, 862, 863, 880, 881, 883, 884, 894, 895, 908, 909, 926, 927, 937, 938, 944, 945, 951, 952, 958, 959, 1028, 1029, 1047, 1048, 1054, 1055, 1061, 1062, 1068, 1069, 1075, 1076, 1082, 1083, 1089, 1090, 1106, 1107, 1119, 1125, 1126, 1160, 1161, 1167, 1168, 1188, 1189, 1202, 1203, 1209, 1210, 1240, 1241, 1251, 1252, 1258, 1259, 1265, 1266, 1272, 1273, 1279, 1280, 1286, 1287, 1291, 1292]
/-- the tables of nested codes that the law's defs grow -/
noncomputable def KT (_ : Params) : Frag := [(nat_lit 1275, ⟨.none, none, .fields #[], #[]⟩), (nat_lit 1282, ⟨.none, none, .fields #[], #[]⟩)]
noncomputable def K2 (P : Params) : Frag := KT P ++ K P
noncomputable def K2a : List Addr := 1275 :: 1282 :: Ka
theorem K2a_eq (P : Params) : K2a = (K2 P).map (·.1) := by kernel_rfl
theorem K_of_K2 {P : Params} {h : Heap} (X : (K2 P).In h) : (K P).In h := fun a o e => by
  refine X a o ?_
  have n1 : (a == 1275) = false := by
    cases q : a == 1275 with
    | false => rfl
    | true => rw [eq_of_beq q] at e; exact absurd e (by rw [show (K P).lookup 1275 = none from rfl]; exact fun z => nomatch z)
  have n2 : (a == 1282) = false := by
    cases q : a == 1282 with
    | false => rfl
    | true => rw [eq_of_beq q] at e; exact absurd e (by rw [show (K P).lookup 1282 = none from rfl]; exact fun z => nomatch z)
  show List.lookup a ((1275, _) :: (1282, _) :: K P) = some o
  rw [List.lookup_cons, n1]
  show List.lookup a ((1282, _) :: K P) = some o
  rw [List.lookup_cons, n2]
  exact e
noncomputable def tcbO (P : Params) (u0 u1 u2 u3 u4 u5 u6 u7 u8 u9 u10 u11 u12 u13 : Tok) (x0 x1 x2 x3 x4 x5 x6 x7 x8 x9 x10 x11 x12 x13 : Value) : Obj := dictOf [dE P "limits" u0 x0, dE P "local" u1 x1, dE P "remote" u2 x2, dE P "state" u3 x3, dE P "sender" u4 x4, dE P "receiver" u5 x5, dE P "clock" u6 x6, dE P "congestion" u7 x7, dE P "acks" u8 x8, dE P "wheel" u9 x9, dE P "error" u10 x10, dE P "probes" u11 x11, dE P "unanswered" u12 x12, dE P "is_nagle" u13 x13] 14
noncomputable def recO (P : Params) (u0 u1 u2 u3 u4 u5 u6 u7 u8 u9 : Tok) (x0 x1 x2 x3 x4 x5 x6 x7 x8 x9 : Value) : Obj := dictOf [dE P "ring" u0 x0, dE P "room" u1 x1, dE P "mss" u2 x2, dE P "next" u3 x3, dE P "ready" u4 x4, dE P "assembly" u5 x5, dE P "told_edge" u6 x6, dE P "fin_at" u7 x7, dE P "has_fin" u8 x8, dE P "urgent_at" u9 x9] 10
noncomputable def whlO (P : Params) (u0 u1 u2 u3 u4 u5 : Tok) (x0 x1 x2 x3 x4 x5 : Value) : Obj := dictOf [dE P "size" u0 x0, dE P "slots" u1 x1, dE P "late" u2 x2, dE P "entries" u3 x3, dE P "reached" u4 x4, dE P "given" u5 x5] 6
noncomputable def sndO (P : Params) (u0 u1 u2 u3 u4 u5 u6 u7 u8 u9 u10 : Tok) (x0 x1 x2 x3 x4 x5 x6 x7 x8 x9 x10 : Value) : Obj := dictOf [dE P "iss" u0 x0, dE P "ring" u1 x1, dE P "mss" u2 x2, dE P "una" u3 x3, dE P "next" u4 x4, dE P "greatest" u5 x5, dE P "peer" u6 x6, dE P "queue" u7 x7, dE P "syn_pending" u8 x8, dE P "fin_asked" u9 x9, dE P "fin_sent" u10 x10] 11
noncomputable def limO (P : Params) (u0 u1 u2 u3 u4 u5 u6 u7 u8 u9 : Tok) (x0 x1 x2 x3 x4 x5 x6 x7 x8 x9 : Value) : Obj := dictOf [dE P "ring" u0 x0, dE P "mss" u1 x1, dE P "send_room" u2 x2, dE P "receive_room" u3 x3, dE P "first_timeout" u4 x4, dE P "least_timeout" u5 x5, dE P "most_timeout" u6 x6, dE P "most_tries" u7 x7, dE P "ack_delay" u8 x8, dE P "time_wait" u9 x9] 10
noncomputable def asmO (P : Params) (u0 u1 : Tok) (x0 x1 : Value) : Obj := dictOf [dE P "ring" u0 x0, dE P "parts" u1 x1] 2
end Mine
end TKDef
section TSLog3
open PySem PySem.W PySem.Calls PyProof.Rows Builtin Builtin.ObjectAttr Builtin.Getset_descriptor
set_option Elab.async false
set_option maxRecDepth 100000
set_option maxHeartbeats 4000000
namespace Mine
section
variable {prog : Program} {w : World} {A : Around} {E : Value → Shared → Prop} {R : Result → Shared → Prop} {s : Shared}
theorem codeS_call_builtin_at {id : String} {args : Args} {b : Builtin} (hcl : cln (.builtin id args) = true) (hq : (Code.builtin id args).quiet = true) (hb : entryFor table id = some b)
    (h : wpAny (model prog w) A.in1 (checkBuiltinCall id args) (fun _ s₁ => wpS (model prog w) (A.under (.builtin id args)) (b args)
      (fun fin s' => match fin with | .done f => R (.ok f) s' | .again c' => c'.quiet = true ∧ codeS (model prog w) A c' R s') (fun e s' => R (.error e) s') s₁)
      (fun e s' => R (.error e) s') s) : codeS (model prog w) A (.call (.builtin id) args) R s := by
  refine codeS_of_tree rfl ?_
  show wpS _ A.in1 (do checkBuiltinCall id args; again (.builtin id args)) _ _ s
  refine wpS_then (wpAny_mono h (fun _ s₁ h₁ => wpS_pure (And.intro hq (codeS_of_tree hcl ?_))) fun _ _ h' => h')
  show wpS _ _ (match entryFor table id with | some b => b args | none => unsupported ((withoutEnding? id "#data").getD id)) _ _ s₁
  rw [hb]; exact h₁
end
section
variable {prog : Program} {w : World} {A : Around} {K : Frag} {C : Addr} {R : Result → Shared → Prop} {h : Heap} {g : Array GenState} {d : Drawn} {t : Nat} {os : OsState}
theorem makeS_core {rest : List Value} {kw : List (Str × Value)} {init : Value} (Y : Makes (model prog w) h C) (hi : Looks (model prog w) h (typeLookup (.ref C) "__init__") (some init))
    (hb : ∀ self, Looks (model prog w) h (bindSpecial init self) (init, [self])) (hne : (some init != some (Value.builtin "object.__init__")) = true ∨ (rest = [] ∧ kw = []))
    (hq : codeS (model prog w) (A.under (.builtin "type.__call__" ⟨.ref C :: rest, kw⟩)) (.call init ⟨.ref (h.objs.size + 1) :: rest, kw⟩) (InitBack (h.objs.size + 1) R) ⟨(h.push emptyDict).push (instObj C h.objs.size), g, d, t, os⟩) :
    codeS (model prog w) A (.call (.ref C) ⟨rest, kw⟩) R ⟨h, g, d, t, os⟩ := by
  have Y' := Y
  obtain ⟨⟨oc, od, cd, sl, hC, e1, e2, e4⟩, made, base, self, top, call, typ⟩ := Y
  refine codeS_of_tree rfl (wpS_any ?_)
  show wpAny _ _ (callAny (.ref C) _) _ _ _
  refine nd_load hC ?_
  show wpAny _ _ (callAny.viaDunder (.ref C) _) _ _ _
  unfold callAny.viaDunder
  refine wpAny_bind (call.at ?_)
  dsimp only
  rw [tc_bind]
  refine wpAny_bind (wpAny_pure (wpAny_bind (wpAny_pure ?_)))
  refine wpAny_pure (a := Fin.again (.call (.builtin "type.__call__") ⟨.ref C :: rest, kw⟩)) (And.intro rfl ?_)
  refine codeS_call_builtin_at (by rfl) (Code.quiet_builtin _ (by decide +kernel)) entry_typeCall (check_slot tc_kind tc_split typ (tc_args _ _ _) ?_)
  unfold Builtin.«type.__call__»
  have hm : Looks (model prog w) h (mroOf (.ref C)) cd.mro := ((Looks.ld (part := none) hC).andThen .now).andThen .now
  dsimp only
  have k : ∀ b o, h.get? b = some o → ((h.push emptyDict).push (instObj C h.objs.size)).get? b = some o := fun b o e => Heap.get?_push_of_some _ (Heap.get?_push_of_some _ e)
  have hx : ((h.push emptyDict).push (instObj C h.objs.size)).get? (h.objs.size + 1) = some (instObj C h.objs.size) := by heap_get
  have t1 : Looks (model prog w) ((h.push emptyDict).push (instObj C h.objs.size)) (typeOf (.ref (h.objs.size + 1))) (.ref C) := (Looks.ld hx).andThen .now
  have s1 := self.keeps k
  have i1 := hi.keeps k
  have b1 := (hb (.ref (h.objs.size + 1))).keeps k
  rw [if_neg (by rw [show (Value.ref C == Value.type "type") = false from rfl]; exact Bool.false_ne_true)]
  refine wpS_then (hm.at ?_)
  rw [if_neg (by rw [e4]; exact Bool.false_ne_true)]
  refine wpS_then (made.at ?_)
  dsimp only
  refine wpS_then (wpAny_pure ?_)
  refine wpS_then (wpAny_holding (wpAny_call (new_K Y' hi hne ?_)))
  dsimp only
  refine wpS_then ?_
  unfold isInstance
  refine wpAny_bind (t1.at (s1.at ?_))
  rw [if_neg (by rw [Bool.not_true]; exact Bool.false_ne_true)]
  unfold callSpecial? specialOf
  refine wpS_bind (wpS_holding ?_)
  refine wpS_then (wpAny_bind (t1.at (i1.at ?_)))
  dsimp only
  refine wpS_holding ?_
  refine wpS_then (b1.at ?_)
  refine wpS_bind (wpS_call (codeS_mono hq fun r s' z => ?_))
  rcases r with e | (v | _ | _ | _) <;> first | exact z | exact z.elim | skip
  obtain ⟨rfl, z⟩ := z
  exact wpS_pure (wpS_pure z)
end

section
variable {prog : Program} {w : World} {A : Around} {K : Frag} {C x : Addr} {s : Shared} {h₀ : Heap} {L : Addr} {m : Str → Option Value} {news : List (Addr × Obj)} {R : Result → Shared → Prop} {E : Value → Shared → Prop}
theorem makeS_K {rest : List Value} {kw : List (Str × Value)} {fI : Addr} (F : Fr h₀ L s.heap m) (N : News h₀ L s.heap news) (X : K.In s.heap) (hm : makesIn K C = true)
    (hi : findIn K (.ref C) "__init__" = some (some (.ref fI))) (hf : typeIn K (.ref fI) = some (.type "function"))
    (h : ∀ x dx h', Fr h₀ L h' m → News h₀ L h' ((x, instObj C dx) :: (dx, dictOf [] 0) :: news) → (∀ p ∈ news, p.1 < dx) → dx < x →
      codeS (model prog w) (A.under (.builtin "type.__call__" ⟨.ref C :: rest, kw⟩)) (.call (.ref fI) ⟨.ref x :: rest, kw⟩) (InitBack x R) { s with heap := h' }) :
    codeS (model prog w) A (.call (.ref C) ⟨rest, kw⟩) R s := by
  obtain ⟨hh, g, d, t, os⟩ := s
  refine makeS_core (makes_of X hm) (looks_findIn X hi) (fun self => bind_fn X self hf) (.inl rfl) (h _ hh.objs.size _ ((F.push _).push _) ?_ (fun p hp => Heap.lt_size (N p hp).1) (Nat.lt_succ_self _))
  have := (N.push F emptyDict).push (F.push _) (instObj C hh.objs.size)
  rwa [Heap.size_push] at this
theorem callS_cls {pos : List Value} {kw : List (Str × Value)} {fI : Addr} {Q : Value → Shared → Prop} (F : Fr h₀ L s.heap m) (X₀ : K.In h₀) (N : News h₀ L s.heap news) (hm : makesIn K C = true) (hi : findIn K (.ref C) "__init__" = some (some (.ref fI))) (hf : isFn K (.ref fI) = true)
    (h : ∀ x dx h', Fr h₀ L h' m → News h₀ L h' ((x, instObj C dx) :: (dx, dictOf [] 0) :: news) → (∀ p ∈ news, p.1 < dx) → dx < x →
      codeS (model prog w) (A.under (.builtin "type.__call__" ⟨.ref C :: pos, kw⟩)) (.call (.ref fI) ⟨.ref x :: pos, kw⟩) (InitBack x fun r s' => match r with | .ok (.ret v) => Q v s' | .ok _ => False | .error e => E e s') { s with heap := h' }) :
    wpS (model prog w) A (call (.ref C) pos kw) Q E s := wpS_call (makeS_K F N (X₀.keeps F.keep) hm hi (beq_iff_eq.mp hf) h)
end
end Mine
end TSLog3
section TSLog4
open PySem PySem.W PySem.Calls PyProof.Rows
set_option Elab.async false
set_option maxRecDepth 100000
set_option maxHeartbeats 4000000
namespace Mine
open Sem (wp)
section
variable {M : Model} {A : Around} {E : Value → Shared → Prop} {s : Shared} {env : Env}
theorem wpS_keep {α : Type} {vs : List Value} {m : Sem α} {Q : α → Shared → Prop} (h : wpS M A m Q E s) : wpS M A (m.keep vs) Q E s :=
  fun Γ p hΓ h1 h2 => by rw [Sem.wp_keep]; exact h Γ p hΓ h1 h2
theorem wpS_bindName {x : Str} {v : Value} {Q : Unit → Shared → Prop} (h : wpS M A (storeName env x v) Q E s) : wpS M A (bindName env x v) Q E s :=
  fun Γ p hΓ h1 h2 => by rw [Sem.wp_bindName]; exact h Γ p hΓ h1 h2
theorem wpS_execs_nil {Q : Flow → Shared → Prop} (h : Q .next s) : wpS M A (execs [] env) Q E s := wpS_pure h
theorem wpS_execs_cons {st rest} {Q : Flow → Shared → Prop}
    (h : wpS M A (exec st env) (fun f s' => match f with | .next => wpS M A (execs rest env) Q E s' | f => Q f s') E s) :
    wpS M A (execs (st :: rest) env) Q E s := by
  rw [execs_cons]
  refine wpS_bind (wpS_mono h (fun f s' h' => ?_) fun _ _ h' => h')
  cases f <;> first | exact h' | exact wpS_pure h'
/-- a statement without a critical call -/
theorem wpS_execs_any {st rest} {Q : Flow → Shared → Prop}
    (h : wpAny M A (exec st env) (fun f s' => match f with | .next => wpS M A (execs rest env) Q E s' | f => Q f s') E s) :
    wpS M A (execs (st :: rest) env) Q E s := wpS_execs_cons (wpS_any h)
theorem wpS_Assign_Name {x pos' value pos} {Q : Flow → Shared → Prop}
    (h : wpS M A (eval value env) (fun v s₁ => wpAny M A (storeName env x v) (fun _ => Q .next) E s₁) E s)
    (hs : swapsWith value (some (.Name x pos')) pos.line env = pure false := by rfl) :
    wpS M A (exec (.Assign [.Name x pos'] value pos) env) Q E s := by
  rw [exec_Assign_Name env x pos' value pos hs]
  exact wpS_bind (wpS_standAt (wpS_bind (wpS_mono h (fun v s₁ h₁ => wpS_bind (wpS_standAt (wpS_bind (wpS_bindName (wpS_mono (wpS_any h₁) (fun _ _ q => wpS_pure q) fun _ _ q => q))))) fun _ _ q => q)))
theorem wpS_Assign_Attribute {o attr pos' value pos} {Q : Flow → Shared → Prop}
    (h : wpS M A (eval value env) (fun v s₁ => wpAny M A (eval o env) (fun ov s₂ => wpAny M A (setAttr ov attr v) (fun _ => Q .next) E s₂) E s₁) E s)
    (hs : swapsWith value (some (.Attribute o attr pos')) pos.line env = pure false := by rfl) :
    wpS M A (exec (.Assign [.Attribute o attr pos'] value pos) env) Q E s := by
  rw [plainObj_exec_Assign_Attribute o attr pos' value pos hs]
  refine wpS_bind (wpS_standAt (wpS_bind (wpS_mono h (fun v s₁ h₁ => wpS_any ?_) fun _ _ q => q)))
  rw [assign_Attribute]
  have rel : ∀ {vs : List Value} {Q : Unit → Shared → Prop} {E : Value → Shared → Prop} {s : Shared}, Q () s → wpAny M A (release vs []) Q E s := fun q Γ p _ => by rw [Sem.wp_release]; exact q
  exact wpAny_bind (wpAny_bind (wpAny_holding (wpAny_mono h₁ (fun ov s₂ h₂ => wpAny_bind (wpAny_standAt (wpAny_bind (wpAny_holding (wpAny_mono h₂ (fun _ _ q => rel (wpAny_pure q)) fun _ _ q => q))))) fun _ _ q => q)))
theorem wpS_Expr {e pos} {Q : Flow → Shared → Prop} (h : wpS M A (eval e env) (fun v s' => wpAny M A (dropValue e pos v) Q E s') E s)
    (hi : interactive env = false := by rfl) (hs : swapsWith e none pos.line env = pure false := by rfl) :
    wpS M A (exec (.Expr e pos) env) Q E s := by
  rw [exec_Expr env e pos hi hs]
  exact wpS_bind (wpS_standAt (wpS_bind (wpS_mono h (fun _ _ q => wpS_any q) fun _ _ q => q)))
theorem wpS_If {test body orelse pos} {Q : Flow → Shared → Prop}
    (h : wpS M A (isTrue test env (eval test env))
      (fun b s₂ => if b then wpS M A (execs body env) Q E s₂ else wpS M A (execs orelse env) Q E s₂) E s) :
    wpS M A (exec (.If test body orelse pos) env) Q E s := by
  rw [exec_If]
  refine wpS_bind (wpS_standAt (wpS_bind (wpS_mono h (fun b s₂ h₂ => ?_) fun _ _ q => q)))
  cases b <;> exact h₂
theorem wpS_isTrue_Not {x : PySem.Expr} {pos : Pos} {whole : Sem Value} {Q : Bool → Shared → Prop} (h : wpS M A (isTrue x env (eval x env)) (fun b s₁ => Q (!b) s₁) E s) :
    wpS M A (isTrue (.UnaryOp .Not x pos) env whole) Q E s := by
  rw [arm_isTrue_UnaryOp]
  exact wpS_bind (wpS_mono h (fun b s₁ h₁ => wpS_pure h₁) fun _ _ q => q)

theorem callWithS_of {P : Heap → Prop} {f : Value} {pos : Pos} {first : List Value} {args : List (Bool × Sem Value)} {Q : Value → Shared → Prop} (hplain : args.any (·.1) = false)
    (hk : ∀ h, P h → ∃ k, (k = Keeper.frame ∨ k = Keeper.machine ∨ k = Keeper.boundFrame) ∧ Looks M h (keeperOf f) k)
    (h : wpAny M A (evalArgs f true args []) (fun a s₁ => P s₁.heap ∧ wpS M A (call f (first ++ a.pos) a.kw) Q E s₁) E s) : wpS M A (callWith pos f first args []) Q E s := by
  unfold callWith
  refine wpS_then (wpAny_holding (wpAny_mono h (fun a s₁ h₁ => wpS_bind (wpS_standAt ?_)) fun _ _ x => x))
  obtain ⟨k, hk', L⟩ := hk _ h₁.1
  simp only [hplain, List.any_nil, Bool.or_false]
  refine wpS_then (L.here ?_)
  have tail : ∀ {t : Sem Value}, wpS M A t Q E s₁ → wpS M A (t >>= fun r => holding [r] point >>= fun _ => pure r) Q E s₁ :=
    fun ht => wpS_bind (wpS_mono ht (fun r s₂ hr => wpS_bind (wpS_holding (wpS_point (wpS_pure hr)))) fun _ _ x => x)
  have marked (mk : Value) : wpS M A (callMarked mk f (first ++ a.pos) a.kw) Q E s₁ := by unfold callMarked; exact wpS_keep h₁.2
  rcases hk' with rfl | rfl | rfl <;> dsimp only <;> first | exact tail h₁.2 | (split <;> first | exact tail h₁.2 | exact tail (marked _))
theorem evalS_Call_Name {id : Str} {p pos : Pos} {args : List PySem.Expr} {trees : List (Bool × Sem Value)} {Q : Value → Shared → Prop} (ht : backTo pos (starEach args env) = trees)
    (h : wpAny M A (eval (.Name id p) env) (fun f s₁ => wpS M A (callWith pos f [] trees []) Q E s₁) E s) :
    wpS M A (eval (.Call (.Name id p) args [] pos) env) Q E s := by
  subst ht
  rw [arm_eval_Call_Name']
  exact wpS_then h
theorem evalS_Call_Attr {o : PySem.Expr} {name : Str} {apos pos : Pos} {args : List PySem.Expr} {trees : List (Bool × Sem Value)} {Q : Value → Shared → Prop} (ht : backTo pos (starEach args env) = trees)
    (hf : methodCallForm args.length trees [] = true) (hl : (apos.endLine == pos.line) = true)
    (h : wpAny M A (attributeBase o name env (eval o env)) (fun ov s₁ => wpAny M A (getMethod ov name (do return (← importBound o env).getD true)) (fun f s₂ => wpS M A (callWith pos f.1 f.2 trees []) Q E s₂) E s₁) E s) :
    wpS M A (eval (.Call (.Attribute o name apos) args [] pos) env) Q E s := by
  subst ht
  rw [arm_eval_Call]
  refine wpS_then (wpAny_mono h (fun ov s₁ h₁ => wpS_bind (wpS_standAt ?_)) fun _ _ x => x)
  show wpS _ _ (methodCall o name apos pos env ov (args.length + 0) (backTo pos (starEach args env)) []) _ _ _
  unfold methodCall calleeOf methodCallPos
  rw [show args.length + 0 = args.length from rfl, hf, if_pos rfl]
  refine wpS_then (wpAny_holding (wpAny_mono h₁ (fun f s₂ h₂ => ?_) fun _ _ x => x))
  rw [hl]
  exact wpS_bind (wpS_pure h₂)
end
end Mine
end TSLog4
section TBArr
open PySem PySem.W PySem.Calls PyProof.Rows Builtin Builtin.Bytes
set_option Elab.async false
set_option maxRecDepth 100000
set_option maxHeartbeats 4000000
namespace Mine
theorem mro_ba : mroOf (.type "bytearray") = pure [.type "bytearray", .type "object"] := by rw [mroOf_type]; kernel_rfl
theorem lookup_ba_new : typeLookup (.type "bytearray") "__new__" = pure (some (.builtin "bytearray.__new__")) := by rw [typeLookup_type, builtinLookup_eq_fast]; kernel_rfl
theorem sub_ba : isSubtype (.type "bytearray") (.type "bytearray") = pure true := by rw [isSubtype_type]; kernel_rfl
theorem slot_ba_init : Slot "bytearray" "__init__" "bytearray.__init__" :=
  .of (owner := "bytearray") (n := "__init__") (by rw [typeLookup_type, builtinLookup_eq_fast]; kernel_rfl) (by decide +kernel) (by decide +kernel) (by decide +kernel)
    (by first | exact .inl (by decide +kernel) | exact .inr (by decide +kernel)) sub_ba
theorem called_ba : TypeCalled "bytearray" "bytearray.__new__" "bytearray.__init__" :=
  ⟨by decide +kernel, by decide +kernel, ⟨_, _, mro_ba⟩, madeBy_type mro_ba lookup_ba_new (by decide +kernel), by decide +kernel, sub_ba, slot_ba_init⟩
theorem typeCall_ba : checkTypeCall "bytearray" ⟨[], []⟩ = pure () := by kernel_rfl
theorem newCall_ba : checkBuiltinCall "bytearray.__new__" ⟨[.type "bytearray"], []⟩ = pure () := by kernel_rfl
theorem entry_ba_new : entryFor table "bytearray.__new__" = some Builtin.«list.__new__» :=
  entryFor_alias (id' := "list.__new__") (by rw [fastTable_eq_tree]; kernel_rfl) (by decide +kernel) (by decide +kernel) (by rw [fastTable_eq_tree]; kernel_rfl)
theorem entry_ba_init : entryFor table "bytearray.__init__" = some Builtin.«bytearray.__init__» := entryFor_of_tree (by kernel_rfl)
theorem entry_ba_extend : entryFor table "bytearray.extend" = some Builtin.«bytearray.extend» := entryFor_of_tree (by kernel_rfl)
theorem owner_ba_new : ("bytearray.__new__".splitOn ".__new__").headD "" = "bytearray" := by rw [PySem.W.split_bytearray]; rfl
theorem rel_ba : typeLookup (.type "bytearray") "__release_buffer__" = pure (some (.builtin "bytearray.__release_buffer__")) := by rw [typeLookup_type, builtinLookup_eq_fast]; kernel_rfl
theorem slot_ba_extend : Slot "bytearray" "extend" "bytearray.extend" :=
  .of (owner := "bytearray") (n := "extend") (by rw [typeLookup_type, builtinLookup_eq_fast]; kernel_rfl) (by decide +kernel) (by decide +kernel) (by decide +kernel)
    (by first | exact .inl (by decide +kernel) | exact .inr (by decide +kernel)) sub_ba
theorem args_ba_init (a : Value) : argsOk "bytearray.__init__" ⟨[a], []⟩ := by unfold argsOk; kernel_rfl
theorem args_ba_extend (a b : Value) : argsOk "bytearray.extend" ⟨[a, b], []⟩ := by unfold argsOk; kernel_rfl
theorem rel_ends : ("bytearray.__release_buffer__").endsWith ("." ++ "__release_buffer__") = true := by decide +kernel
theorem rel_drop : ("bytearray.__release_buffer__").dropRight ("__release_buffer__".length + 1) = "bytearray" := by decide +kernel
noncomputable abbrev baObj (b : Array UInt8) : Obj := ⟨.type "bytearray", none, .bytearray b 0, #[]⟩
section
variable {M : Model} {A : Around} {E : Value → Shared → Prop} {s : Shared}
theorem own_ba {a : Addr} {Q : Bool → Shared → Prop} (hT : s.TypeIs (.ref a) "bytearray") (q : Q false s) : wpAny M A (ownRelease (.ref a)) Q E s := by
  unfold ownRelease slotIsOwn
  refine wpAny_bind (wpAny_bind (wpAny_specialOf hT rel_ba ?_))
  dsimp only
  rw [rel_ends]
  simp only [Bool.not_true, Bool.false_eq_true, if_false]
  rw [rel_drop]
  exact wpAny_isInstance hT sub_ba (wpAny_pure q)
theorem ba_exports {a : Addr} {b : Array UInt8} {Q : Nat → Shared → Prop} (ho : s.heap.get? a = some (baObj b)) (q : Q 0 s) : wpAny M A (exportsOf (.ref a)) Q E s :=
  wpAny_bind (wpAny_load ho (wpAny_pure q))
theorem ba_held {a : Addr} {b : Array UInt8} {Q : Bool → Shared → Prop} (ho : s.heap.get? a = some (baObj b)) (q : Q false s) :
    wpS M A (exported (.ref a) <||> (do return (← exportsOf (.ref a)) > 0)) Q E s := by
  unfold orM
  refine wpS_bind (exported_clean ?_)
  exact wpS_bind (wpS_any (ba_exports ho (wpS_pure q)))
theorem ba_mapped (b : Array UInt8) (f : Array UInt8 → Array UInt8) : Obj.mapBytearray f (baObj b) = baObj (f b) := rfl
theorem ba_write {a : Addr} {b : Array UInt8} {f : Array UInt8 → Array UInt8} {Q : Unit → Shared → Prop} (ho : s.heap.get? a = some (baObj b)) (hz : (f b).size ≤ 1000)
    (q : Q () { s with heap := s.heap.update a (Obj.mapBytearray f) }) : wpAny M A (write (.ref a) f) Q E s := by
  unfold write updateBytearray
  refine wpAny_bind (wpAny_load ho ?_)
  dsimp only
  refine wpAny_bind (wpAny_update ho ?_)
  have ho' : ({ s with heap := s.heap.update a (Obj.mapBytearray f) } : Shared).heap.get? a = some (baObj (f b)) := Heap.get?_update_self _ ho rfl
  refine wpAny_lookBehind ho' ?_ q
  show (if (f b).size > sizeLine then some "bytearray:memory" else none) = none
  rw [if_neg]
  have : (1000 : Nat) ≤ sizeLine := by rw [sizeLine_eq]; decide
  omega
end
section
variable {prog : Program} {w : World} {A : Around} {E : Value → Shared → Prop} {s : Shared}
theorem code_ba_new {Q₁ : Value → Shared → Prop}
    (h : Q₁ (.ref s.heap.objs.size) { s with heap := s.heap.push (baObj #[]) }) :
    codeAny (model prog w) A (.call (.builtin "bytearray.__new__") ⟨[.type "bytearray"], []⟩) (wants Q₁ E) s := by
  refine codeAny_of_tree ?_
  show wpAny _ A.in1 (do checkBuiltinCall "bytearray.__new__" ⟨[.type "bytearray"], []⟩; again (.builtin "bytearray.__new__" ⟨[.type "bytearray"], []⟩)) _ _ s
  have hp : plainId "bytearray.__new__" = true := by decide +kernel
  refine wpAny_bind (wpAny_of_eq newCall_ba (wpAny_pure ⟨plainId_quiet hp _, codeAny_builtin_stack entry_ba_new rfl fun p st => ?_⟩))
  rw [Around.under_plainId hp _]
  have hsub := sub_ba
  have hown := owner_ba_new
  obtain ⟨hp, g, d, tk, os⟩ := s
  simp only [hown]
  wp_walk
  exact h

theorem ba_init_S {A' : Around} {a : Addr} {R : Result → Shared → Prop} (ho : s.heap.get? a = some (baObj #[])) (q : R (.ok (.ret .none)) { s with heap := s.heap.update a (Obj.mapBytearray fun _ => #[]) }) :
    wpS (model prog w) A (Builtin.«bytearray.__init__» ⟨[.ref a], []⟩) (fun fin s' => match fin with | .done f => R (.ok f) s' | .again c' => c'.quiet = true ∧ codeS (model prog w) A' c' R s') (fun e s' => R (.error e) s') s := by
  unfold Builtin.«bytearray.__init__»
  dsimp only
  have hT : s.TypeIs (.ref a) "bytearray" := ⟨_, ho, rfl⟩
  refine wpS_then (own_ba hT ?_)
  rw [if_neg Bool.false_ne_true]
  refine wpS_then (m := bindOptional _ _ _ _ _) ?_
  have e : bindOptional "bytearray.__init__" "bytearray" ["source", "encoding", "errors"] [] [] = pure [none, none, none] := by kernel_rfl
  rw [e]
  refine wpAny_pure ?_
  dsimp only
  refine wpS_then (wpAny_pure ?_)
  refine wpS_then (wpAny_pure ?_)
  refine wpS_bind (ba_held ho ?_)
  rw [if_neg Bool.false_ne_true]
  refine wpS_then (ba_write ho (by decide) ?_)
  simp only [Option.isSome_none, Bool.false_eq_true, if_false]
  exact wpS_pure q

theorem payload_ba {a : Addr} {b : Array UInt8} {Q : Array UInt8 → Shared → Prop} (ho : s.heap.get? a = some (baObj b)) (q : Q b s) : wpAny (model prog w) A (payload (.ref a)) Q E s :=
  wpAny_bind (wpAny_bind (wpAny_load ho (wpAny_pure (wpAny_pure q))))
theorem payload_bytes {x : Array UInt8} {t : Tok} {Q : Array UInt8 → Shared → Prop} (q : Q x s) : wpAny (model prog w) A (payload (.bytes x t)) Q E s :=
  wpAny_bind (wpAny_pure (wpAny_pure q))
theorem buf_bytes : typeLookup (.type "bytes") "__buffer__" = pure (some (.builtin "bytes.__buffer__")) := by rw [typeLookup_type, builtinLookup_eq_fast]; kernel_rfl

theorem rel_bytes : typeLookup (.type "bytes") "__release_buffer__" = pure none := by rw [typeLookup_type, builtinLookup_eq_fast]; kernel_rfl
theorem take_bytes (id : String) (x : Array UInt8) (t : Tok) : takeBufferQuiet? id (.bytes x t) 0 = pure (some (x, none)) := by
  have sp : specialOf (.bytes x t) (Str.ofString "__buffer__") = pure (some (.builtin "bytes.__buffer__")) := buf_bytes
  have own : slotIsOwn (.bytes x t) "__buffer__" = pure true := by
    unfold slotIsOwn
    rw [sp]
    kernel_rfl
  have rel : ownRelease (.bytes x t) = pure false := by
    unfold ownRelease slotIsOwn
    rw [show specialOf (.bytes x t) (Str.ofString "__release_buffer__") = pure none from rel_bytes]
    rfl
  have bf : buffer? id (.bytes x t) (0 == fullReadOnly) = pure (some x) := by
    unfold buffer?
    rw [sp]
    simp only [pure_bind, own, Bool.not_true, Bool.false_eq_true, if_false, rel]
    rfl
  unfold takeBufferQuiet? takeBuffer?
  rw [sp]
  simp only [pure_bind, own, Bool.not_true, Bool.false_eq_true, if_false, bf]
  rfl

theorem ba_extend_S {A' : Around} {a : Addr} {b x : Array UInt8} {t : Tok} {R : Result → Shared → Prop} (ho : s.heap.get? a = some (baObj b)) (hz : (b ++ x).size ≤ 1000)
    (q : R (.ok (.ret .none)) { s with heap := s.heap.update a (Obj.mapBytearray (· ++ x)) }) :
    wpS (model prog w) A (Builtin.«bytearray.extend» ⟨[.ref a, .bytes x t], []⟩) (fun fin s' => match fin with | .done f => R (.ok f) s' | .again c' => c'.quiet = true ∧ codeS (model prog w) A' c' R s') (fun e s' => R (.error e) s') s := by
  unfold Builtin.«bytearray.extend»
  refine wpS_then (m := selfAndOne "bytearray.extend" _) (wpAny_pure ?_)
  dsimp only
  have sp : specialOf (.bytes x t) (Str.ofString "__buffer__") = pure (some (.builtin "bytes.__buffer__")) := buf_bytes
  rw [sp]
  refine wpS_then (wpAny_pure ?_)
  rw [if_pos (show (some (Value.builtin "bytes.__buffer__")).isSome = true from rfl)]
  refine wpS_then (wpAny_rule ?_)
  refine wpS_then (payload_ba ho ?_)
  rw [take_bytes]
  refine wpS_then (wpAny_pure ?_)
  dsimp only
  rw [if_pos (show (none : Option Value).isNone = true from rfl)]
  show wpS _ _ (if (!x.isEmpty) = true then (checkResize (.ref a) >>= fun _ => write (.ref a) (· ++ x) >>= fun _ => (ret .none : Sem PySem.Fin)) else (write (.ref a) (· ++ x) >>= fun _ => (ret .none : Sem PySem.Fin))) _ _ _
  have fin : wpS (model prog w) A (write (.ref a) (· ++ x) >>= fun _ => (ret .none : Sem PySem.Fin)) (fun fin s' => match fin with | .done f => R (.ok f) s' | .again c' => c'.quiet = true ∧ codeS (model prog w) A' c' R s') (fun e s' => R (.error e) s') s :=
    wpS_then (ba_write ho hz (wpS_pure q))
  cases hx : (!x.isEmpty) with
  | false => rw [if_neg Bool.false_ne_true]; exact fin
  | true =>
    rw [if_pos rfl]
    unfold checkResize
    refine wpS_bind (wpS_bind (ba_held ho ?_))
    rw [if_neg Bool.false_ne_true]
    exact wpS_pure fin
end
end Mine
end TBArr
section TBArr2
open PySem PySem.W PySem.Calls PyProof.Rows Builtin Builtin.Bytes
set_option Elab.async false
set_option maxRecDepth 100000
set_option maxHeartbeats 4000000
namespace Mine
section
variable {prog : Program} {w : World} {A : Around} {E : Value → Shared → Prop} {s : Shared} {h₀ : Heap} {L : Addr} {m : Str → Option Value} {news news' : List (Addr × Obj)} {a : Addr} {b x : Array UInt8} {t : Tok}
theorem plainAttrs_ba : PlainAttrs "bytearray" :=
  ⟨⟨"bytearray.__getattribute__", by rw [typeLookup_type, builtinLookup_eq_fast]; kernel_rfl, by decide +kernel⟩, by rw [typeLookup_type, builtinLookup_eq_fast]; kernel_rfl⟩
theorem cln_of {id : String} {args : Args} (h : holders.contains id = false) : cln (.builtin id args) = true := by
  show (!holders.contains id) = true
  rw [h]; rfl
theorem type_ba_extend : typeOf (.builtin "bytearray.extend") = pure (.type "method_descriptor") := by
  show builtinType _ = _
  rw [builtinType_eq_fast]; kernel_rfl
theorem method_ba_extend {pl : Sem Bool} {Q : Value × List Value → Shared → Prop} (ho : s.heap.get? a = some (baObj b)) (h : Q (.builtin "bytearray.extend", [.ref a]) s) :
    wpAny (model prog w) A (getMethod (.ref a) "extend" pl) Q E s :=
  getMethod_builtin ⟨_, ho, rfl⟩ plainAttrs_ba slot_ba_extend type_ba_extend (fun a e => by cases e; exact ⟨_, ho, rfl⟩) h
theorem callS_ba_extend {Q : Value → Shared → Prop} (F : Fr h₀ L s.heap m) (N : News h₀ L s.heap news) (U : Upd a (baObj b) (baObj (b ++ x)) news news') (hz : (b ++ x).size ≤ 1000)
    (h : ∀ h', Fr h₀ L h' m → News h₀ L h' news' → Q .none { s with heap := h' }) : wpS (model prog w) A (call (.builtin "bytearray.extend") [.ref a, .bytes x t]) Q E s := by
  obtain ⟨pre, post, rfl, rfl, h1, h2⟩ := U.split
  have z := N (a, baObj b) (List.mem_append.mpr (.inr (.head _)))
  have hs : Heap.SameBut a s.heap (s.heap.update a (Obj.mapBytearray (· ++ x))) := Heap.SameBut.update ..
  have ho' : (s.heap.update a (Obj.mapBytearray (· ++ x))).get? a = some (baObj (b ++ x)) := Heap.get?_update_self _ z.1 rfl
  refine wpS_call (codeS_call_builtin_at (cln_of (by decide +kernel)) (Code.quiet_builtin _ (by decide +kernel)) entry_ba_extend (slot_ba_extend.check _ _ _ _ _ _ _ _ ⟨_, z.1, rfl⟩ (args_ba_extend _ _) ?_))
  exact ba_extend_S (R := fun r s' => match r with | .ok (.ret v) => Q v s' | .ok _ => False | .error e => E e s') z.1 hz (h _ (F.change hs z.2.1 z.2.2) (news_set N h1 h2 hs ho'))

theorem codeS_builtin_of {id : String} {args : Args} {b : Builtin} {R : Result → Shared → Prop} (hcl : cln (.builtin id args) = true) (hb : entryFor table id = some b)
    (h : wpS (model prog w) (A.under (.builtin id args)) (b args) (fun fin s' => match fin with | .done f => R (.ok f) s' | .again c' => c'.quiet = true ∧ codeS (model prog w) A c' R s') (fun e s' => R (.error e) s') s) : codeS (model prog w) A (.builtin id args) R s := by
  refine codeS_of_tree hcl ?_
  show wpS _ _ (match entryFor table id with | some b => b args | none => unsupported ((withoutEnding? id "#data").getD id)) _ _ s
  rw [hb]; exact h
theorem callS_ba_new {Q : Value → Shared → Prop} (F : Fr h₀ L s.heap m) (N : News h₀ L s.heap news)
    (h : ∀ a h', Fr h₀ L h' m → News h₀ L h' ((a, baObj #[]) :: news) → (∀ p ∈ news, p.1 < a) → Q (.ref a) { s with heap := h' }) : wpS (model prog w) A (call (.type "bytearray") []) Q E s := by
  obtain ⟨hp, g, d, tk, os⟩ := s
  have N' := N.push F (baObj #[])
  have F' := F.push (baObj #[])
  have z := N' (hp.objs.size, baObj #[]) (.head _)
  have hs : Heap.SameBut hp.objs.size (hp.push (baObj #[])) ((hp.push (baObj #[])).update hp.objs.size (Obj.mapBytearray fun _ => #[])) := Heap.SameBut.update ..
  have ho' : ((hp.push (baObj #[])).update hp.objs.size (Obj.mapBytearray fun _ => #[])).get? hp.objs.size = some (baObj #[]) := Heap.get?_update_self _ z.1 rfl
  have fin := h hp.objs.size _ (F'.change hs z.2.1 z.2.2) (news_set (pre := []) N' (fun _ q => nomatch q) (fun p q => Nat.ne_of_lt (Heap.lt_size (N p q).1)) hs ho') (fun p q => Heap.lt_size (N p q).1)
  have ft := called_ba
  obtain ⟨c, tl, hmro⟩ := ft.mro
  refine wpS_call (codeS_of_tree rfl ?_)
  show wpS _ _ (callAny (.type "bytearray") _) _ _ _
  refine wpS_pure ⟨Code.quiet_builtin _ (by decide +kernel), codeS_builtin_of (id := "type.__call__") (args := ⟨[.type "bytearray"], []⟩) (cln_of (by decide +kernel)) PySem.F.entry_type_call ?_⟩
  rw [Around.under_plain (weight_type_call_type "bytearray" [] []) (units_type_call_type "bytearray" [] [])]
  dsimp only
  unfold Builtin.«type.__call__»
  dsimp only
  rw [if_neg (by rw [ft.notType]; exact Bool.false_ne_true)]
  rw [if_neg (by rw [ft.canCreate]; exact Bool.false_ne_true)]
  rw [typeCall_ba]
  refine wpS_then (wpAny_pure ?_)
  rw [hmro]
  refine wpS_then (wpAny_pure ?_)
  rw [if_neg (show ¬ ((c :: tl).isEmpty = true) from Bool.false_ne_true)]
  rw [ft.made]
  refine wpS_then (wpAny_pure ?_)
  dsimp only
  refine wpS_then (wpAny_pure ?_)
  have new := code_ba_new (prog := prog) (w := w) (A := A.in1) (E := E) (s := ⟨hp, g, d, tk, os⟩) (Q₁ := fun v s' => v = .ref hp.objs.size ∧ s' = ⟨hp.push (baObj #[]), g, d, tk, os⟩) ⟨rfl, rfl⟩
  refine wpS_then (wpAny_holding (wpAny_call (codeAny_mono new fun r s' q => ?_)))
  rcases r with e | (v | _ | _ | _) <;> first | exact q | exact q.elim | skip
  obtain ⟨rfl, rfl⟩ := q
  have hT : (⟨hp.push (baObj #[]), g, d, tk, os⟩ : Shared).TypeIs (.ref hp.objs.size) "bytearray" := ⟨_, z.1, rfl⟩
  refine wpS_then (wpAny_isInstance hT sub_ba ?_)
  rw [if_neg (show ¬ ((!true) = true) from Bool.false_ne_true)]
  unfold callSpecial?
  refine wpS_bind (wpS_holding ?_)
  refine wpS_then (wpAny_specialOf hT slot_ba_init.lookup ?_)
  dsimp only
  refine wpS_holding ?_
  rw [slot_ba_init.bind]
  refine wpS_then (wpAny_pure ?_)
  dsimp only
  refine wpS_bind (wpS_call (codeS_call_builtin_at (cln_of (by decide +kernel)) (Code.quiet_builtin _ (by decide +kernel)) entry_ba_init (slot_ba_init.check _ _ _ _ _ _ _ _ hT (args_ba_init _) ?_)))
  exact ba_init_S (R := fun r s' => match r with | .ok (.ret v) => wpS _ _ (pure (some v)) _ _ s' | .ok _ => False | .error e => E e s') z.1 (wpS_pure (wpS_pure fin))
end
end Mine
end TBArr2
section TExc1
open PySem PySem.W PySem.Calls PyProof.Rows Builtin Builtin.ObjectAttr Builtin.Getset_descriptor
set_option Elab.async false
set_option maxRecDepth 100000
set_option maxHeartbeats 4000000
namespace Mine
section
variable {prog : Program} {w : World} {A : Around} {R : Result → Shared → Prop} {h : Heap} {g : Array GenState} {d : Drawn} {t : Nat} {os : OsState}
variable {nm q : Str} {C N : Addr} {bs bm : List Value} {hdct : Bool} {sn : List Str} {sub : List Value} {ab : Bool} {col : Option Bool} {dd : Option Addr} {k0 k1 k2 k3 k5 : Option Value} {bmE : List Value} {newId initId : String} {K : Frag}

/-- making an object of an exception class whose line of classes comes to Exception -/
theorem exc_new (F : ExcBaseFacts "Exception" newId initId bmE) (hB : bm.contains (.type "Exception") = true) (hAt : bm.contains (.type "AttributeError") = false) (hNm : bm.contains (.type "NameError") = false)
    {rest : List Value} (hC : h.get? C = some (excClassObj nm q C N bs bm hdct sn sub ab col dd k0 k1 k2 k3 k5 newId))
    (hq : R (.ok (.ret (.ref (h.objs.size + 1)))) ⟨(h.push { cls := .type "tuple", data := .seq rest.toArray }).push
      { cls := .ref C, data := .fields #[.ref h.objs.size, .none, .none, .none, .bool false, .none] }, g, d, t, os⟩) (hrest : rest.length ≤ sizeLine := by size_fits) :
    codeAny (model prog w) A (.call (.builtin newId) ⟨.ref C :: rest, []⟩) R ⟨h, g, d, t, os⟩ := by
  have hcB : (Value.ref C :: bm).contains (.type "Exception") = true := by rw [List.contains_cons, hB, Bool.or_true]
  have hcA : (Value.ref C :: bm).contains (.type "AttributeError") = false := by rw [List.contains_cons, hAt]; rfl
  have hcN : (Value.ref C :: bm).contains (.type "NameError") = false := by rw [List.contains_cons, hNm]; rfl
  have hstar := F.noStar
  refine codeAny_call_builtin_code (Code.quiet_builtin _ F.quiet) ?_
  simp only [checkBuiltinCall, F.newKind, F.newSplit, F.newRow]
  repeat (first | refine wpAny_loadPart_at hC ?_ | (refine wpAny_isSubtype_exc hC ?_; rw [hcB]) | refine wpAny_staticBase_exc hC ?_ | refine wpAny_madeBy_exc hC ?_ | simp only [bne_self_eq_false, Bool.false_eq_true, if_false] | wp_step)
  refine codeAny_builtinAt F.entry ?_
  have hends := F.ends
  unfold Builtin.«BaseException.__new__»
  refine _root_.PySem.wpAt_bind ?_
  show _root_.PySem.wpAt _ _ _ (stack >>= _) _ _ _
  refine _root_.PySem.wpAt_bind (_root_.PySem.wpAt_stack fun p below => _root_.PySem.wpAt_of_wpAny ?_)
  wp_walk
  refine _root_.PySem.wpAt_of_wpAny ?_
  rw [F.owner]
  repeat (first | with_reducible refine wpAny_madeHere_exc F.canon hC ?_ | with_reducible refine wpAny_loadPart_at hC ?_ | (with_reducible refine wpAny_isSubtype_exc hC ?_; first | rw [hcB] | rw [hcA] | rw [hcN]) | wp_step)
  show R _ _
  rw [Heap.size_push]
  exact hq

noncomputable abbrev tupObj (vs : List Value) : Obj := { cls := .type "tuple", data := .seq vs.toArray }
noncomputable abbrev excObj (C t : Addr) (d : Option Addr) : Obj := { cls := .ref C, dict := d, data := .fields #[.ref t, .none, .none, .none, .bool false, .none] }
theorem exc_make (F : ExcBaseFacts "Exception" newId initId bmE) (hB : bm.contains (.type "Exception") = true) (hAt : bm.contains (.type "AttributeError") = false) (hNm : bm.contains (.type "NameError") = false)
    {rest : List Value} (hC : h.get? C = some (excClassObj nm q C N bs bm hdct sn sub ab col dd k0 k1 k2 k3 k5 newId))
    (call : Looks (model prog w) h (specialOf (.ref C) "__call__") (some (.builtin "type.__call__"))) (typ : Looks (model prog w) h (isInstance (.ref C) (.type "type")) true)
    {init : Value} (hi : Looks (model prog w) h (typeLookup (.ref C) "__init__") (some init)) (hb : ∀ self, Looks (model prog w) h (bindSpecial init self) (init, [self]))
    (hq : codeAny (model prog w) (A.under (.builtin "type.__call__" ⟨.ref C :: rest, []⟩)) (.call init ⟨.ref (h.objs.size + 1) :: rest, []⟩) (InitBack (h.objs.size + 1) R) ⟨(h.push (tupObj rest)).push (excObj C h.objs.size none), g, d, t, os⟩)
    (hrest : rest.length ≤ sizeLine := by size_fits) :
    codeAny (model prog w) A (.call (.ref C) ⟨rest, []⟩) R ⟨h, g, d, t, os⟩ := by
  refine codeAny_of_tree ?_
  show wpAny _ _ (callAny (.ref C) _) _ _ _
  refine nd_load hC ?_
  show wpAny _ _ (callAny.viaDunder (.ref C) _) _ _ _
  unfold callAny.viaDunder
  refine wpAny_bind (call.at ?_)
  dsimp only
  rw [tc_bind]
  refine wpAny_bind (wpAny_pure (wpAny_bind (wpAny_pure ?_)))
  refine wpAny_pure (a := Fin.again (.call (.builtin "type.__call__") ⟨.ref C :: rest, []⟩)) (And.intro rfl ?_)
  refine codeAny_call_builtin_at (Code.quiet_builtin _ (by decide +kernel)) PySem.entry_typeCall (check_slot PySem.tc_kind PySem.tc_split typ (tc_args _ _ _) ?_)
  unfold Builtin.«type.__call__»
  dsimp only
  have hm : Looks (model prog w) h (mroOf (.ref C)) (.ref C :: bm) := ((Looks.ld (part := none) hC).andThen .now).andThen .now
  have made : Looks (model prog w) h (Bind.madeBy (.ref C)) (some newId) := fun A Q E s k q => by
    obtain ⟨hh, gg, dd, tt, oo⟩ := s
    exact wpAny_madeBy_exc (k _ _ hC) q
  have k : ∀ b o, h.get? b = some o → ((h.push (tupObj rest)).push (excObj C h.objs.size none)).get? b = some o := fun b o e => Heap.get?_push_of_some _ (Heap.get?_push_of_some _ e)
  have hx : ((h.push (tupObj rest)).push (excObj C h.objs.size none)).get? (h.objs.size + 1) = some (excObj C h.objs.size none) := by heap_get
  have t1 : Looks (model prog w) ((h.push (tupObj rest)).push (excObj C h.objs.size none)) (typeOf (.ref (h.objs.size + 1))) (.ref C) := (Looks.ld hx).andThen .now
  have s1 : Looks (model prog w) ((h.push (tupObj rest)).push (excObj C h.objs.size none)) (isSubtype (.ref C) (.ref C)) true := fun A Q E s k' q => by
    obtain ⟨hh, gg, dd, tt, oo⟩ := s
    exact wpAny_isSubtype_exc (k' _ _ (k _ _ hC)) (by rw [show (Value.ref C :: bm).contains (.ref C) = true by simp]; exact q)
  have i1 := hi.keeps k
  have b1 := (hb (.ref (h.objs.size + 1))).keeps k
  rw [if_neg (by rw [show (Value.ref C == Value.type "type") = false from rfl]; exact Bool.false_ne_true)]
  refine wpAny_bind (hm.at ?_)
  rw [if_neg (show ¬ ((Value.ref C :: bm).isEmpty = true) from Bool.false_ne_true)]
  refine wpAny_bind (made.at ?_)
  dsimp only
  refine wpAny_bind (wpAny_pure ?_)
  refine wpAny_bind (wpAny_holding (wpAny_call (exc_new F hB hAt hNm hC ?_ hrest)))
  dsimp only
  refine wpAny_bind ?_
  unfold isInstance
  refine wpAny_bind (t1.at (s1.at ?_))
  rw [if_neg (by rw [Bool.not_true]; exact Bool.false_ne_true)]
  unfold callSpecial? specialOf
  refine wpAny_bind (wpAny_holding ?_)
  refine wpAny_bind (wpAny_bind (t1.at (i1.at ?_)))
  dsimp only
  refine wpAny_holding ?_
  refine wpAny_bind (b1.at ?_)
  refine wpAny_bind (wpAny_call (codeAny_mono hq fun r s' z => ?_))
  rcases r with e | (v | _ | _ | _) <;> first | exact z | exact z.elim | skip
  obtain ⟨rfl, z⟩ := z
  exact wpAny_pure (wpAny_pure z)
end

section
variable {prog : Program} {w : World} {A : Around} {K : Frag} {C : Addr} {s : Shared} {h₀ : Heap} {L : Addr} {m : Str → Option Value} {news : List (Addr × Obj)} {R : Result → Shared → Prop}
/-- small tests on values -/
noncomputable def tyIs (s : String) : Value → Bool
  | .type t => t == s
  | _ => false
noncomputable def rfIs (C : Addr) : Value → Bool
  | .ref t => t == C
  | _ => false
noncomputable def biIs (s : String) : Value → Bool
  | .builtin t => t == s
  | _ => false
theorem tyIs_of {s : String} {v : Value} (h : tyIs s v = true) : v = .type s := by
  cases v <;> first | exact congrArg _ (eq_of_beq h) | exact Bool.noConfusion h
theorem rfIs_of {C : Addr} {v : Value} (h : rfIs C v = true) : v = .ref C := by
  cases v <;> first | exact congrArg _ (eq_of_beq h) | exact Bool.noConfusion h
theorem biIs_of {s : String} {v : Value} (h : biIs s v = true) : v = .builtin s := by
  cases v <;> first | exact congrArg _ (eq_of_beq h) | exact Bool.noConfusion h
noncomputable def opIs (p : Value → Bool) : Option Value → Bool
  | some v => p v
  | none => false
theorem opIs_of {p : Value → Bool} {o : Option Value} (h : opIs p o = true) : ∃ v, o = some v ∧ p v = true := by
  cases o with
  | none => exact Bool.noConfusion h
  | some v => exact ⟨v, rfl, h⟩
noncomputable def hdOk (C : Addr) : List Value → Bool
  | [] => false
  | a :: bm => rfIs C a && (bm.contains (.type "Exception") && (!bm.contains (.type "AttributeError") && (!bm.contains (.type "NameError") && bm.contains (.type "BaseException"))))
noncomputable def slOk : Nat → List (Option Value) → Bool
  | _, [] => false
  | 0, a :: r => opIs (biIs "Exception.__new__") a && r.length == 1
  | n + 1, _ :: r => slOk n r
theorem slOk_of {l : List (Option Value)} (h : slOk 4 l = true) : ∃ k0 k1 k2 k3 k5, l = [k0, k1, k2, k3, some (.builtin "Exception.__new__"), k5] := by
  rcases l with _ | ⟨k0, _ | ⟨k1, _ | ⟨k2, _ | ⟨k3, _ | ⟨a, r⟩⟩⟩⟩⟩
  iterate 5 exact Bool.noConfusion h
  obtain ⟨h1, h2⟩ := Bool.and_eq_true_iff.mp h
  obtain ⟨v, rfl, hv⟩ := opIs_of h1
  obtain rfl := biIs_of hv
  obtain ⟨k5, rfl⟩ := List.length_eq_one_iff.mp (eq_of_beq h2)
  exact ⟨k0, k1, k2, k3, k5, rfl⟩
/-- what the written part says of an exception class -/
noncomputable def excClsIn (K : Frag) (C : Addr) : Bool := match K.lookup C with
  | some o => (match o.data with
    | .cls cd => tyIs "type" o.cls && (hdOk C cd.mro && (slOk 4 o.slots.toList && !cd.hasDel))
    | _ => false)
  | none => false
theorem excCls_of {h : Heap} (X : K.In h) (e : excClsIn K C = true) : ∃ nm q N bs bm hdct sn sub ab col dd k0 k1 k2 k3 k5, h.get? C = some (excClassObj nm q C N bs bm hdct sn sub ab col dd k0 k1 k2 k3 k5 "Exception.__new__") ∧
    bm.contains (.type "Exception") = true ∧ bm.contains (.type "AttributeError") = false ∧ bm.contains (.type "NameError") = false ∧ bm.contains (.type "BaseException") = true := by
  unfold excClsIn at e
  cases ho : K.lookup C with
  | none => rw [ho] at e; exact Bool.noConfusion e
  | some o =>
    rw [ho] at e
    obtain ⟨cl, dd, da, sl⟩ := o
    cases da <;> first | exact Bool.noConfusion e | skip
    rename_i cd
    replace e : (tyIs "type" cl && (hdOk C cd.mro && (slOk 4 sl.toList && !cd.hasDel))) = true := e
    obtain ⟨e1, e⟩ := Bool.and_eq_true_iff.mp e
    obtain ⟨e2, e⟩ := Bool.and_eq_true_iff.mp e
    obtain ⟨e3, e4⟩ := Bool.and_eq_true_iff.mp e
    obtain rfl := tyIs_of e1
    obtain ⟨k0, k1, k2, k3, k5, hs⟩ := slOk_of e3
    obtain ⟨nm, bs, mro, ns, qn, hd, sn, sub, ab, col, del⟩ := cd
    dsimp only at e2 e4
    cases mro with
    | nil => exact Bool.noConfusion e2
    | cons a bm =>
      obtain ⟨e2, h1⟩ := Bool.and_eq_true_iff.mp e2
      obtain ⟨h1, h2⟩ := Bool.and_eq_true_iff.mp h1
      obtain ⟨h2, h3⟩ := Bool.and_eq_true_iff.mp h2
      obtain ⟨h3, h4⟩ := Bool.and_eq_true_iff.mp h3
      obtain rfl := rfIs_of e2
      obtain rfl : del = false := Bool.not_eq_true' _ |>.mp e4
      obtain ⟨l⟩ := sl
      obtain rfl : l = _ := hs
      exact ⟨nm, qn, ns, bs, bm, hd, sn, sub, ab, col, dd, k0, k1, k2, k3, k5, X _ _ ho, h1, Bool.not_eq_true' _ |>.mp h2, Bool.not_eq_true' _ |>.mp h3, h4⟩
theorem exc_make_K {rest : List Value} {fI : Addr} (F : Fr h₀ L s.heap m) (N : News h₀ L s.heap news) (X : K.In s.heap) (he : excClsIn K C = true)
    (hc : specialIn K (.ref C) "__call__" = some (some (.builtin "type.__call__"))) (ht : instIn K (.ref C) (.type "type") = some true)
    (hi : findIn K (.ref C) "__init__" = some (some (.ref fI))) (hf : typeIn K (.ref fI) = some (.type "function"))
    (h : ∀ x t h', Fr h₀ L h' m → News h₀ L h' ((x, excObj C t none) :: (t, tupObj rest) :: news) → (∀ p ∈ news, p.1 < t) → t < x →
      codeAny (model prog w) (A.under (.builtin "type.__call__" ⟨.ref C :: rest, []⟩)) (.call (.ref fI) ⟨.ref x :: rest, []⟩) (InitBack x R) { s with heap := h' })
    (hrest : rest.length ≤ sizeLine := by size_fits) :
    codeAny (model prog w) A (.call (.ref C) ⟨rest, []⟩) R s := by
  obtain ⟨hh, g, d, t, os⟩ := s
  obtain ⟨nm, q, Nn, bs, bm, hdct, sn, sub, ab, col, dd, k0, k1, k2, k3, k5, hC, hB, hA, hN, _⟩ := excCls_of X he
  refine exc_make PySem.F.excBase_Exception hB hA hN hC (looks_specialIn X hc) (looks_instIn X ht) (looks_findIn X hi) (fun self => bind_fn X self hf) (h _ hh.objs.size _ ((F.push _).push _) ?_ (fun p hp => Heap.lt_size (N p hp).1) (Nat.lt_succ_self _)) hrest
  have := (N.push F (tupObj rest)).push (F.push _) (excObj C hh.objs.size none)
  rwa [Heap.size_push] at this
end
end Mine
end TExc1
section TExc2
open PySem PySem.W PySem.Calls PyProof.Rows Builtin Builtin.ObjectAttr Builtin.Getset_descriptor
set_option Elab.async false
set_option maxRecDepth 100000
set_option maxHeartbeats 4000000
namespace Mine
noncomputable def excTl : List Value → Bool
  | [] => false
  | b :: r => tyIs "BaseException" b && (match r with
    | [] => false
    | c :: q => tyIs "object" c && q.isEmpty)
theorem excTl_of {l : List Value} (h : excTl l = true) : l = [.type "BaseException", .type "object"] := by
  rcases l with _ | ⟨b, _ | ⟨c, q⟩⟩
  · exact Bool.noConfusion h
  · exact absurd (Bool.and_eq_true_iff.mp h).2 Bool.false_ne_true
  · obtain ⟨h1, h2⟩ := Bool.and_eq_true_iff.mp h
    obtain ⟨h2, h3⟩ := Bool.and_eq_true_iff.mp h2
    rw [tyIs_of h1, tyIs_of h2, List.isEmpty_iff.mp h3]
noncomputable def isRf : Value → Bool
  | .ref _ => true
  | _ => false
theorem isRf_of {v : Value} (h : isRf v = true) : ∃ c, v = .ref c := by
  cases v <;> first | exact ⟨_, rfl⟩ | exact Bool.noConfusion h
noncomputable def excMro : List Value → Bool
  | [] => false
  | a :: r => (isRf a && excMro r) || (tyIs "Exception" a && excTl r)
theorem refuse_exc (self : Value) {l : List Value} (e : excMro l = true) : refuseLoop self "__setattr__" l = pure () := by
  induction l with
  | nil => exact Bool.noConfusion e
  | cons a r ih =>
    rcases Bool.or_eq_true_iff.mp e with h | h
    · obtain ⟨h1, h2⟩ := Bool.and_eq_true_iff.mp h
      obtain ⟨c, rfl⟩ := isRf_of h1
      rw [refuseLoop_ref]; exact ih h2
    · obtain ⟨h1, h2⟩ := Bool.and_eq_true_iff.mp h
      rw [tyIs_of h1, excTl_of h2]
      exact PySem.F.store_Exception.passes self
theorem excMro_has {l : List Value} (e : excMro l = true) : l.contains (.type "object") = true := by
  induction l with
  | nil => exact Bool.noConfusion e
  | cons a r ih =>
    rcases Bool.or_eq_true_iff.mp e with h | h
    · rw [List.contains_cons, ih (Bool.and_eq_true_iff.mp h).2, Bool.or_true]
    · obtain ⟨h1, h2⟩ := Bool.and_eq_true_iff.mp h
      rw [tyIs_of h1, excTl_of h2]
      rfl
section
variable {prog : Program} {w : World} {A : Around} {K : Frag} {C x t : Addr} {s : Shared} {h₀ : Heap} {L : Addr} {m : Str → Option Value} {pre post : List (Addr × Obj)} {E : Value → Shared → Prop}
/-- the first attribute of an exception of one's own lays its dict -/
theorem exc_set {name : Str} {v : Value} {Q : Unit → Shared → Prop} (F : Fr h₀ L s.heap m) (N : News h₀ L s.heap (pre ++ (x, excObj C t none) :: post)) (X : K.In s.heap)
    (hp : (clsIn K C).any (fun cd => excMro cd.mro && cd.hasDict) = true) (hs : findIn K (.ref C) "__setattr__" = some (some (.builtin "object.__setattr__"))) (ht : takerIn K C name = some none)
    (h1 : ∀ p ∈ pre, p.1 ≠ x) (h2 : ∀ p ∈ post, p.1 ≠ x)
    (h : ∀ dx od h' tk es ep, Fr h₀ L h' m → News h₀ L h' ((dx, od) :: pre ++ (x, excObj C t (some dx)) :: post) → od.data = .dict es ep → h'.Ns dx (fun y => if y = name then some v else none) → (∀ p ∈ pre ++ (x, excObj C t none) :: post, p.1 < dx) → Q () { s with heap := h', toks := tk }) :
    wpAny (model prog w) A (setAttr (.ref x) name v) Q E s := by
  obtain ⟨hp₀, g, d, tk, os⟩ := s
  obtain ⟨cd, hc, hcd⟩ := any_some hp
  obtain ⟨hpass, hhd⟩ := Bool.and_eq_true_iff.mp hcd
  have hx := (N (x, excObj C t none) (List.mem_append_right _ (.head _))).1
  have hxn := (N (x, excObj C t none) (List.mem_append_right _ (.head _))).2
  have ty : Looks (model prog w) hp₀ (typeOf (.ref x)) (.ref C) := (Looks.ld hx).andThen .now
  have ne : cd.mro.isEmpty = false := by cases q : cd.mro with | nil => rw [q] at hpass; cases hpass | cons _ _ => rfl
  have sub : Looks (model prog w) hp₀ (isInstance (.ref x) (.type "object")) true := ty.andThen (looks_mroIn X (by unfold mroIn; rw [hc, Option.bind_some, if_neg (by rw [ne]; decide), excMro_has hpass]))
  have SF := PySem.F.store_object
  refine wpAny_bind (wpAny_mkText (wpAny_bind (wpAny_bind (wpAny_bind (ty _ _ _ _ (fun _ _ e => e) (looks_findIn X hs _ _ _ _ (fun _ _ e => e) (wpAny_holding ?_)))))))
  rw [PySem.F.store_object.slot.bind]
  refine wpAny_bind (wpAny_pure (wpAny_bind (wpAny_call ?_)))
  refine codeAny_call_builtin SF.slot.plain SF.entry (@check_slot (model prog w) _ _ _ "object.__setattr__" "object" "__setattr__" (.ref x) [.str name tk, v] [] _ SF.kind SF.split sub (SF.args (.ref x) (.str name tk) v) ?_)
  obtain ⟨attr, ha, hr⟩ := Option.bind_eq_some_iff.mp ht
  have hm : Looks (model prog w) hp₀ (mroOf (.ref C)) cd.mro := (looks_clsIn X hc).andThen .now
  have L3 : Looks (model prog w) hp₀ (storeTaker? attr) none := by
    cases attr with
    | none => exact .now
    | some a =>
      obtain ⟨b, hb, hb'⟩ := Option.map_eq_some_iff.mp hr
      refine (looks_takesIn X hb).andThen ?_
      cases b <;> first | exact .now | cases hb'
  show wpAny _ _ (Builtin.«object.__setattr__» ⟨[.ref x, .str name tk, v], []⟩) _ _ _
  rw [osa_eq, refuse_eq]
  refine wpAny_bind (wpAny_bind (ty.at (wpAny_bind (hm.at ?_))))
  rw [refuse_exc _ hpass]
  refine wpAny_pure (wpAny_bind (ty.at (wpAny_bind ((looks_findIn X ha).at (wpAny_bind (L3.at ?_))))))
  dsimp only
  show wpAny _ _ (pure () >>= fun _ => instanceDict x true >>= fun o => match o with | some d => storeInDict d (.str name tk) name v | none => noDictFor (.ref x) (.ref C) name attr.isSome) _ _ _
  refine wpAny_bind (wpAny_pure (wpAny_bind ?_))
  unfold instanceDict
  refine wpAny_bind (wpAny_loadPart hx ?_)
  dsimp only
  refine wpAny_bind ((looks_clsIn X hc).at ?_)
  rw [hhd]
  simp only [Bool.not_true, Bool.false_eq_true, if_false]
  rw [if_neg (show ¬ ((false || !typeHasDict (Value.ref C)) = true) from Bool.false_ne_true)]
  refine wpAny_bind (wpAny_alloc ?_)
  have hx₁ : (hp₀.push emptyDict).get? x = some (excObj C t none) := Heap.get?_push_of_some _ hx
  have hxs : x ≠ hp₀.objs.size := Nat.ne_of_lt (Heap.lt_size hx)
  refine wpAny_bind (wpAny_update hx₁ ?_)
  refine wpAny_pure ?_
  have hgd : ((hp₀.push emptyDict).update x fun o => { cls := o.cls, dict := some hp₀.objs.size, data := o.data, slots := o.slots }).get? hp₀.objs.size
      = some { cls := .type "dict", data := .dict #[] } :=
    (Heap.get?_update_ne _ _ _ _ hxs.symm).trans (Heap.get?_push_at rfl rfl)
  have hnd : ((hp₀.push emptyDict).update x fun o => { cls := o.cls, dict := some hp₀.objs.size, data := o.data, slots := o.slots }).Ns hp₀.objs.size (fun _ => none) :=
    ⟨_, #[], _, hgd, rfl, fun e he => absurd he (by simp), fun _ => rfl⟩
  show wpAny _ _ (storeInDict hp₀.objs.size (.str name tk) name v) _ _ _
  unfold storeInDict newKeyGuard
  refine wpAny_bind (wpAny_pure (wpAny_bind (wpAny_nsSet1 (Heap.Ns1.of_empty hnd) fun h' hn' hs => ?_)))
  obtain ⟨oD, esD, epD, hoD, hdD, hcD⟩ := hn'.count (Within.cons name v Within.nil)
  refine wpAny_bind (wpAny_lookBehind hoD (by rw [hdD]; exact pastItsLine_dict (Nat.le_trans hcD (by rw [List.length_cons, List.length_nil, sizeLine_eq]; omega))) ?_)
  refine wpAny_pure ?_
  show wpAny _ _ (pure (some _)) _ _ _
  refine wpAny_pure (wpAny_pure ?_)
  have hx' : h'.get? x = some (excObj C t (some hp₀.objs.size)) := by
    refine (hs.2 x hxs).trans (Heap.get?_update_self (fun o => { cls := o.cls, dict := some hp₀.objs.size, data := o.data, slots := o.slots }) hx₁ rfl)
  have keep : ∀ b o, b ≠ x → hp₀.get? b = some o → h'.get? b = some o := fun b o hbx hb =>
    (hs.2 b (Nat.ne_of_lt (Heap.lt_size hb))).trans ((Heap.get?_update_ne _ _ _ _ hbx).trans (Heap.get?_push_of_some _ hb))
  have hLx : L ≠ x := fun q => hxn.1 q.symm
  refine h hp₀.objs.size oD h' _ esD epD ⟨?_, fun b o e => keep b o (fun q => by rw [q, hxn.2] at e; cases e) (F.keep b o e), F.above⟩ (fun p hp => ?_) hdD ?_ (fun p hp => Heap.lt_size (N p hp).1)
  · obtain ⟨oL, es, ep, e1, r⟩ := F.ns
    exact ⟨oL, es, ep, keep L oL hLx e1, r⟩
  · rcases List.mem_append.mp (show p ∈ (((hp₀.objs.size, oD) :: pre) ++ (x, excObj C t (some hp₀.objs.size)) :: post) from hp) with hp | hp
    · rcases List.mem_cons.mp hp with rfl | hp
      · exact ⟨hoD, Nat.ne_of_gt F.ns.lt, Heap.get?_none_of_le (Nat.le_trans F.above (Nat.le_of_lt F.ns.lt))⟩
      · have n := N p (List.mem_append_left _ hp)
        exact ⟨keep _ _ (h1 p hp) n.1, n.2⟩
    · rcases List.mem_cons.mp hp with rfl | hp
      · exact ⟨hx', hxn⟩
      · have n := N p (List.mem_append_right _ (.tail _ hp))
        exact ⟨keep _ _ (h2 p hp) n.1, n.2⟩
  · obtain ⟨o', es, ep, e1, e2, e3, eu, e4⟩ := hn'
    exact ⟨o', es, ep, e1, e2, e3, e4⟩
end
end Mine
end TExc2
section TExc4
open PySem PySem.W PySem.Calls PyProof.Rows
set_option Elab.async false
set_option maxRecDepth 100000
set_option maxHeartbeats 4000000
namespace Mine
open Sem (wp)
section
variable {M : Model} {A : Around} {E : Value → Shared → Prop} {env : Env}
theorem exc_raise {s : Shared} {K : Frag} {e : PySem.Expr} {pos : Pos} {Q : Flow → Shared → Prop} (hh : A.handled = none)
    (h : wpAny M A (eval e env) (fun v s₁ => ∃ x C t d, v = .ref x ∧ K.In s₁.heap ∧ excClsIn K C = true ∧ s₁.heap.get? x = some (excObj C t (some d)) ∧ E (.ref x) s₁) E s) :
    wpAny M A (exec (.Raise (some e) none pos) env) Q E s := by
  rw [arm_exec_Raise]
  refine wpAny_bind (wpAny_standAt ?_)
  show wpAny _ _ (raiseStmt env (some (eval e env >>= fun v => standAt pos >>= fun _ => pure v)) none) _ _ _
  unfold raiseStmt
  refine wpAny_bind (wpAny_bind (wpAny_mono h (fun v s₁ h₁ => wpAny_bind (wpAny_standAt (wpAny_pure ?_))) fun _ _ x => x))
  obtain ⟨x, C, t, d, rfl, X, hK, he, hE⟩ := h₁
  obtain ⟨hp, g, d', tk, os⟩ := s₁
  obtain ⟨nm, q, Nn, bs, bm, hdct, sn, sub, ab, col, dd, k0, k1, k2, k3, k5, hC, hB, hA, hN, hbase⟩ := excCls_of X hK
  have hcB : (Value.ref C :: bm).contains (.type "BaseException") = true := by rw [List.contains_cons, hbase, Bool.or_true]
  repeat (first | with_reducible refine wpAny_loadPart_at he ?_ | with_reducible refine wpAny_loadPart_at hC ?_ | (with_reducible refine wpAny_isSubtype_exc hC ?_; rw [hcB]) | wp_step)
  exact wpAny_raiseNew_none hh hE
end
end Mine
end TExc4
section TExc5
open PySem PySem.W PySem.Calls PyProof.Rows
set_option Elab.async false
set_option maxRecDepth 100000
set_option maxHeartbeats 4000000
namespace Mine
open Sem (wp)
/-- trees that call nothing and whose writes leave every object's dict -/
noncomputable def keepy {α : Type} : Sem α → Prop
  | .pure _ | .raise _ | .unsupported _ | .finish _ => True
  | .rule _ k => keepy (k ())
  | .at _ k => keepy (k ())
  | .load _ _ k => ∀ o, keepy (k o)
  | .update _ _ f k => (∀ o, (f o).dict = o.dict ∧ (o.isFreed = false → (f o).isFreed = false)) ∧ keepy (k ())
  | .loadIfAlive _ k => ∀ o, keepy (k o)
  | .point _ k => keepy (k ())
  | .alloc _ k => ∀ a, keepy (k a)
  | .fresh k => ∀ t, keepy (k t)
  | .ask k => ∀ x, keepy (k x)
  | .handled _ k => ∀ h, keepy (k h)
  | .stack k => ∀ l, keepy (k l)
  | .thread k => ∀ n, keepy (k n)
  | _ => False
def DictKept (h h' : Heap) : Prop := ∀ b o, h.get? b = some o → ∃ o', h'.get? b = some o' ∧ o'.dict = o.dict
theorem DictKept.refl (h : Heap) : DictKept h h := fun _ o e => ⟨o, e, rfl⟩
theorem DictKept.trans {h₁ h₂ h₃ : Heap} (x : DictKept h₁ h₂) (y : DictKept h₂ h₃) : DictKept h₁ h₃ := fun b o e =>
  let ⟨_, e₁, d₁⟩ := x b o e; let ⟨o₂, e₂, d₂⟩ := y b _ e₁; ⟨o₂, e₂, d₂.trans d₁⟩
theorem DictKept.of_keeps {h h' : Heap} (k : ∀ b o, h.get? b = some o → h'.get? b = some o) : DictKept h h' := fun b o e => ⟨o, k b o e, rfl⟩
theorem DictKept.update (h : Heap) (a : Addr) {f : Obj → Obj} (hf : ∀ o, (f o).dict = o.dict ∧ (o.isFreed = false → (f o).isFreed = false)) : DictKept h (h.update a f) := fun b o e => by
  by_cases hb : b = a
  · subst hb
    exact ⟨f o, Heap.get?_update_self _ e ((hf o).2 (Heap.get?_some_iff.mp e).2), (hf o).1⟩
  · exact ⟨o, (Heap.get?_update_other _ _ (Ne.symm hb)).trans e, rfl⟩
theorem wp_keepy {α : Type} {M : Model} {Γ : Ctx} (t : Sem α) {Q : α → Pos → Shared → Prop} {E : Value → Pos → Shared → Prop} (hk : keepy t) (s₀ : Shared) (p : Pos) (s : Shared) (h0 : DictKept s₀.heap s.heap) (h : wp M Γ t Q E p s) :
    wp M Γ t (fun a p' s' => Q a p' s' ∧ DictKept s₀.heap s'.heap) (fun e p' s' => E e p' s' ∧ DictKept s₀.heap s'.heap) p s := by
  induction t generalizing p s with
  | pure x => rw [wp] at h ⊢; exact ⟨h, h0⟩
  | raise v => rw [wp] at h ⊢; exact ⟨h, h0⟩
  | unsupported => rw [wp] at h; exact h.elim
  | finish => rw [wp] at h; exact h.elim
  | rule _ k ih => rw [wp] at h ⊢; exact ih _ hk p s h0 h
  | «at» p' k ih => rw [wp] at h ⊢; exact ih _ hk p' s h0 h
  | load a _ k ih => rw [wp] at h ⊢; obtain ⟨o, ho, h⟩ := h; exact ⟨o, ho, ih _ (hk o) p s h0 h⟩
  | update a _ f k ih => rw [wp] at h ⊢; obtain ⟨ha, h⟩ := h; exact ⟨ha, ih _ hk.2 p _ (h0.trans (.update _ a hk.1)) h⟩
  | loadIfAlive a k ih => rw [wp] at h ⊢; exact ih _ (hk _) p s h0 h
  | point _ k ih => rw [wp] at h ⊢; exact ih _ hk p s h0 h
  | alloc o k ih => rw [wp] at h ⊢; exact ih _ (hk _) p _ (h0.trans (.of_keeps fun b o e => Heap.get?_push_of_some _ e)) h
  | fresh k ih => rw [wp] at h ⊢; exact ih _ (hk _) p _ h0 h
  | ask k ih => rw [wp] at h ⊢; exact ih _ (hk _) p s h0 h
  | handled _ k ih => rw [wp] at h ⊢; exact ih _ (hk _) p s h0 h
  | stack k ih => rw [wp] at h ⊢; exact ih _ (hk _) p s h0 h
  | thread k ih => rw [wp] at h ⊢; exact ih _ (hk _) p s h0 h
  | _ => exact hk.elim
theorem wpAny_keepy {α : Type} {M : Model} {A : Around} {t : Sem α} {Q : α → Shared → Prop} {E : Value → Shared → Prop} {s : Shared} (hk : keepy t) (h : wpAny M A t Q E s) :
    wpAny M A t (fun a s' => Q a s' ∧ DictKept s.heap s'.heap) (fun e s' => E e s' ∧ DictKept s.heap s'.heap) s := fun Γ p hΓ => wp_keepy t hk s p s (.refl _) (h Γ p hΓ)
theorem keepy_bind {α β : Type} {m : Sem α} {f : α → Sem β} (hm : keepy m) (hf : ∀ a, keepy (f a)) : keepy (m >>= f) := by
  show keepy (m.bind f)
  induction m with
  | pure a => exact hf a
  | raise => exact trivial
  | unsupported => exact trivial
  | finish => exact trivial
  | rule _ k ih => exact ih _ hm
  | «at» _ k ih => exact ih _ hm
  | load _ _ k ih => exact fun o => ih _ (hm o)
  | update _ _ f k ih => exact ⟨hm.1, ih _ hm.2⟩
  | loadIfAlive _ k ih => exact fun o => ih _ (hm o)
  | point _ k ih => exact ih _ hm
  | alloc _ k ih => exact fun o => ih _ (hm o)
  | fresh k ih => exact fun o => ih _ (hm o)
  | ask k ih => exact fun o => ih _ (hm o)
  | handled _ k ih => exact fun o => ih _ (hm o)
  | stack k ih => exact fun o => ih _ (hm o)
  | thread k ih => exact fun o => ih _ (hm o)
  | _ => exact hm.elim
theorem keepy_pure {α : Type} {a : α} : keepy (pure a : Sem α) := trivial
theorem keepy_uns {α : Type} {w : String} : keepy (unsupported w : Sem α) := trivial
theorem keepy_load {a : Addr} : keepy (load a) := fun _ => trivial
theorem keepy_stack : keepy stack := fun _ => trivial
theorem keepy_field {v : Value} {i : Nat} : keepy (field v i) := by
  unfold field fieldsOf
  refine keepy_bind ?_ fun vs => by split <;> exact trivial
  split
  · exact keepy_bind keepy_load fun o => by split <;> exact trivial
  · exact trivial
theorem mapFields_ok (f : Array Value → Array Value) (o : Obj) : (Obj.mapFields f o).dict = o.dict ∧ (o.isFreed = false → (Obj.mapFields f o).isFreed = false) := by
  obtain ⟨c, d, dt, sl⟩ := o
  cases dt <;> exact ⟨rfl, fun h => h⟩
theorem keepy_setField {v : Value} {i : Nat} {x : Value} : keepy (setField v i x) := by
  unfold setField
  split
  · unfold updateField
    refine keepy_bind keepy_load fun o => ?_
    split
    · split
      · exact ⟨mapFields_ok _, trivial⟩
      · exact trivial
    · exact trivial
  · exact trivial
theorem keepy_setFlight {e : Value} {f : Option Addr} : keepy (setFlight e f) := by
  unfold setFlight
  refine keepy_bind keepy_field fun tb => ?_
  split
  · exact keepy_setField
  · exact trivial
theorem keepy_readyFrames : ∀ l : List Env, keepy (readyFrames l)
  | [] => trivial
  | env :: outer => by
    unfold readyFrames
    cases hf : env.frame with
    | none => exact trivial
    | some f =>
      refine keepy_bind keepy_load fun o => ?_
      split
      · exact trivial
      · refine keepy_bind ?_ fun i => keepy_bind ?_ fun bk => ?_
        · unfold behindIsImport
          split
          · exact trivial
          · split
            · exact trivial
            · exact keepy_bind keepy_field fun _ => trivial
        · cases outer with
          | nil =>
            show keepy (if (env.scope.isGenerator || env.scope.isCoroutine) = true then pure Value.none else do return if ← underTheClaimsCaller then .notImplemented else .none)
            split
            · exact trivial
            · unfold underTheClaimsCaller
              exact keepy_bind (keepy_bind keepy_stack fun _ => trivial) fun _ => trivial
          | cons c r => exact trivial
        · refine keepy_bind (m := PySem.update f _) ⟨fun o => ⟨rfl, fun h => ?_⟩, trivial⟩ fun _ => keepy_readyFrames outer
          obtain ⟨c, d, dt, sl⟩ := o
          cases dt <;> first | exact h | cases h
theorem keepy_frameOf {env : Env} : keepy (_root_.PySem.frameOf env) := by
  unfold _root_.PySem.frameOf frameEnvs
  refine keepy_bind (keepy_bind keepy_stack fun _ => trivial) fun l => keepy_bind ?_ fun r => by split <;> exact trivial
  generalize (List.dropWhile (fun x => x.frame != env.frame) l) = l'
  cases l' with
  | nil => exact trivial
  | cons e o => exact keepy_bind (keepy_readyFrames _) fun _ => trivial
theorem keepy_entryPlace {f : Addr} {b : Bool} : keepy (entryPlaceOf f b) := by
  unfold entryPlaceOf
  exact keepy_bind keepy_stack fun l => by split <;> exact trivial
theorem keepy_newEntry {a b c d e : Value} {pl : List Value} : keepy (EntryCells.newEntry a b c d e pl) := by
  unfold EntryCells.newEntry newFields newObj
  have as : ∀ vs : Array Value, keepy (newObjAsIs (.type "traceback") (.fields vs)) := fun vs => keepy_bind (m := alloc _) (fun _ => trivial) fun _ => trivial
  dsimp only
  (repeat' split) <;> first | exact as _ | exact trivial
theorem keepy_noteFrame {e : Value} {env : Env} : keepy (noteFrame e env) := by
  unfold noteFrame
  cases env.frame with
  | none => exact trivial
  | some f =>
    dsimp only
    have tail : ∀ head : Value, keepy (do setField e 1 (← EntryCells.newEntry head (← _root_.PySem.frameOf env) .none (rawInt f) .none (← entryPlaceOf f (head != .none)))) := fun head =>
      keepy_bind keepy_frameOf fun a => keepy_bind keepy_entryPlace fun pl => keepy_bind keepy_newEntry fun b => keepy_setField
    refine keepy_bind keepy_field fun head => ?_
    split
    · refine keepy_bind keepy_field fun x => ?_
      split
      · exact trivial
      · exact keepy_bind keepy_setField fun _ => tail head
    · exact tail head
theorem keepy_leaving {e : Value} {env : Env} : keepy (leaving env e) := keepy_bind keepy_noteFrame fun _ => keepy_setFlight
end Mine
end TExc5
section TExc6
open PySem PySem.W PySem.Calls PyProof.Rows Builtin Builtin.ObjectAttr
set_option Elab.async false
set_option maxRecDepth 100000
set_option maxHeartbeats 4000000
namespace Mine
open Sem (wp)
theorem looks_isType {K : Frag} {M : Model} {h : Heap} (x : K.In h) {C : Addr} (e : (clsIn K C).isSome = true) : Looks M h (isType (.ref C)) true := by
  obtain ⟨cd, e⟩ := Option.isSome_iff_exists.mp e
  unfold clsIn at e
  split at e
  · rename_i ho; cases e; exact (Looks.ld (x _ _ ho)).andThen .now
  · cases e
section
variable {prog : Program} {w : World} {A : Around} {E : Value → Shared → Prop} {s : Shared} {K : Frag} {x C : Addr} {ox : Obj} {od : Option Obj} {name : Str} {expr : Bool} {Q : Value → Shared → Prop}
theorem exc_get {v : Value} (X : K.In s.heap) (I : InstAt s.heap x ox C od) (hga : findIn K (.ref C) "__getattribute__" = some (some (.builtin "BaseException.__getattribute__")))
    (hb : mroIn K C (.type "BaseException") = some true) (hk : findIn K (.ref C) "__getattr__" = some none) (hf : findObj K C od name = some (.value v)) (hh : handedIn v = true) (h : Q v { s with toks := s.toks + 1 }) :
    wpAny (model prog w) A (getAttr (.ref x) name expr) Q E s := by
  obtain ⟨hh', g, d, t, os⟩ := s
  have L0 := I.type (M := model prog w)
  have L1 := looks_findIn (M := model prog w) X hga
  have L2 := looks_findIn (M := model prog w) X hk
  have L3 := looks_find (M := model prog w) X I hf
  have sub : Looks (model prog w) hh' (isInstance (.ref x) (.type "BaseException")) true := L0.andThen (looks_mroIn X hb)
  unfold getAttr getAttrBy
  refine wpAny_bind (wpAny_mkText (wpAny_holding (wpAny_bind (L0.at (wpAny_bind (L1.at ?_))))))
  dsimp only
  have SF := PySem.F.attr_Exception
  have f3 := SF.ga.bind (.ref x)
  have hx0 : (expr && onTheHeap (Value.builtin "BaseException.__getattribute__")) = false := by cases expr <;> rfl
  have hx2 : (Value.builtin "BaseException.__getattribute__" == Value.builtin "object.__getattribute__") = false := by decide +kernel
  have hx1 : (onTheHeap (Value.ref C) && Value.builtin "BaseException.__getattribute__" == Value.builtin "object.__getattribute__") = false := by rw [hx2]; rfl
  rw [if_neg (by rw [hx1]; exact Bool.false_ne_true)]
  unfold getAttrByItsOwn
  have hB : Looks (model prog w) hh' (hookBefore (.ref C)) none := L2
  refine wpAny_bind (hB.at ?_)
  refine wpAny_bind (wpAny_attempt (wpAny_holding ?_))
  unfold callGetattribute
  rw [if_neg (by rw [hx0]; exact Bool.false_ne_true)]
  unfold boundAndCalled
  rw [f3]
  refine wpAny_bind (wpAny_pure (wpAny_call ?_))
  have hk : builtinKind "BaseException.__getattribute__" = some .slot := by decide +kernel
  have hsplit : splitId "BaseException.__getattribute__" = some ("BaseException", "__getattribute__") := by decide +kernel
  show codeAny _ _ (.call (.builtin "BaseException.__getattribute__") ⟨[.ref x, .str name t], []⟩) _ _
  refine codeAny_call_builtin SF.ga.plain PySem.F.entry_bexc_ga (@check_slot (model prog w) _ _ _ "BaseException.__getattribute__" "BaseException" "__getattribute__" (.ref x) [.str name t] [] _ hk hsplit sub (PySem.F.args_bexc_ga _ _) ?_)
  unfold Builtin.«object.__getattribute__»
  refine wpAny_bind (m := slotArgs _ _ _) (wpAny_pure ?_)
  dsimp only
  refine wpAny_bind (m := attrName _) (wpAny_pure (wpAny_bind (L0.at (wpAny_bind (L3.at ?_)))))
  dsimp only
  refine wpAny_pure ?_
  show wpAny _ _ (handedOut v) _ _ _
  rw [handedOut_of hh]; exact wpAny_pure h

/-- what a test of a handler's class says -/
theorem exc_matches {M : Model} {C' : Addr} {b : Bool} {Q : Bool → Shared → Prop} (X : K.In s.heap) (I : InstAt s.heap x ox C od) (ht : instIn K (.ref C') (.type "tuple") = some false) (hty : (clsIn K C').isSome = true)
    (hbase : subIn K (.ref C') (.type "BaseException") = some true) (hs : subIn K (.ref C) (.ref C') = some b) (h : Q b s) : wpAny M A (excMatches (.ref x) (.ref C')) Q E s := by
  have L0 := I.type (M := M)
  unfold excMatches
  refine wpAny_bind ((looks_instIn X ht).here ?_)
  rw [if_neg Bool.false_ne_true]
  refine wpAny_bind (wpAny_pure ?_)
  have ic : Looks M s.heap (isExcClass (.ref C')) true := by
    unfold isExcClass
    exact (looks_isType X hty).andThen (looks_subIn X hbase)
  have sb := looks_subIn (M := M) X hs
  simp only [List.forIn_cons, List.forIn_nil]
  refine wpAny_bind (wpAny_bind (wpAny_bind (ic.here ?_)))
  rw [if_neg (by rw [Bool.not_true]; exact Bool.false_ne_true)]
  refine wpAny_pure (wpAny_pure (wpAny_bind (L0.here (wpAny_bind (wpAny_bind (wpAny_bind (sb.here ?_)))))))
  cases b with
  | true => exact wpAny_pure (wpAny_pure (wpAny_pure h))
  | false => exact wpAny_pure (wpAny_pure (wpAny_pure h))
end

section
variable {prog : Program} {w : World} {A : Around} {E : Value → Shared → Prop} {s : Shared} {K : Frag} {x C C' : Addr} {ox : Obj} {od : Option Obj} {env : Env} {n : Str} {t : PySem.Expr} {b₀ : Stmt} {suite : List Stmt} {pos : Pos} {rest : List ExceptHandler} {Q : Flow → Shared → Prop}
theorem handle_miss (X : K.In s.heap) (I : InstAt s.heap x ox C od) (ht : instIn K (.ref C') (.type "tuple") = some false) (hty : (clsIn K C').isSome = true)
    (hbase : subIn K (.ref C') (.type "BaseException") = some true) (hs : subIn K (.ref C) (.ref C') = some false)
    (he : ∀ {A E} {Q : Value → Shared → Prop}, Q (.ref C') s → wpAny (model prog w) A (eval t env) Q E s) (h : wpAny (model prog w) A (handleBy (.ref x) env rest) Q E s) :
    wpAny (model prog w) A (handleBy (.ref x) env (.ExceptHandler (some t) (some n) (b₀ :: suite) pos :: rest)) Q E s :=
  wpAny_handleBy_cons (codeAny_handlers_test (he (exc_matches X I ht hty hbase hs h))) (by intro q; cases q)
theorem handle_hit (X : K.In s.heap) (I : InstAt s.heap x ox C od) (ht : instIn K (.ref C') (.type "tuple") = some false) (hty : (clsIn K C').isSome = true)
    (hbase : subIn K (.ref C') (.type "BaseException") = some true) (hs : subIn K (.ref C) (.ref C') = some true)
    (he : ∀ {A E} {Q : Value → Shared → Prop}, Q (.ref C') s → wpAny (model prog w) A (eval t env) Q E s)
    (h : wpAny (model prog w) (A.mark (some (.ref x))) (setFlight (.ref x) none) (fun _ s₂ =>
          wpAny (model prog w) (A.mark (some (.ref x))) (storeName env n (.ref x)) (fun _ s₃ =>
            wpAny (model prog w) (A.mark (some (.ref x))) (execs (b₀ :: suite) env)
              (fun f s₄ => wpAny (model prog w) A (do bindName env n .none; unbindBehindTheSuite env n pos) (fun _ s₅ => Q f s₅) E s₄)
              (AsSuiteRaised (model prog w) (A.mark (some (.ref x))) env n pos (notedBy (model prog w) (A.mark (some (.ref x))) env (cameBackBy (model prog w) A env E))) s₃)
            (notedBy (model prog w) (A.mark (some (.ref x))) env (cameBackBy (model prog w) A env E)) s₂)
          (notedBy (model prog w) (A.mark (some (.ref x))) env (cameBackBy (model prog w) A env E)) s) :
    wpAny (model prog w) A (handleBy (.ref x) env (.ExceptHandler (some t) (some n) (b₀ :: suite) pos :: rest)) Q E s :=
  wpAny_handleBy_cons (codeAny_handlers_test (he (exc_matches X I ht hty hbase hs (codeAny_handlers_suite_as h)))) (by intro q; cases q)
end
end Mine
end TExc6
section TTurn
open PySem PySem.W PySem.Calls PyProof.Rows
set_option Elab.async false
set_option maxRecDepth 100000
set_option maxHeartbeats 4000000
namespace Mine
open Sem (wp)
noncomputable abbrev frs (l : List Env) : List Addr := l.filterMap (·.frame)
theorem frs_mem {env : Env} {outer : List Env} {L b : Addr} (hf : env.frame = some L) (hm : b ∈ frs (env :: outer)) : b = L ∨ b ∈ frs outer := by
  obtain ⟨env', he, hf'⟩ := List.mem_filterMap.mp hm
  rcases List.mem_cons.mp he with rfl | he
  · exact .inl (Option.some.inj (hf'.symm.trans hf))
  · exact .inr (List.mem_filterMap.mpr ⟨env', he, hf'⟩)
/-- a raised own error: its dict is kept, and it is fresh above the ground G -/
def RaisedT (base G : Heap) (l : List Env) (e C t d : Addr) (vs : List Value) (news : List (Addr × Obj)) (h : Heap) : Prop :=
  RaisedS base G l e (.ref C) t vs news h ∧ (∃ oe, h.get? e = some oe ∧ oe.dict = some d) ∧ G.get? e = none ∧ G.get? t = none
section
variable {M : Model} {A A₀ : Around} {E : Value → Shared → Prop} {s' : Shared} {base g G : Heap} {outer : List Env} {L a e C t d : Addr} {m : Str → Option Value} {qual : Str} {scope : Scope} {cd : Value} {cl : List (Str × Addr)} {Q : Unit → Shared → Prop} {news : List (Addr × Obj)} {vs : List Value}
/-- the first frame that a fresh error leaves -/
theorem leave_raiseT {env : Env} (B : Below A base outer g) (F : Fr g L s'.heap m) (he : s'.heap.get? e = some (excObj C t (some d))) (hen : g.get? e = none) (heL : e ≠ L)
    (ht : s'.heap.get? t = some (tupObj vs)) (htn : g.get? t = none) (htL : t ≠ L) (N : News g L s'.heap news) (hne : ∀ q ∈ news, q.1 ≠ e ∧ q.1 ≠ t)
    (hf : env.frame = some L) (hk : env.scope.kind = .function)
    (hQ : ∀ h', RaisedT base g outer e C t d vs news h' → g.UpToSlots h' → Q () { s' with heap := h' }) :
    wpAny M (A.deeper env) (leaving env (.ref e)) Q E s' := by
  have B' := pushX B F hf hk
  have ebase : base.get? e = none := fresh_of_stays B.stays hen
  have tbase : base.get? t = none := fresh_of_stays B.stays htn
  let as := e :: t :: (env :: outer).filterMap (·.frame)
  have hin : ∀ env' ∈ (env :: outer), ∀ b, env'.frame = some b → b ∈ as := fun env' he' b hb => .tail _ (.tail _ (List.mem_filterMap.mpr ⟨env', he', hb⟩))
  have inFr : ∀ b, b ∈ (env :: outer).filterMap (·.frame) → base.get? b = none ∧ (b = L ∨ ∃ o, g.get? b = some o) := fun b hb => by
    refine ⟨(B'.frames.mem hb).1, ?_⟩
    obtain ⟨env', he', hf'⟩ := List.mem_filterMap.mp hb
    rcases List.mem_cons.mp he' with rfl | he'
    · exact .inl (Option.some.inj (hf'.symm.trans hf))
    · obtain ⟨o, ho, _⟩ := (B.frames.mem (List.mem_filterMap.mpr ⟨env', he', hf'⟩)).2
      exact .inr ⟨o, ho⟩
  have st : base.StaysIn (hideAll s'.heap as) := fun b o q => hideAll_get _ (F.keep b o (B.stays b o q)) fun hm => by
    rcases List.mem_cons.mp hm with rfl | hm
    · rw [ebase] at q; cases q
    · rcases List.mem_cons.mp hm with rfl | hm
      · rw [tbase] at q; cases q
      · rw [(inFr b hm).1] at q; cases q
  have sg : ∀ b o, g.get? b = some o → b ∉ outer.filterMap (·.frame) → (hideAll s'.heap as).get? b = some o := fun b o q nm => hideAll_get _ (F.keep b o q) fun hm => by
    rcases List.mem_cons.mp hm with rfl | hm
    · rw [hen] at q; cases q
    · rcases List.mem_cons.mp hm with rfl | hm
      · rw [htn] at q; cases q
      · rcases frs_mem hf hm with z | z
        · rw [z, kts_self F] at q; cases q
        · exact nm z
  have hl : ∀ q ∈ news, (hideAll s'.heap as).get? q.1 = some q.2 ∧ g.get? q.1 = none ∧ base.get? q.1 = none := fun q hq => by
    refine ⟨hideAll_get _ (N q hq).1 fun hm => ?_, (N q hq).2.2, fresh_of_stays B.stays (N q hq).2.2⟩
    rcases List.mem_cons.mp hm with z | hm
    · exact (hne q hq).1 z
    · rcases List.mem_cons.mp hm with z | hm
      · exact (hne q hq).2 z
      · rcases (inFr _ hm).2 with z | ⟨o, ho⟩
        · exact (N q hq).2.1 z
        · rw [(N q hq).2.2] at ho; cases ho
  have eB : (hideAll s'.heap as).get? e = none := hideAll_none _ (.head _)
  have tB : (hideAll s'.heap as).get? t = none := hideAll_none _ (.tail _ (.head _))
  have step := wpAny_leaving_firstW (M := M) (A := A.deeper env) (E := E) (base := hideAll s'.heap as) (a0 := .ref t) (Q := fun u s => (∃ h', s = { s' with heap := h' } ∧ Heap.LeftW (hideAll s'.heap as) (env :: outer) e (.ref C) (.ref t) s'.heap h'))
    B'.stack (funFrames_hide B'.frames hin) hf he (fun b o q => of_hideAll _ q) eB rfl rfl rfl (fun h' hL => ⟨h', rfl, hL⟩)
  refine wpAny_mono (wpAny_keepy keepy_leaving step) (fun _ s₁ hs => ?_) fun _ _ hs => hs.1
  obtain ⟨⟨h', rfl, k1, ⟨_, _, k2⟩, k3, k4⟩, dk⟩ := hs
  obtain ⟨oe, hoe, hod⟩ := dk e _ he
  exact hQ h' ⟨⟨⟨_, st, sg, hl, ⟨k1, eB, k2, k3⟩, tB⟩, Heap.TupAt.of_slots ⟨_, _, ht, rfl, rfl⟩ k4⟩, ⟨oe, hoe, hod⟩, hen, htn⟩ ((Heap.UpToSlots.of_keeps F.keep).trans k4)

/-- a frame further out -/
theorem leave_onT {env : Env} (F : Fr g L G m) (R : RaisedT base G (env :: outer) e C t d vs news s'.heap) (hsm : G.UpToSlots s'.heap)
    (hf : env.frame = some L) (hA : A.frames = some outer)
    (hQ : ∀ h', RaisedT base g outer e C t d vs news h' → g.UpToSlots h' → Q () { s' with heap := h' }) :
    wpAny M (A.deeper env) (leaving env (.ref e)) Q E s' := by
  obtain ⟨⟨⟨Bh, hB, hBG, hl, hfl, hnew⟩, htup⟩, ⟨oe, hoe, hod⟩, ge, gt⟩ := R
  have step := wpAny_leaves_onW (M := M) (A := A.deeper env) (E := E) (Q := fun u s => ∃ h', s = { s' with heap := h' } ∧ Heap.FlyingW Bh outer e (.ref C) (.ref t) h' ∧ s'.heap.UpToSlots h') (Around.frames_deeper hA) hf hfl fun h' x1 x2 => ⟨h', rfl, x1, x2⟩
  refine wpAny_mono (wpAny_keepy keepy_leaving step) (fun _ s₁ hs => ?_) fun _ _ hs => hs.1
  obtain ⟨⟨h', rfl, x1, x2⟩, dk⟩ := hs
  obtain ⟨oe', hoe', hod'⟩ := dk e _ hoe
  exact hQ h' ⟨⟨⟨Bh, hB, fun b o q nm => hBG b o (F.keep b o q) (fun hm => by
      rcases frs_mem hf hm with z | z
      · rw [z, kts_self F] at q; cases q
      · exact nm z), fun q hq => ⟨(hl q hq).1, kts_none F.keep (hl q hq).2.1, (hl q hq).2.2⟩, x1, hnew⟩, htup.of_slots x2⟩, ⟨oe', hoe', hod'.trans hod⟩, kts_none F.keep ge, kts_none F.keep gt⟩ ((Heap.UpToSlots.of_keeps F.keep).trans (hsm.trans x2))

/-- the frame that catches it looks at it and takes it down -/
theorem landT {env : Env} {P : Unit → Shared → Prop} (hsm : G.UpToSlots s'.heap) (R : RaisedT base G (env :: outer) e C t d vs news s'.heap) (hf : env.frame = some L) (hA : A.frames = some (env :: outer))
    (hQ : ∀ h', RaisedT base G (env :: outer) e C t d vs news h' → G.UpToSlots h' → P () { s' with heap := h' }) :
    wpAny M A (noteFrame (.ref e) env) (fun _ s₂ => wpAny M A (setFlight (.ref e) none) P E s₂) E s' := by
  obtain ⟨⟨⟨Bh, hB, hBG, hl, hfl, hnew⟩, htup⟩, ⟨oe, hoe, hod⟩, ge⟩ := R
  have step := wpAny_looks_onW (M := M) (A := A) (E := E) (Q := fun u s => ∃ h', s = { s' with heap := h' } ∧ Heap.HeldW Bh (env :: outer) e (.ref C) (.ref t) L h' ∧ s'.heap.UpToSlots h') hA hf hfl fun h' x1 x2 => ⟨h', rfl, x1, x2⟩
  refine wpAny_mono (wpAny_keepy keepy_noteFrame step) (fun _ s₁ hs => ?_) fun _ _ hs => hs.1
  obtain ⟨⟨h₁, rfl, x1, x2⟩, dk⟩ := hs
  obtain ⟨oe₁, hoe₁, hod₁⟩ := dk e _ hoe
  have step₂ := wpAny_landsW (M := M) (A := A) (E := E) (s := { s' with heap := h₁ }) (Q := fun u s => ∃ h', s = { s' with heap := h' } ∧ Heap.FlyingW Bh (env :: outer) e (.ref C) (.ref t) h' ∧ h₁.UpToSlots h') x1 fun h' y1 y2 => ⟨h', rfl, y1, y2⟩
  refine wpAny_mono (wpAny_keepy keepy_setFlight step₂) (fun _ s₂ hs => ?_) fun _ _ hs => hs.1
  obtain ⟨⟨h₂, rfl, y1, y2⟩, dk₂⟩ := hs
  obtain ⟨oe₂, hoe₂, hod₂⟩ := dk₂ e _ hoe₁
  exact hQ h₂ ⟨⟨⟨Bh, hB, hBG, hl, y1, hnew⟩, htup.of_slots (x2.trans y2)⟩, ⟨oe₂, hoe₂, hod₂.trans (hod₁.trans hod)⟩, ge⟩ (hsm.trans (x2.trans y2))
/-- taking it down once more -/
theorem againT {env : Env} {P : Unit → Shared → Prop} (hsm : G.UpToSlots s'.heap) (R : RaisedT base G (env :: outer) e C t d vs news s'.heap)
    (hQ : ∀ h', RaisedT base G (env :: outer) e C t d vs news h' → G.UpToSlots h' → P () { s' with heap := h' }) :
    wpAny M A (setFlight (.ref e) none) P E s' := by
  obtain ⟨⟨⟨Bh, hB, hBG, hl, hfl, hnew⟩, htup⟩, ⟨oe, hoe, hod⟩, ge⟩ := R
  have step := lands_againW (M := M) (A := A) (E := E) (Q := fun u s => ∃ h', s = { s' with heap := h' } ∧ Heap.FlyingW Bh (env :: outer) e (.ref C) (.ref t) h' ∧ s'.heap.UpToSlots h') hfl fun h' x1 x2 => ⟨h', rfl, x1, x2⟩
  refine wpAny_mono (wpAny_keepy keepy_setFlight step) (fun _ s₁ hs => ?_) fun _ _ hs => hs.1
  obtain ⟨⟨h₁, rfl, x1, x2⟩, dk⟩ := hs
  obtain ⟨oe₁, hoe₁, hod₁⟩ := dk e _ hoe
  exact hQ h₁ ⟨⟨⟨Bh, hB, hBG, hl, x1, hnew⟩, htup.of_slots x2⟩, ⟨oe₁, hoe₁, hod₁.trans hod⟩, ge⟩ (hsm.trans x2)
/-- the caught error in the ledger, over a turned ground -/
theorem raisedT_ground {name : Str} {h' : Heap} (K : Below A₀ base outer g) (F : Fr g L G m) (hsm : G.UpToSlots h') (R : RaisedT base G (envOf name scope L a cd :: outer) e C t d vs news h') :
    ∃ g' oe ot, KtsTurn (frs outer) g g' ∧ Fr g' L h' m ∧ Below A₀ base outer g' ∧ News g' L h' ((e, oe) :: (t, ot) :: news) ∧ oe.cls = .ref C ∧ oe.dict = some d ∧ notCls oe = true := by
  obtain ⟨⟨⟨Bh, hB, hBG, hl, hfl, hnew⟩, htup⟩, ⟨oe, hoe, hod⟩, ge, gt⟩ := R
  obtain ⟨g₅, T₅, F₅, K₅⟩ := kts_ground K F hBG hfl.1 hsm
  have hL : Bh.get? L = none := by
    obtain ⟨_, ⟨L', _, hf', hn', _⟩, _⟩ := hfl.2.2.1
    obtain rfl : L = L' := Option.some.inj hf'
    exact hn'
  obtain ⟨oe', ws, hoe', hoec, hoed, _⟩ := hfl.first
  rw [hoe] at hoe'; cases hoe'
  obtain ⟨ot, nt, hot, hotc, hotd⟩ := htup
  have N' := News.more F₅ (News.more F₅ News.nil hot (fun es n q => by rw [hotd] at q; cases q) (T₅.none_ _ (kts_none F.keep gt))) hoe (fun es n q => by rw [hoed] at q; cases q) (T₅.none_ _ (kts_none F.keep ge))
  refine ⟨g₅, oe, ot, T₅, F₅, K₅, fun q hq => ?_, hoec, hod, by unfold notCls; rw [hoed]⟩
  rcases List.mem_cons.mp hq with rfl | hq
  · exact N' _ (.head _)
  · rcases List.mem_cons.mp hq with rfl | hq
    · exact N' _ (.tail _ (.head _))
    · exact ⟨hfl.1 _ _ (hl q hq).1, (fun z => by have := (hl q hq).1; rw [z, hL] at this; cases this), T₅.none_ _ (kts_none F.keep (hl q hq).2.1)⟩
end

/-- leaving a body whose ground may have turned (a try below it) -/
def LeaveT (A₀ : Around) (base : Heap) (env : Env) (outer : List Env) (h₀ : Heap) (L : Addr) (m : Str → Option Value) (g : Heap) (R : Result → Shared → Prop) (v : Value) (s' : Shared) : Prop :=
  ∃ g' L' m' news', KtsTurn (frs (env :: outer)) g g' ∧ Fr g' L' s'.heap m' ∧ News g' L' s'.heap news' ∧
    ∀ h₀', KtsTurn (frs outer) h₀ h₀' → Fr h₀' L s'.heap m → News h₀' L s'.heap news' → Below A₀ base outer h₀' → R (.ok (.ret v)) s'
section
variable {prog : Program} {w : World} {A₀ A : Around} {s : Shared} {base h₀ : Heap} {outer : List Env} {L : Addr} {m : Str → Option Value} {env : Env} {news : List (Addr × Obj)} {K : Frag} {mg mb : Str → Option Value} {p : Program} {loose : List Str} {mean : ExcName → Option Value}
  {R : Result → Shared → Prop} {name qual : Str} {params : Arguments} {body : List Stmt} {scope : Scope} {cl : List (Str × Addr)} {dV kV doc pm cdv ct oc : Value} {an od : Option Addr} {osl : Array (Option Value)} {fo : Obj} {f : Addr} {args : Args} {binds : List (Str × Value)}
theorem leaveT_ {g g' : Heap} {L' : Addr} {m' : Str → Option Value} {news' : List (Addr × Obj)} {v : Value} {s' : Shared} (F' : Fr g' L' s'.heap m') (N' : News g' L' s'.heap news') (T : KtsTurn (frs (env :: outer)) g g')
    (k : ∀ h₀', KtsTurn (frs outer) h₀ h₀' → Fr h₀' L s'.heap m → News h₀' L s'.heap news' → Below A₀ base outer h₀' → R (.ok (.ret v)) s') : LeaveT A₀ base env outer h₀ L m g R v s' := ⟨g', L', m', news', T, F', N', k⟩
theorem groundT (B : Below A₀ base outer h₀) (F : Fr h₀ L s.heap m) (N : News h₀ L s.heap news) (hA : A.frames = some (env :: outer)) (hf : env.frame = some L) (hke : env.scope.kind = .function) :
    Fr h₀ L (hideAll s.heap (news.map (·.1))) m ∧ Below A base (env :: outer) (hideAll s.heap (news.map (·.1))) ∧ h₀.StaysIn (hideAll s.heap (news.map (·.1))) ∧
      ∀ v s', LeaveT A₀ base env outer h₀ L m (hideAll s.heap (news.map (·.1))) R v s' → R (.ok (.ret v)) s' := by
  obtain ⟨FG, BG, st, _⟩ := groundX (R := R) B F N hA hf hke
  refine ⟨FG, BG, st, fun v s' hl => ?_⟩
  obtain ⟨g', L', m', news', T', F', N', k⟩ := hl
  obtain ⟨oL, es, ep, hLg, hLd, hLk, hLf⟩ := FG.ns
  have nL₀ : h₀.get? L = none := kts_self F
  obtain ⟨sl, hs⟩ := T'.up hLg
  obtain ⟨T₁, S₁⟩ := kts_turn_at (h := s'.heap) (fs := frs outer) (g := h₀)
    (fun b hb => by
      obtain ⟨_, o, ho', _⟩ := B.frames.mem hb
      exact ⟨o, ho'⟩)
    (fun b o e nmem => F'.keep b o (T'.other b o (st b o e) (fun q => by
      rcases frs_mem hf q with z | z
      · rw [z, nL₀] at e
        cases e
      · exact nmem z)))
    (fun b o e hm => by
      obtain ⟨sl', hs'⟩ := T'.up (st b o e)
      exact ⟨sl', F'.keep _ _ hs'⟩)
  have B₃ : Below A₀ base outer (ktsHeap s'.heap (frs outer) h₀) := ⟨B.stack, fun b o e => T₁.other b o (B.stays b o e) (fun hm => by
    rw [(B.frames.mem hm).1] at e
    cases e), B.frames.of_keeps fun b o e _ => by
    obtain ⟨sl', hs'⟩ := T₁.up e
    exact ⟨_, hs', rfl⟩⟩
  refine k _ T₁ ⟨⟨_, es, ep, F'.keep _ _ hs, hLd, hLk, hLf⟩, S₁, by rw [T₁.size]; exact F.above⟩ (fun p hp => ⟨(N' p hp).1, fun q => ?_, ?_⟩) B₃
  · have := (N' p hp).2.2; rw [q, hs] at this; cases this
  · refine T₁.none_ _ ?_
    cases q : h₀.get? p.1 with
    | none => rfl
    | some o =>
      obtain ⟨sl', hs'⟩ := T'.up (st _ _ q)
      have := (N' p hp).2.2
      rw [hs'] at this
      cases this
theorem callT_plain (B : Below A₀ base outer h₀) (F : Fr h₀ L s.heap m) (N : News h₀ L s.heap news) (hlim : h₀.NoLimit) (hA : A.frames = some (env :: outer)) (hf : env.frame = some L) (hke : env.scope.kind = .function)
    (ho : s.heap.get? f = some fo) (hd : fo.data = .func (fnX name qual params body scope cl dV kV doc pm an cdv ct)) (hcd : s.heap.CodeRec cdv qual) (hroom : A.depth < recursionLimit)
    (hbind : BindsTo s (fnX name qual params body scope cl dV kV doc pm an cdv ct) args binds) (hloc : ∀ y ∈ binds, scope.names.lookup y.1 = some .local)
    (h : ∀ g L' h₁, Fr h₀ L g m → Fr g L' h₁ (fun y => binds.reverse.lookup y) → News g L' h₁ news → Below A base (env :: outer) g → h₀.StaysIn g → (∀ p ∈ news, p.1 < L') →
      wpAny (model prog w) (A.deeper (envX qual scope L' f cdv cl)) (execs body (envX qual scope L' f cdv cl))
        (fun fl s' => LeaveT A₀ base env outer h₀ L m g R (match fl with | .ret v => v | _ => .none) s')
        (fun e s' => wpAny (model prog w) (A.deeper (envX qual scope L' f cdv cl)) (leaving (envX qual scope L' f cdv cl) e) (fun _ s'' => R (.error e) s'') (fun e' s'' => R (.error e') s'') s')
        { s with heap := h₁, toks := s.toks + binds.length })
    (hcell : ∀ x ∈ scope.names, x.2 ≠ .cell) (hco : scope.isCoroutine = false := by rfl) (hgen : scope.isGenerator = false := by rfl) (hk : scope.kind = .function := by rfl) : codeAny (model prog w) A (.call (.ref f) args) R s := by
  obtain ⟨FG, BG, st, lv⟩ := groundT (R := R) B F N hA hf hke
  refine codeAny_call_def (fd := fnX name qual params body scope cl dV kV doc pm an cdv ct) (body := body) (binds := binds) hroom ho hd (hlim.keeps F.keep) hcd rfl hbind hcell hloc (fun h₁ hns hk₁ => ?_) hco hgen hk
  exact wpAny_mono (h _ s.heap.objs.size h₁ FG ⟨hns, fun b o e => hk₁ b o (of_hideAll _ e), Nat.le_of_eq (hideAll_size _ _)⟩
    (fun p hp => ⟨hk₁ _ _ (N p hp).1, Nat.ne_of_lt (Heap.lt_size (N p hp).1), hideAll_none _ (List.mem_map_of_mem hp)⟩) BG st (fun p hp => Heap.lt_size (N p hp).1)) (fun fl s' hl => lv _ _ hl) fun _ _ y => y
theorem callT_cells (B : Below A₀ base outer h₀) (F : Fr h₀ L s.heap m) (N : News h₀ L s.heap news) (hlim : h₀.NoLimit) (hA : A.frames = some (env :: outer)) (hf : env.frame = some L) (hke : env.scope.kind = .function)
    (ho : s.heap.get? f = some fo) (hd : fo.data = .func (fnX name qual params body scope [] dV kV doc pm an cdv ct)) (hcd : s.heap.CodeRec cdv qual) (hroom : A.depth < recursionLimit)
    (hbind : BindsTo s (fnX name qual params body scope [] dV kV doc pm an cdv ct) args binds)
    (hkind : ∀ n, ∀ x ∈ binds, scope.names.lookup x.1 = some .local ∨ (scope.names.lookup x.1 = some .cell ∧ ((cellsFrom n scope.names []).lookup x.1).isSome = true))
    (hnd : ((cellsFrom 0 scope.names []).map (·.1)).Nodup)
    (h : ∀ g L' h₁ tk cells, Fr h₀ L g m → Fr g L' h₁ (bindL (envOfC qual scope L' f cdv).kindOf binds fun _ => none) → News g L' h₁ (cells ++ news) →
      CellsAre (bindC (envOfC qual scope L' f cdv).kindOf binds fun _ => none) (cellsFrom (L' + 1) scope.names []) cells → Below A base (env :: outer) g → h₀.StaysIn g → (∀ p ∈ news, p.1 < L') →
      wpAny (model prog w) (A.deeper (envOfC qual scope L' f cdv)) (execs body (envOfC qual scope L' f cdv))
        (fun fl s' => LeaveT A₀ base env outer h₀ L m g R (match fl with | .ret v => v | _ => .none) s')
        (fun e s' => wpAny (model prog w) (A.deeper (envOfC qual scope L' f cdv)) (leaving (envOfC qual scope L' f cdv) e) (fun _ s'' => R (.error e) s'') (fun e' s'' => R (.error e') s'') s')
        { s with heap := h₁, toks := tk })
    (hco : scope.isCoroutine = false := by rfl) (hgen : scope.isGenerator = false := by rfl) (hk : scope.kind = .function := by rfl) : codeAny (model prog w) A (.call (.ref f) args) R s := by
  obtain ⟨FG, BG, st, lv⟩ := groundT (R := R) B F N hA hf hke
  refine codeAny_call_function hroom ho hd hco hgen rfl hcd (hbind _ _ _ _ ?_)
  refine wpAny_newFunctionEnv_cells hk (hkind _) fun env' he s' x => ?_
  subst he
  refine ⟨(hlim.keeps F.keep).keeps x.toInCall.keep, codeAny_func ?_⟩
  obtain ⟨h₁, tk, rfl, _⟩ := x.done
  have hk₁ := x.toInCall.keep
  obtain ⟨cells, NC, Y⟩ := Cl.news (h₀ := s.heap) (Nat.le_refl _) fun n c hm => ⟨x.cell n c (lookup_of_mem_nodup (cellsFrom_names scope.names 0 (s.heap.objs.size + 1) [] [] rfl ▸ hnd) hm), x.above n c hm⟩
  refine wpAny_mono (h _ s.heap.objs.size h₁ tk cells FG ⟨x.toInCall.ns, fun b o e => hk₁ b o (of_hideAll _ e), Nat.le_of_eq (hideAll_size _ _)⟩ (fun p hp => ?_) Y BG st (fun p hp => Heap.lt_size (N p hp).1)) (fun fl s' hl => lv _ _ hl) fun _ _ y => y
  rcases List.mem_append.mp hp with hp | hp
  · refine ⟨(NC p hp).1, (NC p hp).2.1, ?_⟩
    cases q : (hideAll s.heap (news.map (·.1))).get? p.1 with
    | none => rfl
    | some o => have := of_hideAll _ q; rw [(NC p hp).2.2] at this; cases this
  · exact ⟨hk₁ _ _ (N p hp).1, Nat.ne_of_lt (Heap.lt_size (N p hp).1), hideAll_none _ (List.mem_map_of_mem hp)⟩
theorem callST_cells (B : Below A₀ base outer h₀) (F : Fr h₀ L s.heap m) (N : News h₀ L s.heap news) (hlim : h₀.NoLimit) (hA : A.frames = some (env :: outer)) (hf : env.frame = some L) (hke : env.scope.kind = .function)
    (ho : s.heap.get? f = some fo) (hd : fo.data = .func (fnX name qual params body scope [] dV kV doc pm an cdv ct)) (hcd : s.heap.CodeRec cdv qual) (hroom : A.depth < recursionLimit)
    (hbind : BindsTo s (fnX name qual params body scope [] dV kV doc pm an cdv ct) args binds)
    (hkind : ∀ n, ∀ x ∈ binds, scope.names.lookup x.1 = some .local ∨ (scope.names.lookup x.1 = some .cell ∧ ((cellsFrom n scope.names []).lookup x.1).isSome = true))
    (hnd : ((cellsFrom 0 scope.names []).map (·.1)).Nodup)
    (h : ∀ g L' h₁ tk cells, Fr h₀ L g m → Fr g L' h₁ (bindL (envOfC qual scope L' f cdv).kindOf binds fun _ => none) → News g L' h₁ (cells ++ news) →
      CellsAre (bindC (envOfC qual scope L' f cdv).kindOf binds fun _ => none) (cellsFrom (L' + 1) scope.names []) cells → Below A base (env :: outer) g → h₀.StaysIn g → (∀ p ∈ news, p.1 < L') →
      wpS (model prog w) (A.deeper (envOfC qual scope L' f cdv)) (execs body (envOfC qual scope L' f cdv))
        (fun fl s' => LeaveT A₀ base env outer h₀ L m g R (match fl with | .ret v => v | _ => .none) s')
        (fun e s' => wpAny (model prog w) (A.deeper (envOfC qual scope L' f cdv)) (leaving (envOfC qual scope L' f cdv) e) (fun _ s'' => R (.error e) s'') (fun e' s'' => R (.error e') s'') s')
        { s with heap := h₁, toks := tk })
    (hco : scope.isCoroutine = false := by rfl) (hgen : scope.isGenerator = false := by rfl) (hk : scope.kind = .function := by rfl) : codeS (model prog w) A (.call (.ref f) args) R s := by
  obtain ⟨FG, BG, st, lv⟩ := groundT (R := R) B F N hA hf hke
  refine codeS_call_function hroom ho hd hco hgen rfl hcd (hbind _ _ _ _ ?_)
  refine wpAny_newFunctionEnv_cells hk (hkind _) fun env' he s' x => ?_
  subst he
  refine ⟨(hlim.keeps F.keep).keeps x.toInCall.keep, codeS_func ?_⟩
  obtain ⟨h₁, tk, rfl, _⟩ := x.done
  have hk₁ := x.toInCall.keep
  obtain ⟨cells, NC, Y⟩ := Cl.news (h₀ := s.heap) (Nat.le_refl _) fun n c hm => ⟨x.cell n c (lookup_of_mem_nodup (cellsFrom_names scope.names 0 (s.heap.objs.size + 1) [] [] rfl ▸ hnd) hm), x.above n c hm⟩
  refine wpS_mono (h _ s.heap.objs.size h₁ tk cells FG ⟨x.toInCall.ns, fun b o e => hk₁ b o (of_hideAll _ e), Nat.le_of_eq (hideAll_size _ _)⟩ (fun p hp => ?_) Y BG st (fun p hp => Heap.lt_size (N p hp).1)) (fun fl s' hl => lv _ _ hl) fun _ _ y => y
  rcases List.mem_append.mp hp with hp | hp
  · refine ⟨(NC p hp).1, (NC p hp).2.1, ?_⟩
    cases q : (hideAll s.heap (news.map (·.1))).get? p.1 with
    | none => rfl
    | some o => have := of_hideAll _ q; rw [(NC p hp).2.2] at this; cases this
  · exact ⟨hk₁ _ _ (N p hp).1, Nat.ne_of_lt (Heap.lt_size (N p hp).1), hideAll_none _ (List.mem_map_of_mem hp)⟩
/-- the three entries over the written part -/
theorem code_defT
    (B : Below A₀ base outer h₀) (F : Fr h₀ L s.heap m) (X₀ : K.In h₀) (N : News h₀ L s.heap news) (T : Top p loose mean mg mb h₀) (hA : A.frames = some (env :: outer)) (hf : env.frame = some L) (hke : env.scope.kind = .function)
    (ho : K.lookup f = some ⟨oc, od, .func (fnOf name qual params body scope dV kV doc pm an cdv ct), osl⟩) (hcd : codeIn K cdv qual = true) (hroom : A.depth < recursionLimit)
    (hbind : BindsTo s (fnOf name qual params body scope dV kV doc pm an cdv ct) args binds) (hloc : ∀ y ∈ binds, scope.names.lookup y.1 = some .local)
    (h : ∀ g L' h₁, Fr h₀ L g m → Fr g L' h₁ (fun y => binds.reverse.lookup y) → News g L' h₁ news → Below A base (env :: outer) g → K.In g → Top p loose mean mg mb g →
      wpAny (model prog w) (A.deeper (envOf qual scope L' f cdv)) (execs body (envOf qual scope L' f cdv))
        (fun fl s' => LeaveT A₀ base env outer h₀ L m g R (match fl with | .ret v => v | _ => .none) s')
        (fun e s' => wpAny (model prog w) (A.deeper (envOf qual scope L' f cdv)) (leaving (envOf qual scope L' f cdv) e) (fun _ s'' => R (.error e) s'') (fun e' s'' => R (.error e') s'') s')
        { s with heap := h₁, toks := s.toks + binds.length })
    (hco : scope.isCoroutine = false) (hgen : scope.isGenerator = false) (hk : scope.kind = .function)
    (hcell : ∀ x ∈ scope.names, x.2 ≠ .cell) : codeAny (model prog w) A (.call (.ref f) args) R s :=
  callT_plain (cl := []) B F N T.nolimit hA hf hke ((X₀.keeps F.keep) _ _ ho) rfl (codeRec_of (X₀.keeps F.keep) hcd) hroom hbind hloc (fun g L' h₁ FG F' N' B' st _ => h g L' h₁ FG F' N' B' (X₀.keeps st) (T.keeps st)) hcell hco hgen hk
theorem code_defTC
    (B : Below A₀ base outer h₀) (F : Fr h₀ L s.heap m) (X₀ : K.In h₀) (N : News h₀ L s.heap news) (T : Top p loose mean mg mb h₀) (hA : A.frames = some (env :: outer)) (hf : env.frame = some L) (hke : env.scope.kind = .function)
    (ho : K.lookup f = some ⟨oc, od, .func (fnOf name qual params body scope dV kV doc pm an cdv ct), osl⟩) (hcd : codeIn K cdv qual = true) (hroom : A.depth < recursionLimit)
    (hbind : BindsTo s (fnOf name qual params body scope dV kV doc pm an cdv ct) args binds) (hkind : (binds.all fun y => scope.names.lookup y.1 == some .local || scope.names.lookup y.1 == some .cell) = true)
    (hnd : ((cellsFrom 0 scope.names []).map (·.1)).Nodup)
    (h : ∀ g L' h₁ tk cells, Fr h₀ L g m → Fr g L' h₁ (bindL (envOfC qual scope L' f cdv).kindOf binds fun _ => none) → News g L' h₁ (cells ++ news) →
      CellsAre (bindC (envOfC qual scope L' f cdv).kindOf binds fun _ => none) (cellsFrom (L' + 1) scope.names []) cells → Below A base (env :: outer) g → K.In g → Top p loose mean mg mb g → (∀ p ∈ news, p.1 < L') →
      wpAny (model prog w) (A.deeper (envOfC qual scope L' f cdv)) (execs body (envOfC qual scope L' f cdv))
        (fun fl s' => LeaveT A₀ base env outer h₀ L m g R (match fl with | .ret v => v | _ => .none) s')
        (fun e s' => wpAny (model prog w) (A.deeper (envOfC qual scope L' f cdv)) (leaving (envOfC qual scope L' f cdv) e) (fun _ s'' => R (.error e) s'') (fun e' s'' => R (.error e') s'') s')
        { s with heap := h₁, toks := tk })
    (hco : scope.isCoroutine = false) (hgen : scope.isGenerator = false) (hk : scope.kind = .function) : codeAny (model prog w) A (.call (.ref f) args) R s :=
  callT_cells B F N T.nolimit hA hf hke ((X₀.keeps F.keep) _ _ ho) rfl (codeRec_of (X₀.keeps F.keep) hcd) hroom hbind (kindsX hkind) hnd (fun g L' h₁ tk cells FG F' N' Y B' st l => h g L' h₁ tk cells FG F' N' Y B' (X₀.keeps st) (T.keeps st) l) hco hgen hk
theorem codeS_defTC
    (B : Below A₀ base outer h₀) (F : Fr h₀ L s.heap m) (X₀ : K.In h₀) (N : News h₀ L s.heap news) (T : Top p loose mean mg mb h₀) (hA : A.frames = some (env :: outer)) (hf : env.frame = some L) (hke : env.scope.kind = .function)
    (ho : K.lookup f = some ⟨oc, od, .func (fnOf name qual params body scope dV kV doc pm an cdv ct), osl⟩) (hcd : codeIn K cdv qual = true) (hroom : A.depth < recursionLimit)
    (hbind : BindsTo s (fnOf name qual params body scope dV kV doc pm an cdv ct) args binds) (hkind : (binds.all fun y => scope.names.lookup y.1 == some .local || scope.names.lookup y.1 == some .cell) = true)
    (hnd : ((cellsFrom 0 scope.names []).map (·.1)).Nodup)
    (h : ∀ g L' h₁ tk cells, Fr h₀ L g m → Fr g L' h₁ (bindL (envOfC qual scope L' f cdv).kindOf binds fun _ => none) → News g L' h₁ (cells ++ news) →
      CellsAre (bindC (envOfC qual scope L' f cdv).kindOf binds fun _ => none) (cellsFrom (L' + 1) scope.names []) cells → Below A base (env :: outer) g → K.In g → Top p loose mean mg mb g → (∀ p ∈ news, p.1 < L') →
      wpS (model prog w) (A.deeper (envOfC qual scope L' f cdv)) (execs body (envOfC qual scope L' f cdv))
        (fun fl s' => LeaveT A₀ base env outer h₀ L m g R (match fl with | .ret v => v | _ => .none) s')
        (fun e s' => wpAny (model prog w) (A.deeper (envOfC qual scope L' f cdv)) (leaving (envOfC qual scope L' f cdv) e) (fun _ s'' => R (.error e) s'') (fun e' s'' => R (.error e') s'') s')
        { s with heap := h₁, toks := tk })
    (hco : scope.isCoroutine = false) (hgen : scope.isGenerator = false) (hk : scope.kind = .function) : codeS (model prog w) A (.call (.ref f) args) R s :=
  callST_cells B F N T.nolimit hA hf hke ((X₀.keeps F.keep) _ _ ho) rfl (codeRec_of (X₀.keeps F.keep) hcd) hroom hbind (kindsX hkind) hnd (fun g L' h₁ tk cells FG F' N' Y B' st l => h g L' h₁ tk cells FG F' N' Y B' (X₀.keeps st) (T.keeps st) l) hco hgen hk
end
end Mine
end TTurn
section TUtil
open PySem PySem.W PySem.Calls PyProof.Rows
set_option Elab.async false
set_option maxRecDepth 100000
namespace Mine
/-- a sign at which the walk halts -/
structure Stop (p : Prop) : Prop where
  out : p
section
variable {h₀ h g' : Heap} {L : Addr} {m : Str → Option Value} {news l : List (Addr × Obj)} {a b : Addr × Obj}
theorem news_cons (N : News h₀ L h news) (N' : News h₀ L h l) (ha : a ∈ l) : News h₀ L h (a :: news) := fun p hp => by
  rcases List.mem_cons.mp hp with rfl | hp
  · exact N' _ ha
  · exact N _ hp
theorem news_more1 (N : News h₀ L h news) (ha : a ∈ news) : News h₀ L h (a :: news) := news_cons N N ha
theorem news_more2 (N : News h₀ L h news) (ha : a ∈ news) (hb : b ∈ news) : News h₀ L h (a :: b :: news) := news_cons (news_cons N N hb) N ha
theorem news_tail (N : News h₀ L h (a :: news)) : News h₀ L h news := fun p hp => N p (.tail _ hp)
theorem news_tail2 (N : News h₀ L h (a :: b :: news)) : News h₀ L h news := news_tail (news_tail N)
theorem news_app_r (N : News h₀ L h (l ++ news)) : News h₀ L h news := fun p hp => N p (List.mem_append_right _ hp)
theorem news_app_l (N : News h₀ L h (l ++ news)) : News h₀ L h l := fun p hp => N p (List.mem_append_left _ hp)
theorem allLt_get {d : Addr} {l : List (Addr × Obj)} (h : AllLt d l) (q : Addr × Obj) (hq : q ∈ l) : q.1 < d := by
    induction l with
    | nil => cases hq
    | cons a r ih =>
      rcases List.mem_cons.mp hq with rfl | hq
      · exact h.1
      · exact ih h.2 hq
theorem news_ne (N : News h₀ L h news) (ha : a ∈ news) (hb : b ∈ news) (hd : a.2.cls ≠ b.2.cls) : a.1 ≠ b.1 := fun e => by
  have h1 := (N a ha).1
  have h2 := (N b hb).1
  rw [e, h2] at h1
  exact hd (congrArg (·.cls) (Option.some.inj h1).symm)
theorem fr_map {x : Str} {v : Value} (F : Fr h₀ L h m) (hm : m x = some v) : Fr h₀ L h (fun y => if y = x then some v else m y) := by
  have e : (fun y => if y = x then some v else m y) = m := by
    funext y
    by_cases q : y = x
    · rw [if_pos q, q, hm]
    · rw [if_neg q]
  rw [e]; exact F
theorem news_drop23 {c : Addr × Obj} (N : News h₀ L h (a :: b :: c :: news)) : News h₀ L h (a :: news) := news_cons (news_tail (news_tail (news_tail N))) N (.head _)
end
theorem lin {a b c k : Nat} (h : a < b) (hk : b + k ≤ c) : a + k < c := Nat.lt_of_lt_of_le (Nat.add_lt_add_right h k) hk
theorem lt2 {a b c : Prop} (h : a ∧ b ∧ c) : b := h.2.1
theorem lt3 {a b c d : Prop} (h : a ∧ b ∧ c ∧ d) : c := h.2.2.1
theorem lt4 {a b c d e : Prop} (h : a ∧ b ∧ c ∧ d ∧ e) : d := h.2.2.2.1
theorem lt5 {a b c d e f : Prop} (h : a ∧ b ∧ c ∧ d ∧ e ∧ f) : e := h.2.2.2.2.1
theorem up3 {a c : Nat} (h : a < c) : a + 3 < c + 3 := Nat.add_lt_add_right h 3
theorem up {a c : Nat} (h : a < c) : a + 1 < c + 1 := Nat.succ_lt_succ h
/-- the addresses of the functions at which a walk halts: they have a contract of their own -/
noncomputable def halts : List Nat := [177, 268, 457, 499, 690, 863, 884, 895, 927, 938, 945, 952, 959, 1055, 1062, 1069, 1076, 1090, 1168, 1210, 1252, 1259, 1266, 1273, 1280]
section
variable {M : Model} {A : Around} {Q : Value → Shared → Prop} {Qf : Flow → Shared → Prop} {E : Value → Shared → Prop} {s : Shared} {a : Addr} {v : List Value} {kw : List (Str × Value)}
theorem stop_call (_ : halts.contains a = true) (h : Stop (wpAny M A (call (.ref a) v kw) Q E s)) : wpAny M A (call (.ref a) v kw) Q E s := h.out
theorem stop_iter {Q} (h : Stop (wpAny M A (pyIter (.ref a)) Q E s)) : wpAny M A (pyIter (.ref a)) Q E s := h.out
theorem stop_ex {α : Sort u} {P : α → Prop} (h : Stop (Exists P)) : Exists P := h.out
theorem stop_for {env : Env} {x1 x2 x3 x4 x5} (h : Stop (wpAny M A (exec (Stmt.For x1 x2 x3 x4 x5) env) Qf E s)) : wpAny M A (exec (Stmt.For x1 x2 x3 x4 x5) env) Qf E s := h.out
theorem stop_lc {env : Env} {x1 x2 x3 x4} (h : Stop (wpAny M A (eval (PySem.Expr.ListComp x1 x2 x3 x4) env) Q E s)) : wpAny M A (eval (PySem.Expr.ListComp x1 x2 x3 x4) env) Q E s := h.out
theorem stop_lam {env : Env} {x1 x2 x3 x4} (h : Stop (wpAny M A (eval (PySem.Expr.Lambda x1 x2 x3 x4) env) Q E s)) : wpAny M A (eval (PySem.Expr.Lambda x1 x2 x3 x4) env) Q E s := h.out
end
end Mine
end TUtil
section Rules
local macro_rules | `(tactic| k_room) => `(tactic| (simp only [PyProof.Rows.depth_under_make, PySem.W.depth_under_kw, PySem.W.depth_in1, PyProof.Rows.depth_deeper, PyProof.Rows.depth_caller]; refine Nat.lt_of_lt_of_le (m := 1000) ?_ (by decide); walk_at "my fin"))
local macro_rules | `(tactic| k_all) => `(tactic| assumption)
local macro_rules | `(tactic| k_ne) => `(tactic| (refine PySem.W.neN ?_; (first | assumption | (refine Nat.ne_of_gt ?_; walk_at "my lt") | (refine Nat.ne_of_lt ?_; walk_at "my lt"))))
local macro_rules | `(tactic| walk_at "my lt") => `(tactic| first | assumption | (refine' And.left ?h; (case h => assumption)) | (refine' Mine.lt2 ?h; (case h => assumption)) | (refine' Mine.lt3 ?h; (case h => assumption)) | (refine' Mine.lt4 ?h; (case h => assumption)) | (refine' Mine.lt5 ?h; (case h => assumption)))
local macro_rules | `(tactic| walk_at "call ref") => `(tactic| (k_here; with_reducible refine' Mine.stop_call ?h ?_; (case h => decide)))
local macro_rules | `(tactic| walk_at "exec For") => `(tactic| (k_here; with_reducible refine' Mine.stop_for ?_))
local macro_rules | `(tactic| walk_at "exec For Name Name cons nil") => `(tactic| walk_at "exec For")
local macro_rules | `(tactic| walk_at "exec For Name Tuple cons nil") => `(tactic| walk_at "exec For")
local macro_rules | `(tactic| walk_at "exec For Tuple Name cons nil") => `(tactic| walk_at "exec For")
local macro_rules | `(tactic| walk_at "exec For Tuple Attribute cons nil") => `(tactic| walk_at "exec For")
local macro_rules | `(tactic| walk_at "pyIter ref") => `(tactic| (k_here; with_reducible refine' Mine.stop_iter ?_))
local macro_rules | `(tactic| walk_at "Exists") => `(tactic| (k_here; with_reducible refine' Mine.stop_ex ?_))
local macro_rules | `(tactic| walk_at "eval ListComp") => `(tactic| (k_here; with_reducible refine' Mine.stop_lc ?_))
local macro_rules | `(tactic| walk_at "eval Lambda") => `(tactic| (k_here; with_reducible refine' Mine.stop_lam ?_))
local macro_rules | `(tactic| walk_at "callWith ref") => `(tactic| (k_here; k_dflt (refine' PySem.W.callWith_K ?k1 ?k2 ?_ ?he ?hp; (case k1 => k_asm); (case k2 => k_is); (case he => exact rfl); (case hp => kernel_rfl); k_whole)))
local macro_rules | `(tactic| walk_at "my units") => `(tactic| (refine Nat.lt_trans (m := 3000) ?_ (by decide); (try simp only [PyProof.Rows.units_in1, PyProof.Rows.units_deeper, PySem.Around.mark_units, PyProof.Rows.units_caller]); (try dsimp only); walk_at "my fin"))
local macro_rules | `(tactic| walk_at "my fin") => `(tactic| ((repeat (first | refine Mine.up3 ?_ | refine Mine.up ?_)); refine' Nat.lt_of_lt_of_le ?h ?k; (case h => assumption); (case k => decide)))
section TCLam
open PySem PySem.W PyProof.Rows PySem.Calls
set_option Elab.async false
set_option maxRecDepth 100000
namespace Mine.Internal
section
variable {M : Model} {A : Around} {E : Value → Shared → Prop} {s : Shared} {h₀ : Heap} {L a c P : Addr} {m mg mb : Str → Option Value} {cn : Str} {cs : Scope} {ccd : Value} {cl : List (Str × Addr)}
  {p : Program} {loose : List Str} {mean : ExcName → Option Value} {name qual : Str} {params : Arguments} {body : PySem.Expr} {scope : Scope} {ps : Array Value} {pos : Pos} {firstLine : Nat} {clos : List (Str × Addr)}
/-- a lambda is made, whether its code is in the table already or not: the table may have grown, its code is among the news -/
theorem kla_any {Q : Value → Shared → Prop} {news l : List (Addr × Obj)} {g : Obj → List (Addr × Obj)} (F : Fr h₀ L s.heap m) (N : News h₀ L s.heap news) (T : Top p loose mean mg mb h₀) (C : CodeHd h₀ c P) (hcd : ccd = .ref c) (U : UpdF P (tabObj ps) news g) (ht : TriplesOk ps.toList)
    (hcl : closureFor scope (envX cn cs L a ccd cl) = pure clos)
    (hc : codeAmong pos ps.toList = none ∨ ∃ c' oc vs t, codeAmong pos ps.toList = some (.ref c') ∧ (c', oc) ∈ l ∧ oc.data = .fields vs ∧ vs[1]? = some (.str qual t))
    (h : ∀ f c' oc vs t ctv h' tk ps' own, Fr h₀ L h' m →
      News h₀ L h' ((f, kla_obj name qual params body scope clos ((mg "__name__").getD .none) c' ctv) :: (g (tabObj ps') ++ own)) →
      oc.data = .fields vs → vs[1]? = some (.str qual t) → (c', oc) ∈ l ++ own →
      ((ps' = ps ∧ own = [] ∧ codeAmong pos ps.toList = some (.ref c')) ∨ (codeAmong pos ps.toList = none ∧ ps' = ps ++ #[rawInt pos.line, rawInt pos.col, .ref c'] ∧ own = [(c', oc)] ∧ ∀ q ∈ news, q.1 < c')) → (∀ q ∈ news, q.1 < f) →
      Q (.ref f) { s with heap := h', toks := tk }) :
    wpAny M A (makeFunction name qual params (.expr body) scope (envX cn cs L a ccd cl) [] [] [] pos firstLine) Q E s := by
  rcases hc with hn | ⟨c', oc, vs, t, hf, hm, e1, e2⟩
  · refine kla_nest F N T C hcd U ht hn hcl fun f c' oc vs t ctv h' tk F' N' e1 e2 l1 l2 => ?_
    refine h f c' oc vs t ctv h' tk _ [(c', oc)] F' ?_ e1 e2 (List.mem_append_right _ (.head _)) (.inr ⟨hn, rfl, rfl, l1⟩) (fun q hq => Nat.lt_trans (l1 q hq) l2)
    intro z hz
    refine N' z ?_
    rcases List.mem_cons.mp hz with rfl | hz
    · exact .head _
    · refine .tail _ ?_
      rcases List.mem_append.mp hz with hz | hz
      · exact .tail _ hz
      · obtain rfl := List.mem_singleton.mp hz
        exact .head _
  · obtain ⟨pre, rest, e, hg, _, _⟩ := U.split
    refine kla_hit F N T C hcd (by rw [e]; exact List.mem_append_right _ (.head _)) ht hf hcl fun f ctv h' tk F' N' l1 =>
      h f c' oc vs t ctv h' tk ps [] F' ?_ e1 e2 (by rw [List.append_nil]; exact hm) (.inl ⟨rfl, rfl, hf⟩) l1
    rw [List.append_nil, hg, ← e]; exact N'
end
end Mine.Internal
end TCLam
section TBCut
open PySem PySem.W PySem.Calls PyProof.Rows PyProof.V PySem.Spec
set_option Elab.async false
set_option maxRecDepth 100000
set_option maxHeartbeats 4000000
namespace Mine.Internal
theorem clip_nat (n : Nat) {k : Int} (hk : 0 ≤ k) : clipAt n k = min k.toNat n := by
  obtain ⟨j, rfl⟩ := Int.eq_ofNat_of_zero_le hk
  exact clipAt_nat n j
theorem picked_take {b : Array UInt8} {k : Int} (hk : 0 ≤ k) : KBy.picked b none (some k) = (b.toList.take k.toNat).toArray := by
  rw [KBc.picked_eq]
  simp only [Option.elim, clip_nat _ hk, List.drop_zero, Nat.sub_zero]
  congr 1
  rcases Nat.le_total k.toNat b.size with h | h
  · rw [Nat.min_eq_left h]
  · rw [Nat.min_eq_right h, List.take_of_length_le (by simp), List.take_of_length_le (by simpa using h)]
theorem picked_all {b : Array UInt8} {k : Int} (hk : (b.size : Int) ≤ k) : KBy.picked b none (some k) = b := by
  rw [picked_take (by omega), List.take_of_length_le (by simp; omega), Array.toArray_toList]
theorem picked_drop {b : Array UInt8} {k : Int} (hk : 0 ≤ k) : KBy.picked b (some k) none = (b.toList.drop k.toNat).toArray := by
  rw [KBc.picked_eq]
  simp only [Option.elim, clip_nat _ hk]
  congr 1
  rw [List.take_of_length_le (by simp)]
  rcases Nat.le_total k.toNat b.size with h | h
  · rw [Nat.min_eq_left h]
  · rw [Nat.min_eq_right h, List.drop_of_length_le (by simp), List.drop_of_length_le (by simpa using h)]
theorem picked_zero {b : Array UInt8} : KBy.picked b (some 0) none = b := by
  rw [picked_drop (by omega)]; simp
theorem picked_mid {b : Array UInt8} {i j : Int} (hi : 0 ≤ i) (hj : i ≤ j) : KBy.picked b (some i) (some j) = ((b.toList.drop i.toNat).take (j - i).toNat).toArray := by
  obtain ⟨i, rfl⟩ := Int.eq_ofNat_of_zero_le hi
  obtain ⟨j, rfl⟩ := Int.eq_ofNat_of_zero_le (Int.le_trans hi hj)
  rw [KBc.picked_eq]
  simp only [Option.elim, clip_nat _ hi, clip_nat _ (Int.le_trans hi hj), Int.toNat_natCast, Int.toNat_sub]
  congr 1
  rcases Nat.le_total i b.size with h | h
  · rw [Nat.min_eq_left h]
    rcases Nat.le_total j b.size with h2 | h2
    · rw [Nat.min_eq_left h2]
    · rw [Nat.min_eq_right h2, List.take_of_length_le (by simp), List.take_of_length_le (by rw [List.length_drop, Array.length_toList]; exact Nat.sub_le_sub_right h2 i)]
  · rw [Nat.min_eq_right h, List.drop_of_length_le (by simp), List.drop_of_length_le (by simpa using h)]
    simp
end Mine.Internal
end TBCut
section TBMake
open PySem PySem.W PySem.Calls PyProof.Rows PyProof.V PySem.Spec Builtin Builtin.Bytes
set_option Elab.async false
set_option maxRecDepth 100000
set_option maxHeartbeats 4000000
namespace Mine.Internal
theorem bytes_bytes : typeLookup (.type "bytes") "__bytes__" = pure (some (.builtin "bytes.__bytes__")) := by rw [typeLookup_type, builtinLookup_eq_fast]; kernel_rfl
theorem ba_no_bytes : typeLookup (.type "bytearray") "__bytes__" = pure none := by rw [typeLookup_type, builtinLookup_eq_fast]; kernel_rfl
theorem ba_no_index : typeLookup (.type "bytearray") "__index__" = pure none := by rw [typeLookup_type, builtinLookup_eq_fast]; kernel_rfl
theorem ba_buffer : typeLookup (.type "bytearray") "__buffer__" = pure (some (.builtin "bytearray.__buffer__")) := by rw [typeLookup_type, builtinLookup_eq_fast]; kernel_rfl
theorem buf_ends : ("bytearray.__buffer__").endsWith ("." ++ "__buffer__") = true := by decide +kernel
theorem buf_drop : ("bytearray.__buffer__").dropRight ("__buffer__".length + 1) = "bytearray" := by decide +kernel
section
variable {prog : Program} {w : World} {A : Around} {E : Value → Shared → Prop} {s : Shared}
theorem new_bytes {b : Array UInt8} {t : Tok} {Q : Value → Shared → Prop} (hQ : ∀ t' k, Q (.bytes b t') { s with toks := k }) :
    codeAny (model prog w) A (.call (.builtin "bytes.__new__") ⟨[.type "bytes", .bytes b t], []⟩) (wants Q E) s := by
  refine codeAny_of_tree ?_
  show wpAny _ A.in1 (do checkBuiltinCall "bytes.__new__" ⟨[.type "bytes", .bytes b t], []⟩; again (.builtin "bytes.__new__" ⟨[.type "bytes", .bytes b t], []⟩)) _ _ s
  refine wpAny_bind (wpAny_of_eq (F.bm_newCall _) (wpAny_pure ⟨plainId_quiet F.bm_plain _, codeAny_builtin F.bm_entry ?_⟩))
  rw [Around.under_plainId F.bm_plain _]
  have hT : s.TypeIs (.bytes b t) "bytes" := PySem.W.typeIs_bytes _ _ _
  unfold Builtin.«bytes.__new__»
  refine wpAny_bind (wpAny_of_eq (a := true) rfl ?_)
  refine bm_if_false rfl ?_
  refine wpAny_bind (wpAny_of_eq F.bm_sub ?_)
  refine bm_if_false rfl ?_
  refine wpAny_bind (wpAny_of_eq (F.bm_bind _) ?_)
  refine wpAny_bind (wpAny_of_eq (a := ()) rfl ?_)
  refine wpAny_bind (wpAny_of_eq (a := ()) rfl ?_)
  refine bm_if_false rfl ?_
  refine wpAny_bind (wpAny_specialOf hT bytes_bytes ?_)
  dsimp only
  refine wpAny_bind (wpAny_rule ?_)
  refine wpAny_bind (wpAny_typeOf hT ?_)
  refine bm_if_true rfl ?_
  first
    | exact wpAny_pure (hQ t s.toks)
    | (refine bm_if_true rfl ?_; exact wpAny_pure (hQ t s.toks))
    | exact wpAny_bind (wpAny_pure (wpAny_pure (hQ t s.toks)))
theorem call_bytes_bytes {b : Array UInt8} {t : Tok} {Q : Value → Shared → Prop} (hQ : ∀ t' k, Q (.bytes b t') { s with toks := k }) : wpAny (model prog w) A (call (.type "bytes") [.bytes b t]) Q E s := by
  refine callType_codes (Q₁ := fun obj s₁ => s₁.TypeIs obj "bytes" ∧ Q obj s₁) F.bm_called (F.bm_typeCall _) F.entry_object_init
    (new_bytes fun t' k => ⟨PySem.W.typeIs_bytes _ _ _, hQ t' k⟩) fun obj s₁ h₁ => ?_
  exact ⟨h₁.1, F.args_object_init_2 obj _, object_init_meets F.bm_called.init.lookup F.bm_called.made (by decide) prog w A.in1 _ s₁ ⟨h₁.1, rfl, h₁.2⟩⟩
theorem new_ba {a : Addr} {b : Array UInt8} {Q : Value → Shared → Prop} (ho : s.heap.get? a = some (baObj b)) (hz : b.size ≤ sizeLine) (hQ : ∀ t' k, Q (.bytes b t') { s with toks := k }) :
    codeAny (model prog w) A (.call (.builtin "bytes.__new__") ⟨[.type "bytes", .ref a], []⟩) (wants Q E) s := by
  refine codeAny_of_tree ?_
  show wpAny _ A.in1 (do checkBuiltinCall "bytes.__new__" ⟨[.type "bytes", .ref a], []⟩; again (.builtin "bytes.__new__" ⟨[.type "bytes", .ref a], []⟩)) _ _ s
  refine wpAny_bind (wpAny_of_eq (F.bm_newCall _) (wpAny_pure ⟨plainId_quiet F.bm_plain _, codeAny_builtin F.bm_entry ?_⟩))
  rw [Around.under_plainId F.bm_plain _]
  have hT : s.TypeIs (.ref a) "bytearray" := ⟨_, ho, rfl⟩
  unfold Builtin.«bytes.__new__»
  refine wpAny_bind (wpAny_of_eq (a := true) rfl ?_)
  refine bm_if_false rfl ?_
  refine wpAny_bind (wpAny_of_eq F.bm_sub ?_)
  refine bm_if_false rfl ?_
  refine wpAny_bind (wpAny_of_eq (F.bm_bind _) ?_)
  refine wpAny_bind (wpAny_of_eq (a := ()) rfl ?_)
  refine wpAny_bind (wpAny_of_eq (a := ()) rfl ?_)
  refine bm_if_false rfl ?_
  refine wpAny_bind (wpAny_specialOf hT ba_no_bytes ?_)
  refine wpAny_bind (wpAny_bind ?_)
  show wpAny _ _ (load a >>= _) _ _ _
  refine wpAny_bind (wpAny_load ho ?_)
  refine wpAny_pure (wpAny_pure ?_)
  refine bm_if_false rfl ?_
  refine wpAny_bind (wpAny_specialOf hT ba_no_index ?_)
  refine bm_if_true rfl ?_
  first
    | show wpAny _ _ (Builtin.Bytes.buffer? "bytes.__new__" (.ref a) true >>= _) _ _ _
    | (refine wpAny_bind ?_; show wpAny _ _ (Builtin.Bytes.buffer? "bytes.__new__" (.ref a) true >>= _) _ _ _)
  refine wpAny_bind ?_
  unfold Builtin.Bytes.buffer?
  refine wpAny_bind (wpAny_specialOf hT ba_buffer ?_)
  dsimp only
  refine wpAny_bind (m := slotIsOwn _ _) ?_
  unfold slotIsOwn
  refine wpAny_bind (wpAny_specialOf hT ba_buffer ?_)
  dsimp only
  rw [buf_ends]
  simp only [Bool.not_true, Bool.false_eq_true, if_false]
  rw [buf_drop]
  refine wpAny_isInstance hT sub_ba ?_
  simp only [Bool.not_true, Bool.false_eq_true, if_false]
  refine wpAny_bind (wpAny_specialOf hT ba_buffer ?_)
  (try dsimp only)
  refine wpAny_bind (own_ba hT ?_)
  rw [if_neg Bool.false_ne_true]
  refine wpAny_bind (payload_ba ho ?_)
  refine wpAny_pure ?_
  dsimp only
  refine wpAny_bind (wpAny_rule ?_)
  refine wpAny_bind (wpAny_mkBytes ?_ hz)
  first
    | exact wpAny_pure (hQ _ _)
    | (refine bm_if_true rfl ?_; exact wpAny_pure (hQ _ _))
    | exact wpAny_bind (wpAny_pure (wpAny_pure (hQ _ _)))
    | (refine bm_if_true rfl ?_; exact wpAny_bind (wpAny_pure (wpAny_pure (hQ _ _))))
theorem call_bytes_ba {a : Addr} {b : Array UInt8} {Q : Value → Shared → Prop} (ho : s.heap.get? a = some (baObj b)) (hz : b.size ≤ sizeLine) (hQ : ∀ t' k, Q (.bytes b t') { s with toks := k }) : wpAny (model prog w) A (call (.type "bytes") [.ref a]) Q E s := by
  refine callType_codes (Q₁ := fun obj s₁ => s₁.TypeIs obj "bytes" ∧ Q obj s₁) F.bm_called (F.bm_typeCall _) F.entry_object_init
    (new_ba ho hz fun t' k => ⟨PySem.W.typeIs_bytes _ _ _, hQ t' k⟩) fun obj s₁ h₁ => ?_
  exact ⟨h₁.1, F.args_object_init_2 obj _, object_init_meets F.bm_called.init.lookup F.bm_called.made (by decide) prog w A.in1 _ s₁ ⟨h₁.1, rfl, h₁.2⟩⟩
end
end Mine.Internal
end TBMake
section TBSlice
open PySem PySem.W PySem.Calls PyProof.Rows PyProof.V PySem.Spec Builtin Builtin.Bytes
set_option Elab.async false
set_option maxRecDepth 100000
set_option maxHeartbeats 4000000
namespace Mine.Internal
theorem slot_ba_getitem : Slot "bytearray" "__getitem__" "bytearray.__getitem__" :=
  .of (owner := "bytearray") (n := "__getitem__") (by rw [typeLookup_type, builtinLookup_eq_fast]; kernel_rfl) (by decide +kernel) (by decide +kernel) (by decide +kernel)
    (by first | exact .inl (by decide +kernel) | exact .inr (by decide +kernel)) sub_ba
theorem slot_ba_len : Slot "bytearray" "__len__" "bytearray.__len__" :=
  .of (owner := "bytearray") (n := "__len__") (by rw [typeLookup_type, builtinLookup_eq_fast]; kernel_rfl) (by decide +kernel) (by decide +kernel) (by decide +kernel)
    (by first | exact .inl (by decide +kernel) | exact .inr (by decide +kernel)) sub_ba
theorem entry_ba_getitem : entryFor table "bytearray.__getitem__" = some Builtin.«bytearray.__getitem__» := entryFor_of_tree (by kernel_rfl)
theorem entry_ba_len : entryFor table "bytearray.__len__" = some Builtin.«bytearray.__len__» := entryFor_of_tree (by kernel_rfl)
theorem args_ba_getitem (a b : Value) : argsOk "bytearray.__getitem__" ⟨[a, b], []⟩ := by unfold argsOk; kernel_rfl
theorem args_ba_len (a : Value) : argsOk "bytearray.__len__" ⟨[a], []⟩ := by unfold argsOk; kernel_rfl
theorem meets_ba_slice (b : Array UInt8) (x q : Addr) {l u : Value} {lo hi : Option Int} (hl : IsPart l lo) (hu : IsPart u hi) :
    Meets («bytearray.__getitem__» ⟨[.ref x, .ref q], []⟩) (fun _ R s => s.heap.get? x = some (baObj b) ∧ s.heap.IsSliceOf q l u .none ∧ (KBy.picked b lo hi).size ≤ sizeLine ∧ R (.ok (.ret (.ref s.heap.objs.size))) { s with heap := s.heap.push (baObj (KBy.picked b lo hi)) }) := by
  refine .of_wp fun prog w A R s hS => ?_
  obtain ⟨hx, ⟨o, ho, hc, hd⟩, hsz, h⟩ := hS
  have hT : s.TypeIs (.ref q) "slice" := ⟨o, ho, hc⟩
  show wpAny _ _ (Bytes.subscript? (.ref q) >>= fun r => _) _ _ s
  refine wpAny_bind ?_
  unfold Bytes.subscript?
  refine wpAny_bind (wpAny_specialOf hT slice_no_index (wpAny_pure ?_))
  refine wpAny_bind (wpAny_typeOf hT ?_)
  rw [if_neg (by decide)]
  show wpAny _ _ (Bytes.sliceParts (.ref q) >>= fun r => _) _ _ s
  refine wpAny_bind ?_
  unfold Bytes.sliceParts
  refine wpAny_bind (wpAny_field (x := .none) ho hd rfl ?_)
  kby_none
  refine wpAny_ite (KBy.ite_no (show ¬ ((Value.none == rawInt 0) = true) from Bool.false_ne_true) ?_)
  refine wpAny_bind (wpAny_field (x := l) ho hd rfl ?_)
  have go : wpAny (model prog w) A.in1 (sliceIndices (rawPart lo) (rawPart hi) (rawPart none) b.size) (fun r s' => r = sliceBounds lo hi none b.size ∧ s' = s) (fun _ _ => False) s :=
    wpAny_of_eq (sliceIndices_raw lo hi none b.size (fun e => nomatch e)) ⟨rfl, rfl⟩
  cases hl <;> cases hu <;> (first
    | (kby_none; (refine wpAny_bind (wpAny_field (x := .none) ho hd rfl ?_)); kby_none)
    | (kby_none; (refine wpAny_bind (wpAny_field (x := .int _ _) ho hd rfl ?_)); kby_int)
    | (kby_int; (refine wpAny_bind (wpAny_field (x := .none) ho hd rfl ?_)); kby_none)
    | (kby_int; (refine wpAny_bind (wpAny_field (x := .int _ _) ho hd rfl ?_)); kby_int)) <;> refine wpAny_pure ?_
  all_goals
    refine wpAny_bind (payload_ba hx ?_)
    refine wpAny_bind (wpAny_mono go (fun r s' hr => ?_) fun _ _ e => e.elim)
    obtain ⟨hr1, hr2⟩ := hr
    subst hr1 hr2
    unfold newBytearray
    refine wpAny_bind (wpAny_newObj_type ?_ hsz)
    exact wpAny_pure ⟨_, rfl, h⟩
section
variable {prog : Program} {w : World} {A : Around} {E : Value → Shared → Prop} {s : Shared} {value slice : PySem.Expr} {b : Array UInt8} {h₀ : Heap} {L x : Addr} {m : PySem.Str → Option Value} {news : List (Addr × Obj)} {l u : Value} {lo hi : Option Int} {Q : Value → Shared → Prop}
theorem slice_ba (hF : Fr h₀ L s.heap m) (hN : News h₀ L s.heap news) (hm : (x, baObj b) ∈ news) (hl : IsPart l lo) (hu : IsPart u hi) (hz : b.size ≤ 1000)
    (h : ∀ r h', Fr h₀ L h' m → News h₀ L h' ((r, baObj (KBy.picked b lo hi)) :: news) → (∀ p ∈ news, p.1 < r) → Q (.ref r) { s with heap := h' })
    (hs : subscripted slice false (.ref x) (.ref s.heap.objs.size) = operate [.ref s.heap.objs.size, .ref x] (getItem (.ref x) (.ref s.heap.objs.size)) := by with_unfolding_all rfl) :
    wpAny (model prog w) A (subscriptTail value slice (.ref x) (.ref s.heap.objs.size)) Q E { s with heap := s.heap.push { cls := .type "slice", data := .fields #[l, u, .none] } } := by
  have F' := hF.push { cls := .type "slice", data := .fields #[l, u, .none] }
  have N' := News.pushKeep hN { cls := .type "slice", data := .fields #[l, u, .none] }
  have hx := (N' _ hm).1
  refine tail_any (T := "bytearray") ⟨_, hx, rfl⟩ slot_ba_getitem.lookup (getItem_meets ⟨_, hx, rfl⟩ (by decide) slot_ba_getitem entry_ba_getitem (args_ba_getitem _ _) (meets_ba_slice b x _ hl hu)
    ⟨hx, Heap.IsSliceOf.new _ _ _ _, Nat.le_trans (KBc.size_picked_le b lo hi) (Nat.le_trans hz (by rw [sizeLine_eq]; decide)), ?_⟩) hs
  exact h _ _ (F'.push _) (N'.push F' _) (fun p hp => Heap.lt_size (N' p hp).1)
end
end Mine.Internal
end TBSlice
section TBLen
open PySem PySem.W PySem.Calls PyProof.Rows PyProof.V PySem.Spec Builtin Builtin.Bytes
set_option Elab.async false
set_option maxRecDepth 100000
set_option maxHeartbeats 4000000
namespace Mine.Internal
theorem meets_ba_len (b : Array UInt8) (x : Addr) : Meets («bytearray.__len__» ⟨[.ref x], []⟩) (fun _ R s => s.heap.get? x = some (baObj b) ∧ R (.ok (.ret (.int b.size s.toks))) { s with toks := s.toks + 1 }) := by
  refine .of_wp fun prog w A R s hS => ?_
  obtain ⟨hx, h⟩ := hS
  show wpAny _ _ (payload (.ref x) >>= fun r => _) _ _ s
  refine wpAny_bind (payload_ba hx ?_)
  exact wpAny_bind (wpAny_mkInt (wpAny_pure ⟨_, rfl, h⟩))
section
variable {prog : Program} {w : World} {A : Around} {E : Value → Shared → Prop} {s : Shared} {b : Array UInt8} {x : Addr} {Q : Value → Shared → Prop}
theorem len_ba (hx : s.heap.get? x = some (baObj b)) (hz : b.size ≤ 1000) (h : ∀ t k, Q (.int b.size t) { s with toks := k }) : wpAny (model prog w) A (call (.builtin "len") [.ref x]) Q E s := by
  have hT : s.TypeIs (.ref x) "bytearray" := ⟨_, hx, rfl⟩
  refine Calls.call_function_entry kind_len plain_len entry_len (args_len1 _) ?_
  unfold Builtin.«len»
  refine wpAny_bind (m := oneArg "len" _) (wpAny_pure ?_)
  refine wpAny_bind (m := callSpecial? (.ref x) (Str.ofString "__len__")) (wpAny_callSpecial?_slot (name := Str.ofString "__len__") hT slot_ba_len (call_meets slot_ba_len hT entry_ba_len (args_ba_len _) (meets_ba_len b x) ⟨hx, ?_⟩))
  show wpAny _ _ _ _ _ { s with toks := s.toks + 1 }
  refine wpAny_bind (wpAny_holding (wpAny_pure ?_))
  refine wpAny_bind (wpAny_letGo ?_)
  show wpAny _ _ (if (b.size : Int) < 0 then _ else _) _ _ _
  rw [if_neg (by omega)]
  show wpAny _ _ (if (b.size : Int) ≥ 2 ^ 63 then _ else _) _ _ _
  rw [if_neg (by omega)]
  exact wpAny_bind (wpAny_mkInt (wpAny_pure ⟨_, rfl, h _ _⟩))
end
end Mine.Internal
end TBLen
section TUtil2
open PySem PySem.W PySem.Calls PyProof.Rows
set_option Elab.async false
set_option maxRecDepth 100000
set_option maxHeartbeats 4000000
namespace Mine.Internal
section
variable {prog : Program} {w : World} {A : Around} {E : Value → Shared → Prop} {s : Shared} {a b : Addr} {xs ys : Array Value} {n k : Nat} {Q : Value → Shared → Prop}
theorem ne_len (ha : s.heap.get? a = some (W.listOf xs n)) (hb : s.heap.get? b = some (W.listOf ys k)) (hsz : (xs.size != ys.size) = true) (hu : A.units < cLine) (h : Q (.bool true) s) :
    wpAny (model prog w) A (compareOp .NotEq (.ref a) (.ref b)) Q E s := by
  refine cmp_ofNotEq (wpAny_richCompare_same_room ⟨_, ha, rfl⟩ ⟨_, hb, rfl⟩ F.slot_list_ne ?_ hu)
  exact call_meets F.slot_list_ne ⟨_, ha, rfl⟩ F.entry_list_ne (F.args_list_ne_2 _ _) (PySem.SeqAt.list_ne_lengthsAt a b xs ys n k none none #[] #[] hsz) ⟨ha, hb, ⟨(fun q => nomatch q), h⟩⟩
theorem eq_len (ha : s.heap.get? a = some (W.listOf xs n)) (hb : s.heap.get? b = some (W.listOf ys k)) (hsz : (xs.size != ys.size) = true) (hu : A.units < cLine) (h : Q (.bool false) s) :
    wpAny (model prog w) A (compareOp .Eq (.ref a) (.ref b)) Q E s := by
  refine cmp_ofEq (wpAny_richCompare_same_room ⟨_, ha, rfl⟩ ⟨_, hb, rfl⟩ F.slot_list_eq ?_ hu)
  exact call_meets F.slot_list_eq ⟨_, ha, rfl⟩ F.entry_list_eq (F.args_list_eq_2 _ _) (AutoSeq1.list___eq___list_list_0 a xs n b ys k hsz) ⟨ha, hb, ⟨(fun q => nomatch q), h⟩⟩
end
end Mine.Internal
end TUtil2
section TCRead
open PySem PySem.W PyProof.Rows PySem.Calls
set_option Elab.async false
set_option maxRecDepth 100000
set_option maxHeartbeats 8000000
namespace Mine.Internal
section
variable {w : World} {A₀ : Around} {hdl : Option Value} {dep un : Nat} {gd : Option (List Code)} {E : Value → Shared → Prop} {s : Shared} {h₀ base : Heap} {L : Addr} {m mg mb : Str → Option Value} {news : List (Addr × Obj)} {p : Program} {loose : List Str} {mean : ExcName → Option Value}
  {env : Env} {outer : List Env} {R : Result → Shared → Prop}
noncomputable def tak (b : Array UInt8) (k : Int) : Array UInt8 := (b.toList.take k.toNat).toArray
noncomputable def drp (b : Array UInt8) (k : Int) : Array UInt8 := (b.toList.drop k.toNat).toArray
theorem cast_min (a b : Nat) : ((min a b : Nat) : Int) = min (a : Int) b := by
  rcases Nat.le_total a b with h | h
  · rw [Nat.min_eq_left h, Int.min_eq_left (Int.ofNat_le.mpr h)]
  · rw [Nat.min_eq_right h, Int.min_eq_right (Int.ofNat_le.mpr h)]
theorem tak_size (b : Array UInt8) {k : Int} (hk : 0 ≤ k) : ((tak b k).size : Int) = min k b.size := by
  obtain ⟨j, rfl⟩ := Int.eq_ofNat_of_zero_le hk
  unfold tak
  rw [List.size_toArray, List.length_take, Int.toNat_natCast, Array.length_toList]
  exact cast_min ..
theorem picked_drp {b : Array UInt8} {k : Int} (hk : 0 ≤ k) : KBy.picked b (some ((tak b k).size : Int)) none = drp b k := by
  rw [picked_drop (by omega)]
  unfold drp tak
  congr 1
  simp only [Int.toNat_natCast, List.size_toArray, List.length_take, Array.length_toList]
  rcases Nat.le_total k.toNat b.size with h | h
  · rw [Nat.min_eq_left h]
  · rw [Nat.min_eq_right h, List.drop_of_length_le (by simp), List.drop_of_length_le (by simpa using h)]
theorem c_read {x dx ba : Addr} {k : Int} {tk0 : Tok} {u0 u1 u2 u3 u4 u5 u6 u7 u8 u9 : Tok} {v_ring v_room v_mss v_next v_assembly v_told_edge v_fin_at v_has_fin v_urgent_at : Value} {rest : List (Addr × Obj)} {b : Array UInt8} (hb : b.size ≤ 9) (hk0 : 0 ≤ k) (hk9 : k ≤ 9) (hxd : @Ne Nat x dx) (hbd : @Ne Nat ba dx) (hr : ∀ q ∈ rest, q.1 ≠ dx) (hh : hdl = none)
    (hn : news = (ba, baObj b) :: (x, instObj 1241 dx) :: (dx, recO w.params u0 u1 u2 u3 u4 u5 u6 u7 u8 u9 v_ring v_room v_mss v_next (.ref ba) v_assembly v_told_edge v_fin_at v_has_fin v_urgent_at) :: rest)
    (B : Below A₀ base outer h₀) (F : Fr h₀ L s.heap m) (X : (K w.params).In h₀) (N : News h₀ L s.heap news) (T : Top p loose mean mg mb h₀) (hf : env.frame = some L) (hke : env.scope.kind = .function) (hd : dep < 765) (hu : un < 3500)
    (h : ∀ h' tk r tb, Fr h₀ L h' m → (∀ q ∈ news, q.1 < r) → News h₀ L h' ((r, baObj (drp b k)) :: (x, instObj 1241 dx) :: (dx, recO w.params u0 u1 u2 u3 u4 u5 u6 u7 u8 u9 v_ring v_room v_mss v_next (.ref r) v_assembly v_told_edge v_fin_at v_has_fin v_urgent_at) :: rest) → R (.ok (.ret (.bytes (tak b k) tb))) { s with heap := h', toks := tk }) :
    codeAny (model PySem.Challenge.rw_xw0352_01.prog w) ⟨hdl, dep, some (env :: outer), gd, un⟩ (.call (.ref 1210) ⟨[.ref x, .int k tk0], []⟩) R s := by
  subst hh
  subst hn
  have hR := h
  clear h
  revert X; k_fill; intro X
  refine' code_def (binds := [("self", .ref x), ("many", .int k tk0)]) ?k1 ?k2 ?k3 ?k4 ?k5 ?kA ?kF ?kK ?k6 ?k7 ?k8 ?k9 ?kB ?_ ?c2 ?c3 ?c4 ?c5
  case kA => exact rfl
  case kF => exact hf
  case kK => exact hke
  case k1 => exact B
  case k2 => exact F
  case k3 => exact X
  case k4 => exact N
  case k5 => exact T
  case k6 => k_is
  case k7 => k_is
  case k8 => exact Nat.lt_trans hd (by decide)
  case k9 => first | exact BindsTo.of_eq rfl | exact binds_K (by k_in) rfl (by k_is) rfl rfl rfl
  case c5 => decide
  case kB => exact locs rfl
  case c2 => exact rfl
  case c3 => exact rfl
  case c4 => exact rfl
  k_whole
  intro g' L' h' FG' F' N' B' X' T'
  clear F N B X T
  try dsimp only
  change wpAny _ _ _ _ _ _
  k_fold
  k_steps
  rename News _ _ _ _ => N9
  rename Fr _ _ _ _ => F9
  refine slice_ba (s := ⟨_, _, _, _, _⟩) F9 N9 (b := b) (by k_mem) (by constructor) (by constructor) (by omega) ?_
  intro r1 h8 F10 N10 q1
  rw [picked_take hk0] at N10
  change News _ _ _ ((r1, baObj (tak b k)) :: _) at N10
  clear F9 N9
  k_steps
  rename News _ _ _ _ => N9
  refine call_bytes_ba (N9 _ (.head _)).1 (Nat.le_trans (show (tak b k).size ≤ 1000 by have := tak_size b hk0; omega) (by rw [sizeLine_eq]; decide)) ?_
  intro tb2 tk2
  have hts := tak_size b hk0
  k_steps
  rename News _ _ _ _ => N9
  rename Fr _ _ _ _ => F9
  refine slice_ba (s := ⟨_, _, _, _, _⟩) F9 N9 (b := b) (by k_mem) (by constructor) (by constructor) (by omega) ?_
  intro r2 h8 F10 N10 q2
  rw [picked_drp hk0] at N10
  have e1 : @LT.lt Nat _ dx r2 := q2 (dx, _) (by k_mem)
  have e2 : @LT.lt Nat _ dx r1 := q1 (dx, _) (by k_mem)
  clear F9 N9
  k_steps
  refine leaveK_ (by k_asm) (by k_asm) ?_
  intro kF kN
  refine' hR _ _ r2 _ kF (fun q hq => q2 q (by repeat' first | exact hq | apply List.Mem.tail)) (List.forall_mem_cons.mpr ⟨kN _ (by k_mem), List.forall_mem_cons.mpr ⟨kN _ (by k_mem), List.forall_mem_cons.mpr ⟨kN _ (by k_mem), fun z hz => kN z (by repeat' first | exact hz | apply List.Mem.tail)⟩⟩⟩)
end
end Mine.Internal
end TCRead
section TExc3
open PySem PySem.W PyProof.Rows PySem.Calls
set_option Elab.async false
set_option maxRecDepth 100000
set_option maxHeartbeats 8000000
namespace Mine
section
variable {w : World} {A₀ : Around} {hdl : Option Value} {dep un : Nat} {gd : Option (List Code)} {E : Value → Shared → Prop} {s : Shared} {h₀ base : Heap} {L : Addr} {m mg mb : Str → Option Value} {news : List (Addr × Obj)} {p : Program} {loose : List Str} {mean : ExcName → Option Value}
  {env : Env} {outer : List Env} {R : Result → Shared → Prop}
theorem c_stack_init (C x t : Addr) (msg : Str) (tm : Tok) (pre post : List (Addr × Obj)) (hn : news = pre ++ (x, excObj C t none) :: post) (h1 : ∀ p ∈ pre, p.1 ≠ x) (h2 : ∀ p ∈ post, p.1 ≠ x)
    (hp : (clsIn (K w.params) C).any (fun cd => excMro cd.mro && cd.hasDict) = true) (hs : findIn (K w.params) (.ref C) "__setattr__" = some (some (.builtin "object.__setattr__"))) (ht : takerIn (K w.params) C "message" = some none)
    (B : Below A₀ base outer h₀) (F : Fr h₀ L s.heap m) (X : (K w.params).In h₀) (N : News h₀ L s.heap news) (T : Top p loose mean mg mb h₀) (hf : env.frame = some L) (hke : env.scope.kind = .function) (hd : dep < 980) (hu : un < 6000)
    (h : ∀ dx od h' tk es ep, Fr h₀ L h' m → News h₀ L h' ((dx, od) :: pre ++ (x, excObj C t (some dx)) :: post) → od.data = .dict es ep → h'.Ns dx (fun y => if y = "message" then some (.str msg tm) else none) → (∀ p ∈ news, p.1 < dx) → R (.ok (.ret .none)) { s with heap := h', toks := tk }) :
    codeAny (model PySem.Challenge.rw_xw0352_01.prog w) ⟨hdl, dep, some (env :: outer), gd, un⟩ (.call (.ref 35) ⟨[.ref x, .str msg tm], []⟩) R s := by
  subst hn
  revert X; k_fill; intro X
  refine' code_def ?k1 ?k2 ?k3 ?k4 ?k5 ?kA ?kF ?kK ?k6 ?k7 ?k8 ?k9 ?kB ?_ ?c2 ?c3 ?c4 ?c5
  case kA => exact rfl
  case kF => exact hf
  case kK => exact hke
  case k1 => exact B
  case k2 => exact F
  case k3 => exact X
  case k4 => exact N
  case k5 => exact T
  case k6 => k_is
  case k7 => k_is
  case k8 => exact Nat.lt_trans hd (by decide)
  case k9 => first | exact BindsTo.of_eq rfl | exact binds_K (by k_in) rfl (by k_is) rfl rfl rfl
  case c5 => decide
  case kB => exact locs rfl
  case c2 => exact rfl
  case c3 => exact rfl
  case c4 => exact rfl
  k_whole
  intro g' L' h' FG' F' N' B' X' T'
  clear F N B X T
  try dsimp only
  k_fold
  k_steps
  refine exc_set (pre := pre) (post := post) F' N' (X'.keeps F'.keep) hp hs ht h1 h2 ?_
  intro dx od h2' tk2 es ep F2 N2 hdat hns hlt
  dsimp only
  k_steps
  refine leaveK_ F2 N2 ?_
  intro kF kN
  exact h dx od _ _ es ep kF kN hdat hns hlt

/-- what the written part says of the three error classes -/
noncomputable def errCls (P : Params) (C : Addr) : Bool := excClsIn (K P) C && (clsIn (K P) C).any (fun cd => excMro cd.mro && cd.hasDict)
theorem c_exc (C : Addr) (msg : Str) (tm : Tok) (he : excClsIn (K w.params) C = true)
    (hc : specialIn (K w.params) (.ref C) "__call__" = some (some (.builtin "type.__call__"))) (hty : instIn (K w.params) (.ref C) (.type "type") = some true) (hi : findIn (K w.params) (.ref C) "__init__" = some (some (.ref 35)))
    (hp : (clsIn (K w.params) C).any (fun cd => excMro cd.mro && cd.hasDict) = true) (hs : findIn (K w.params) (.ref C) "__setattr__" = some (some (.builtin "object.__setattr__"))) (ht : takerIn (K w.params) C "message" = some none)
    (B : Below A₀ base outer h₀) (F : Fr h₀ L s.heap m) (X : (K w.params).In h₀) (N : News h₀ L s.heap news) (T : Top p loose mean mg mb h₀) (hf : env.frame = some L) (hke : env.scope.kind = .function) (hd : dep < 905) (hu : un < 5000)
    (h : ∀ x t dx od h' tk es ep, Fr h₀ L h' m → News h₀ L h' ((dx, od) :: (x, excObj C t (some dx)) :: (t, tupObj [.str msg tm]) :: news) → od.data = .dict es ep → h'.Ns dx (fun y => if y = "message" then some (.str msg tm) else none) →
      (∀ p ∈ news, p.1 < t) → t < x → x < dx → R (.ok (.ret (.ref x))) { s with heap := h', toks := tk }) :
    codeAny (model PySem.Challenge.rw_xw0352_01.prog w) ⟨hdl, dep, some (env :: outer), gd, un⟩ (.call (.ref C) ⟨[.str msg tm], []⟩) R s := by
  refine exc_make_K F N (X.keeps F.keep) he hc hty hi (by kernel_rfl) (fun x t h' F' N' l1 l2 => ?_)
  refine c_stack_init (A₀ := A₀) (base := base) (mg := mg) (mb := mb) (p := p) (loose := loose) (mean := mean) C x t msg tm [] ((t, tupObj [.str msg tm]) :: news) rfl (fun _ q => nomatch q) (fun p hp => ?_) hp hs ht B F' X N' T hf hke (show dep + 1 < 980 by omega) (show un + 1 < 6000 by omega) ?_
  · rcases List.mem_cons.mp hp with rfl | hp
    · exact Nat.ne_of_lt l2
    · exact Nat.ne_of_lt (Nat.lt_trans (l1 p hp) l2)
  · intro dx od h2 tk es ep F2 N2 hdat hns hlt
    exact ⟨rfl, h x t dx od h2 tk es ep F2 N2 hdat hns l1 l2 (hlt (x, excObj C t none) (.head _))⟩
end
end Mine
end TExc3
section TCErr
open PySem PySem.W PyProof.Rows PySem.Calls
set_option Elab.async false
set_option maxRecDepth 100000
set_option maxHeartbeats 8000000
namespace Mine.Internal
section
variable {w : World} {A₀ : Around} {hdl : Option Value} {dep un : Nat} {gd : Option (List Code)} {E : Value → Shared → Prop} {s : Shared} {h₀ base : Heap} {L : Addr} {m mg mb : Str → Option Value} {news : List (Addr × Obj)} {p : Program} {loose : List Str} {mean : ExcName → Option Value}
  {env : Env} {outer : List Env} {R : Result → Shared → Prop}
theorem c_ce_none {x dx : Addr} {u0 u1 u2 u3 u4 u5 u6 u7 u8 u9 u10 u11 u12 u13 : Tok} {v_limits v_local v_remote v_state v_sender v_receiver v_clock v_congestion v_acks v_wheel v_probes v_unanswered v_is_nagle : Value} (hx : (x, instObj 927 dx) ∈ news) (hdx : (dx, tcbO w.params u0 u1 u2 u3 u4 u5 u6 u7 u8 u9 u10 u11 u12 u13 v_limits v_local v_remote v_state v_sender v_receiver v_clock v_congestion v_acks v_wheel (.none) v_probes v_unanswered v_is_nagle) ∈ news)
    (B : Below A₀ base outer h₀) (F : Fr h₀ L s.heap m) (X : (K w.params).In h₀) (N : News h₀ L s.heap news) (T : Top p loose mean mg mb h₀) (hf : env.frame = some L) (hke : env.scope.kind = .function) (hd : dep < 805) (hu : un < 4000)
    (h : ∀ h' tk, Fr h₀ L h' m → News h₀ L h' news → R (.ok (.ret .none)) { s with heap := h', toks := tk }) :
    codeAny (model PySem.Challenge.rw_xw0352_01.prog w) ⟨hdl, dep, some (env :: outer), gd, un⟩ (.call (.ref 945) ⟨[.ref x], []⟩) R s := by
  revert X; k_fill; intro X
  refine' code_def (binds := [("tcb", .ref x)]) ?k1 ?k2 ?k3 ?k4 ?k5 ?kA ?kF ?kK ?k6 ?k7 ?k8 ?k9 ?kB ?_ ?c2 ?c3 ?c4 ?c5
  case kA => exact rfl
  case kF => exact hf
  case kK => exact hke
  case k1 => exact B
  case k2 => exact F
  case k3 => exact X
  case k4 => exact N
  case k5 => exact T
  case k6 => k_is
  case k7 => k_is
  case k8 => exact Nat.lt_trans hd (by decide)
  case k9 => first | exact BindsTo.of_eq rfl | exact binds_K (by k_in) rfl (by k_is) rfl rfl rfl
  case c5 => decide
  case kB => exact locs rfl
  case c2 => exact rfl
  case c3 => exact rfl
  case c4 => exact rfl
  k_whole
  intro g' L' h' FG' F' N' B' X' T'
  clear F N B X T
  try dsimp only
  have N2 := news_more2 N' hx hdx
  clear N'
  change wpAny _ _ _ _ _ _
  k_fold
  k_steps
  exact leaveK_ F' N2 fun kF kN => h _ _ kF (news_tail2 kN)
theorem drop3 {g' : Heap} {L' : Addr} {h' : Heap} {a b c d e : Addr × Obj} (N : News g' L' h' (a :: b :: c :: d :: e :: news)) : News g' L' h' (a :: b :: c :: news) := fun p hp => by
  rcases List.mem_append.mp (show p ∈ [a, b, c] ++ news from hp) with hp | hp
  · exact N p (List.mem_append_left (bs := d :: e :: news) (show p ∈ [a, b, c] from hp))
  · exact N p (.tail _ (.tail _ (.tail _ (.tail _ (.tail _ hp)))))
theorem raise_tail {g' : Heap} {L' C : Addr} {h' : Heap} {m' : Str → Option Value} {cu : Env} {msg : Str} {tm : Tok} {t x d : Addr} {od : Obj} {es : Array DictEntry} {ep tk : Nat} {A : Around} {E : Value → Shared → Prop} {Q : Unit → Shared → Prop}
    (B : Below A base (env :: outer) g') (F' : Fr g' L' h' m') (N' : News g' L' h' ((d, od) :: (x, excObj C t (some d)) :: (t, tupObj [.str msg tm]) :: news)) (hcf : cu.frame = some L') (hck : cu.scope.kind = .function)
    (hdat : od.data = .dict es ep) (hns : h'.Ns d (fun y => if y = "message" then some (.str msg tm) else none)) (l1 : ∀ p ∈ news, p.1 < t) (l2 : t < x) (l3 : x < d)
    (hq : ∀ h₂, RaisedT base g' (env :: outer) x C t d [.str msg tm] ((d, od) :: news) h₂ → g'.UpToSlots h₂ → h₂.Ns d (fun y => if y = "message" then some (.str msg tm) else none) → Q () { s with heap := h₂, toks := tk }) :
    wpAny (model PySem.Challenge.rw_xw0352_01.prog w) (A.deeper cu) (leaving cu (.ref x)) Q E { s with heap := h', toks := tk } := by
  have nx := N' (x, excObj C t (some d)) (.tail _ (.head _))
  have nt := N' (t, tupObj [.str msg tm]) (.tail _ (.tail _ (.head _)))
  refine leave_raiseT (d := d) (C := C) (t := t) (vs := [.str msg tm]) (news := (d, od) :: news) B F' nx.1 nx.2.2 (Ne.symm (Ne.symm nx.2.1)) nt.1 nt.2.2 (Ne.symm (Ne.symm nt.2.1)) (fun q hq => ?_) (fun q hq => ?_) hcf hck (fun h₂ R₂ u => hq h₂ R₂ u ?_)
  · rcases List.mem_cons.mp hq with rfl | hq
    · exact N' _ (.head _)
    · exact N' _ (.tail _ (.tail _ (.tail _ hq)))
  · rcases List.mem_cons.mp hq with rfl | hq
    · exact ⟨Nat.ne_of_gt l3, Nat.ne_of_gt (Nat.lt_trans l2 l3)⟩
    · exact ⟨Nat.ne_of_lt (Nat.lt_trans (l1 _ hq) l2), Nat.ne_of_lt (l1 _ hq)⟩
  · obtain ⟨⟨⟨Bh, hB, hBG, hl, hfl, hnew⟩, htup⟩, _⟩ := R₂
    have e1 := hfl.1 _ _ (hl (d, od) (.head _)).1
    obtain ⟨o2, es2, ep2, g1, g2, g3, g4⟩ := hns
    have e2 := (N' (d, od) (.head _)).1
    rw [e2] at g1; cases g1
    exact ⟨od, es2, ep2, e1, g2, g3, g4⟩
theorem c_ce_late (te : Tok) {x dx : Addr} {u0 u1 u2 u3 u4 u5 u6 u7 u8 u9 u10 u11 u12 u13 : Tok} {v_limits v_local v_remote v_state v_sender v_receiver v_clock v_congestion v_acks v_wheel v_probes v_unanswered v_is_nagle : Value} (hx : (x, instObj 927 dx) ∈ news) (hdx : (dx, tcbO w.params u0 u1 u2 u3 u4 u5 u6 u7 u8 u9 u10 u11 u12 u13 v_limits v_local v_remote v_state v_sender v_receiver v_clock v_congestion v_acks v_wheel (.str "timed out" te) v_probes v_unanswered v_is_nagle) ∈ news) (hh : hdl = none)
    (B : Below A₀ base outer h₀) (F : Fr h₀ L s.heap m) (X : (K w.params).In h₀) (N : News h₀ L s.heap news) (T : Top p loose mean mg mb h₀) (hf : env.frame = some L) (hke : env.scope.kind = .function) (hd : dep < 805) (hu : un < 4000)
    (h : ∀ tm, ∀ e t d od h' tk g' es ep, Fr h₀ L g' m → od.data = .dict es ep → h'.Ns d (fun y => if y = "message" then some (.str "the other end does not answer" tm) else none) → RaisedT base g' (env :: outer) e 87 t d [.str "the other end does not answer" tm] ((d, od) :: news) h' → g'.UpToSlots h' → R (.error (.ref e)) { s with heap := h', toks := tk }) :
    codeAny (model PySem.Challenge.rw_xw0352_01.prog w) ⟨hdl, dep, some (env :: outer), gd, un⟩ (.call (.ref 945) ⟨[.ref x], []⟩) R s := by
  revert X; k_fill; intro X
  refine' code_def (binds := [("tcb", .ref x)]) ?k1 ?k2 ?k3 ?k4 ?k5 ?kA ?kF ?kK ?k6 ?k7 ?k8 ?k9 ?kB ?_ ?c2 ?c3 ?c4 ?c5
  case kA => exact rfl
  case kF => exact hf
  case kK => exact hke
  case k1 => exact B
  case k2 => exact F
  case k3 => exact X
  case k4 => exact N
  case k5 => exact T
  case k6 => k_is
  case k7 => k_is
  case k8 => exact Nat.lt_trans hd (by decide)
  case k9 => first | exact BindsTo.of_eq rfl | exact binds_K (by k_in) rfl (by k_is) rfl rfl rfl
  case c5 => decide
  case kB => exact locs rfl
  case c2 => exact rfl
  case c3 => exact rfl
  case c4 => exact rfl
  k_whole
  intro g' L' h' FG' F' N' B' X' T'
  clear F N B X T
  try dsimp only
  have N2 := news_more2 N' hx hdx
  clear N'
  change wpAny _ _ _ _ _ _
  k_fold
  k_steps
  refine exc_raise (K := K w.params) hh ?_
  k_fold
  k_steps
  refine wpAny_call (c_exc 87 _ _ (hd := ?hd) (hu := ?hu) (by kernel_rfl) (by k_is) (by k_is) (by k_is) (by kernel_rfl) (by k_is) (by k_is) B' F' X' N2 T' rfl rfl ?_)
  case hd => show dep + 1 < 905; exact lin (k := 1) hd (by decide)
  case hu => show un + 3 < 5000; exact lin (k := 3) hu (by decide)
  intro x2 t2 d2 od2 h2 tk2 es2 ep2 F2 N2' hdat hns l1 l2 l3
  refine ⟨x2, 87, t2, d2, rfl, X'.keeps F2.keep, by kernel_rfl, (N2' _ (.tail _ (.head _))).1, ?_⟩
  k_unfold
  refine raise_tail (C := 87) (t := t2) (x := x2) (d := d2) (od := od2) (news := news) B' F2 (drop3 N2') rfl rfl hdat hns (fun p hp => l1 p (.tail _ (.tail _ hp))) l2 l3 ?_
  intro h3 R3 u3 n3
  exact h _ x2 t2 d2 od2 h3 _ _ _ _ FG' hdat n3 R3 u3
theorem c_ce_lost {et : Str} (hne : (et == ("timed out" : Str)) = false) (hsz : et.length ≤ 90) (te : Tok) {x dx : Addr} {u0 u1 u2 u3 u4 u5 u6 u7 u8 u9 u10 u11 u12 u13 : Tok} {v_limits v_local v_remote v_state v_sender v_receiver v_clock v_congestion v_acks v_wheel v_probes v_unanswered v_is_nagle : Value} (hx : (x, instObj 927 dx) ∈ news) (hdx : (dx, tcbO w.params u0 u1 u2 u3 u4 u5 u6 u7 u8 u9 u10 u11 u12 u13 v_limits v_local v_remote v_state v_sender v_receiver v_clock v_congestion v_acks v_wheel (.str et te) v_probes v_unanswered v_is_nagle) ∈ news) (hh : hdl = none)
    (B : Below A₀ base outer h₀) (F : Fr h₀ L s.heap m) (X : (K w.params).In h₀) (N : News h₀ L s.heap news) (T : Top p loose mean mg mb h₀) (hf : env.frame = some L) (hke : env.scope.kind = .function) (hd : dep < 805) (hu : un < 4000)
    (h : ∀ tm, ∀ e t d od h' tk g' es ep, Fr h₀ L g' m → od.data = .dict es ep → h'.Ns d (fun y => if y = "message" then some (.str ("the connection is " ++ et) tm) else none) → RaisedT base g' (env :: outer) e 75 t d [.str ("the connection is " ++ et) tm] ((d, od) :: news) h' → g'.UpToSlots h' → R (.error (.ref e)) { s with heap := h', toks := tk }) :
    codeAny (model PySem.Challenge.rw_xw0352_01.prog w) ⟨hdl, dep, some (env :: outer), gd, un⟩ (.call (.ref 945) ⟨[.ref x], []⟩) R s := by
  revert X; k_fill; intro X
  refine' code_def (binds := [("tcb", .ref x)]) ?k1 ?k2 ?k3 ?k4 ?k5 ?kA ?kF ?kK ?k6 ?k7 ?k8 ?k9 ?kB ?_ ?c2 ?c3 ?c4 ?c5
  case kA => exact rfl
  case kF => exact hf
  case kK => exact hke
  case k1 => exact B
  case k2 => exact F
  case k3 => exact X
  case k4 => exact N
  case k5 => exact T
  case k6 => k_is
  case k7 => k_is
  case k8 => exact Nat.lt_trans hd (by decide)
  case k9 => first | exact BindsTo.of_eq rfl | exact binds_K (by k_in) rfl (by k_is) rfl rfl rfl
  case c5 => decide
  case kB => exact locs rfl
  case c2 => exact rfl
  case c3 => exact rfl
  case c4 => exact rfl
  k_whole
  intro g' L' h' FG' F' N' B' X' T'
  clear F N B X T
  try dsimp only
  have N2 := news_more2 N' hx hdx
  clear N'
  change wpAny _ _ _ _ _ _
  k_fold
  k_steps
  refine exc_raise (K := K w.params) hh ?_
  k_fold
  k_steps
  refine wpAny_call (c_exc 75 _ _ (hd := ?hd) (hu := ?hu) (by kernel_rfl) (by k_is) (by k_is) (by k_is) (by kernel_rfl) (by k_is) (by k_is) B' F' X' N2 T' rfl rfl ?_)
  case hd => show dep + 1 < 905; exact lin (k := 1) hd (by decide)
  case hu => show un + 3 < 5000; exact lin (k := 3) hu (by decide)
  intro x2 t2 d2 od2 h2 tk2 es2 ep2 F2 N2' hdat hns l1 l2 l3
  refine ⟨x2, 75, t2, d2, rfl, X'.keeps F2.keep, by kernel_rfl, (N2' _ (.tail _ (.head _))).1, ?_⟩
  k_unfold
  refine raise_tail (C := 75) (t := t2) (x := x2) (d := d2) (od := od2) (news := news) B' F2 (drop3 N2') rfl rfl hdat hns (fun p hp => l1 p (.tail _ (.tail _ hp))) l2 l3 ?_
  intro h3 R3 u3 n3
  exact h _ x2 t2 d2 od2 h3 _ _ _ _ FG' hdat n3 R3 u3
end
end Mine.Internal
end TCErr
section TCErr2
open PySem PySem.W PyProof.Rows PySem.Calls
set_option Elab.async false
set_option maxRecDepth 100000
set_option maxHeartbeats 8000000
namespace Mine.Internal
section
variable {w : World} {A₀ : Around} {hdl : Option Value} {dep un : Nat} {gd : Option (List Code)} {E : Value → Shared → Prop} {s : Shared} {h₀ base : Heap} {L : Addr} {m mg mb : Str → Option Value} {news : List (Addr × Obj)} {p : Program} {loose : List Str} {mean : ExcName → Option Value}
  {env : Env} {outer : List Env} {R : Result → Shared → Prop}
inductive Er | late | refused | reset
noncomputable def Er.text : Er → Str
  | .late => "timed out" | .refused => "refused" | .reset => "reset"
noncomputable def Er.cls : Er → Addr
  | .late => nat_lit 87 | .refused => nat_lit 75 | .reset => nat_lit 75
noncomputable def Er.msg : Er → Str
  | .late => "the other end does not answer" | .refused => "the connection is " ++ "refused" | .reset => "the connection is " ++ "reset"
def OwnMsg (od : Obj) (msg : Str) (tm : Tok) : Prop := ∃ es ep, od.data = .dict es ep ∧ ∀ y, nsFind es y = if y = "message" then some (.str msg tm) else none
theorem raisedT_sub {base G : Heap} {l : List Env} {e C t d : Addr} {vs : List Value} {news news' : List (Addr × Obj)} {h : Heap} (hs : ∀ p ∈ news', p ∈ news) (Rt : RaisedT base G l e C t d vs news h) : RaisedT base G l e C t d vs news' h := by
  obtain ⟨⟨⟨Bh, hB, hBG, hl, r1⟩, r2⟩, r3⟩ := Rt
  exact ⟨⟨⟨Bh, hB, hBG, fun q hq => hl q (hs q hq), r1⟩, r2⟩, r3⟩
theorem raisedT_get {base G : Heap} {l : List Env} {e C t d : Addr} {vs : List Value} {news : List (Addr × Obj)} {h : Heap} {p : Addr × Obj} (Rt : RaisedT base G l e C t d vs news h) (hp : p ∈ news) : h.get? p.1 = some p.2 := by
  obtain ⟨⟨⟨Bh, hB, hBG, hl, r1, _⟩, r2⟩, r3⟩ := Rt
  exact r1.1 _ _ (hl p hp).1
theorem ownMsg_of {h : Heap} {d : Addr} {od : Obj} {msg : Str} {tm : Tok} (hd : h.get? d = some od) (hn : h.Ns d (fun y => if y = "message" then some (.str msg tm) else none)) : OwnMsg od msg tm := by
  obtain ⟨o2, es, ep, g1, g2, g3, g4⟩ := hn
  rw [hd] at g1; cases g1
  exact ⟨es, ep, g2, g4⟩
/-- what a raising call hands its caller: the error e, with its class, its text and the ledger -/
def RaisedOut (h₀ : Heap) (L : Addr) (m : Str → Option Value) (base : Heap) (env : Env) (outer : List Env) (C : Addr) (msg : Str) (news : List (Addr × Obj)) (s : Shared) (R : Result → Shared → Prop) : Prop :=
  ∀ e t d tm od h' tk g', Fr h₀ L g' m → OwnMsg od msg tm → RaisedT base g' (env :: outer) e C t d [.str msg tm] ((d, od) :: news) h' → g'.UpToSlots h' → R (.error (.ref e)) { s with heap := h', toks := tk }
theorem raise_on {g' g2 h' : Heap} {L' C e t d : Addr} {m' : Str → Option Value} {cu : Env} {msg : Str} {tm : Tok} {od : Obj} {tk : Nat} {A : Around} {E : Value → Shared → Prop} {news2 : List (Addr × Obj)}
    (h : RaisedOut h₀ L m base env outer C msg news s R) (FG : Fr h₀ L g' m) (hA : A.frames = some (env :: outer)) (hcf : cu.frame = some L') (hsub : ∀ p ∈ news, p ∈ news2)
    (q1 : Fr g' L' g2 m') (q2 : OwnMsg od msg tm) (q3 : RaisedT base g2 (cu :: env :: outer) e C t d [.str msg tm] ((d, od) :: news2) h') (q4 : g2.UpToSlots h') :
    wpAny (model PySem.Challenge.rw_xw0352_01.prog w) (A.deeper cu) (leaving cu (.ref e)) (fun _ s'' => R (.error (.ref e)) s'') E { s with heap := h', toks := tk } :=
  leave_onT q1 q3 q4 hcf hA (fun h'' R'' u => h e t d tm od h'' tk g' FG q2 (raisedT_sub (fun p hp => by
    rcases List.mem_cons.mp hp with rfl | hp
    · exact .head _
    · exact .tail _ (hsub p hp)) R'') u)
theorem raise_new {g' : Heap} {L' C : Addr} {h' : Heap} {m' : Str → Option Value} {cu : Env} {msg : Str} {tm : Tok} {t x d : Addr} {od : Obj} {es : Array DictEntry} {ep tk : Nat} {A : Around} {E : Value → Shared → Prop} {news2 : List (Addr × Obj)}
    (h : RaisedOut h₀ L m base env outer C msg news s R) (FG : Fr h₀ L g' m) (B : Below A base (env :: outer) g') (F' : Fr g' L' h' m') (N' : News g' L' h' ((d, od) :: (x, excObj C t (some d)) :: (t, tupObj [.str msg tm]) :: news2)) (hcf : cu.frame = some L') (hck : cu.scope.kind = .function)
    (hdat : od.data = .dict es ep) (hns : h'.Ns d (fun y => if y = "message" then some (.str msg tm) else none)) (l1 : ∀ p ∈ news2, p.1 < t) (l2 : t < x) (l3 : x < d) (hsub : ∀ p ∈ news, p ∈ news2) :
    wpAny (model PySem.Challenge.rw_xw0352_01.prog w) (A.deeper cu) (leaving cu (.ref x)) (fun _ s'' => R (.error (.ref x)) s'') E { s with heap := h', toks := tk } :=
  raise_tail (s := s) (news := news2) B F' N' hcf hck hdat hns l1 l2 l3 (fun h₂ R₂ u n₂ => h x t d tm od h₂ tk g' FG (ownMsg_of (raisedT_get R₂ (.head _)) n₂) (raisedT_sub (fun p hp => by
    rcases List.mem_cons.mp hp with rfl | hp
    · exact .head _
    · exact .tail _ (hsub p hp)) R₂) u)
theorem c_ce_raise (er : Er) {te : Tok} {x dx : Addr} {u0 u1 u2 u3 u4 u5 u6 u7 u8 u9 u10 u11 u12 u13 : Tok} {v_limits v_local v_remote v_state v_sender v_receiver v_clock v_congestion v_acks v_wheel v_probes v_unanswered v_is_nagle : Value} (hx : (x, instObj 927 dx) ∈ news) (hdx : (dx, tcbO w.params u0 u1 u2 u3 u4 u5 u6 u7 u8 u9 u10 u11 u12 u13 v_limits v_local v_remote v_state v_sender v_receiver v_clock v_congestion v_acks v_wheel (.str er.text te) v_probes v_unanswered v_is_nagle) ∈ news) (hh : hdl = none)
    (B : Below A₀ base outer h₀) (F : Fr h₀ L s.heap m) (X : (K w.params).In h₀) (N : News h₀ L s.heap news) (T : Top p loose mean mg mb h₀) (hf : env.frame = some L) (hke : env.scope.kind = .function) (hd : dep < 805) (hu : un < 4000)
    (h : RaisedOut h₀ L m base env outer er.cls er.msg news s R) :
    codeAny (model PySem.Challenge.rw_xw0352_01.prog w) ⟨hdl, dep, some (env :: outer), gd, un⟩ (.call (.ref 945) ⟨[.ref x], []⟩) R s := by
  cases er
  · refine c_ce_late te hx hdx hh B F X N T hf hke hd hu (fun tm e t d od h' tk g' es ep q1 q2 q3 q4 q5 => ?_)
    exact h e t d tm od h' tk g' q1 (ownMsg_of (raisedT_get q4 (.head _)) q3) q4 q5
  · refine c_ce_lost (et := "refused") (by decide) (by decide) te hx hdx hh B F X N T hf hke hd hu (fun tm e t d od h' tk g' es ep q1 q2 q3 q4 q5 => ?_)
    exact h e t d tm od h' tk g' q1 (ownMsg_of (raisedT_get q4 (.head _)) q3) q4 q5
  · refine c_ce_lost (et := "reset") (by decide) (by decide) te hx hdx hh B F X N T hf hke hd hu (fun tm e t d od h' tk g' es ep q1 q2 q3 q4 q5 => ?_)
    exact h e t d tm od h' tk g' q1 (ownMsg_of (raisedT_get q4 (.head _)) q3) q4 q5
end
end Mine.Internal
end TCErr2
section TCRcv
open PySem PySem.W PyProof.Rows PySem.Calls
set_option Elab.async false
set_option maxRecDepth 100000
set_option maxHeartbeats 8000000
namespace Mine.Internal
section
variable {w : World} {A₀ : Around} {hdl : Option Value} {dep un : Nat} {gd : Option (List Code)} {E : Value → Shared → Prop} {s : Shared} {h₀ base : Heap} {L : Addr} {m mg mb : Str → Option Value} {news : List (Addr × Obj)} {p : Program} {loose : List Str} {mean : ExcName → Option Value}
  {env : Env} {outer : List Env} {R : Result → Shared → Prop}
theorem qk_of {Q : Flow → Shared → Prop} {f : Flow} {s : Shared} (h : Q f s) : Q f s := h
theorem c_receive_ok {ev : Value} {x dx xr dr ba : Addr} {k : Int} {tk0 ts tn : Tok} {kn : Int} {w0 w1 w2 w3 w4 w5 w6 w7 w8 w9 : Tok} {v_ring v_room v_mss v_next v_assembly v_told_edge v_fin_at v_has_fin v_urgent_at : Value} {u0 u1 u2 u3 u4 u5 u6 u7 u8 u9 u10 u11 u12 u13 : Tok} {v_limits v_local v_remote v_sender v_clock v_congestion v_acks v_wheel v_probes v_unanswered v_is_nagle : Value} {rest : List (Addr × Obj)} {b : Array UInt8} (hb : b.size ≤ 9) (hk0 : 0 ≤ k) (hk9 : k ≤ 9) (hxd : @Ne Nat xr dr) (hbd : @Ne Nat ba dr) (hxd2 : @Ne Nat x dr) (hdd2 : @Ne Nat dx dr) (hr : ∀ q ∈ rest, q.1 ≠ dr) (hh : hdl = none) (hok : 0 < k → ((tak b k).toList == (#[] : Array UInt8).toList) = false)
    (hn : news = (ba, baObj b) :: (xr, instObj 1241 dr) :: (dr, recO w.params w0 w1 w2 w3 w4 w5 w6 w7 w8 w9 v_ring v_room v_mss v_next (.ref ba) v_assembly v_told_edge v_fin_at v_has_fin v_urgent_at) :: (x, instObj 927 dx) :: (dx, tcbO w.params u0 u1 u2 u3 u4 u5 u6 u7 u8 u9 u10 u11 u12 u13 v_limits v_local v_remote (.str "closed" ts) v_sender (.ref xr) v_clock v_congestion v_acks v_wheel ev v_probes v_unanswered v_is_nagle) :: rest)
    (B : Below A₀ base outer h₀) (F : Fr h₀ L s.heap m) (X : (K w.params).In h₀) (N : News h₀ L s.heap news) (T : Top p loose mean mg mb h₀) (hf : env.frame = some L) (hke : env.scope.kind = .function) (hd : dep < 705) (hu : un < 3000)
    (h : ∀ h' tk r tb l t n, Fr h₀ L h' m → (∀ q ∈ news, q.1 < r) → News h₀ L h' ((t, ({ cls := .type "tuple", data := .seq #[.bytes (tak b k) tb, .ref l] } : Obj)) :: (l, W.listOf #[] n) :: (r, baObj (drp b k)) :: (xr, instObj 1241 dr) :: (dr, recO w.params w0 w1 w2 w3 w4 w5 w6 w7 w8 w9 v_ring v_room v_mss v_next (.ref r) v_assembly v_told_edge v_fin_at v_has_fin v_urgent_at) :: (x, instObj 927 dx) :: (dx, tcbO w.params u0 u1 u2 u3 u4 u5 u6 u7 u8 u9 u10 u11 u12 u13 v_limits v_local v_remote (.str "closed" ts) v_sender (.ref xr) v_clock v_congestion v_acks v_wheel ev v_probes v_unanswered v_is_nagle) :: rest) → R (.ok (.ret (.ref t))) { s with heap := h', toks := tk }) :
    codeAny (model PySem.Challenge.rw_xw0352_01.prog w) ⟨hdl, dep, some (env :: outer), gd, un⟩ (.call (.ref 959) ⟨[.ref x, .int k tk0, .int kn tn], []⟩) R s := by
  subst hh
  subst hn
  have hR := h
  clear h
  revert X; k_fill; intro X
  refine' code_def (binds := [("tcb", .ref x), ("many", .int k tk0), ("now", .int kn tn)]) ?k1 ?k2 ?k3 ?k4 ?k5 ?kA ?kF ?kK ?k6 ?k7 ?k8 ?k9 ?kB ?_ ?c2 ?c3 ?c4 ?c5
  case kA => exact rfl
  case kF => exact hf
  case kK => exact hke
  case k1 => exact B
  case k2 => exact F
  case k3 => exact X
  case k4 => exact N
  case k5 => exact T
  case k6 => k_is
  case k7 => k_is
  case k8 => exact Nat.lt_trans hd (by decide)
  case k9 => first | exact BindsTo.of_eq rfl | exact binds_K (by k_in) rfl (by k_is) rfl rfl rfl
  case c5 => decide
  case kB => exact locs rfl
  case c2 => exact rfl
  case c3 => exact rfl
  case c4 => exact rfl
  k_whole
  intro g' L' h' FG' F' N' B' X' T'
  clear F N B X T
  try dsimp only
  change wpAny _ _ _ _ _ _
  k_fold
  k_steps
  refine Stop.mk ?_
  rename News _ _ _ _ => N9
  rename Fr _ _ _ _ => F9
  refine' wpAny_call (c_read (b := b) hb hk0 hk9 hxd hbd ?hr rfl rfl (hd := ?hd) (hu := ?hu) B' F9 X' N9 T' rfl rfl ?_)
  case hd => show dep + 1 < 765; exact lin (k := 1) hd (by decide)
  case hu => show un + 3 < 3500; exact lin (k := 3) hu (by decide)
  case hr => exact List.forall_mem_cons.mpr ⟨hxd2, List.forall_mem_cons.mpr ⟨hdd2, hr⟩⟩
  intro h9 tk9 r tb2 F10 q1 N10
  clear F9 N9
  dsimp only
  k_steps
  · rename_i z1 z2
    rw [hok z2] at z1
    cases z1
  all_goals
    refine qk_of ?_
    k_unfold
    dsimp only
    refine leaveK_ (by k_asm) (by k_asm) ?_
    intro kF kN
    refine' hR _ _ r _ _ _ _ kF (fun q hq => q1 q (by repeat' first | exact hq | apply List.Mem.tail)) (List.forall_mem_cons.mpr ⟨kN _ (by k_mem), List.forall_mem_cons.mpr ⟨kN _ (by k_mem), fun z hz => kN z (by repeat' first | exact hz | apply List.Mem.tail)⟩⟩)
theorem c_receive_none {x dx xr dr ba : Addr} {k : Int} {tk0 ts tn : Tok} {kn : Int} {w0 w1 w2 w3 w4 w5 w6 w7 w8 w9 : Tok} {v_ring v_room v_mss v_next v_assembly v_told_edge v_fin_at v_has_fin v_urgent_at : Value} {u0 u1 u2 u3 u4 u5 u6 u7 u8 u9 u10 u11 u12 u13 : Tok} {v_limits v_local v_remote v_sender v_clock v_congestion v_acks v_wheel v_probes v_unanswered v_is_nagle : Value} {rest : List (Addr × Obj)} {b : Array UInt8} (hb : b.size ≤ 9) (hk0 : 0 ≤ k) (hk9 : k ≤ 9) (hxd : @Ne Nat xr dr) (hbd : @Ne Nat ba dr) (hxd2 : @Ne Nat x dr) (hdd2 : @Ne Nat dx dr) (hr : ∀ q ∈ rest, q.1 ≠ dr) (hh : hdl = none)
    (hn : news = (ba, baObj b) :: (xr, instObj 1241 dr) :: (dr, recO w.params w0 w1 w2 w3 w4 w5 w6 w7 w8 w9 v_ring v_room v_mss v_next (.ref ba) v_assembly v_told_edge v_fin_at v_has_fin v_urgent_at) :: (x, instObj 927 dx) :: (dx, tcbO w.params u0 u1 u2 u3 u4 u5 u6 u7 u8 u9 u10 u11 u12 u13 v_limits v_local v_remote (.str "closed" ts) v_sender (.ref xr) v_clock v_congestion v_acks v_wheel (.none) v_probes v_unanswered v_is_nagle) :: rest)
    (B : Below A₀ base outer h₀) (F : Fr h₀ L s.heap m) (X : (K w.params).In h₀) (N : News h₀ L s.heap news) (T : Top p loose mean mg mb h₀) (hf : env.frame = some L) (hke : env.scope.kind = .function) (hd : dep < 705) (hu : un < 3000)
    (h : ∀ h' tk r tb l t n, Fr h₀ L h' m → (∀ q ∈ news, q.1 < r) → News h₀ L h' ((t, ({ cls := .type "tuple", data := .seq #[.bytes (tak b k) tb, .ref l] } : Obj)) :: (l, W.listOf #[] n) :: (r, baObj (drp b k)) :: (xr, instObj 1241 dr) :: (dr, recO w.params w0 w1 w2 w3 w4 w5 w6 w7 w8 w9 v_ring v_room v_mss v_next (.ref r) v_assembly v_told_edge v_fin_at v_has_fin v_urgent_at) :: (x, instObj 927 dx) :: (dx, tcbO w.params u0 u1 u2 u3 u4 u5 u6 u7 u8 u9 u10 u11 u12 u13 v_limits v_local v_remote (.str "closed" ts) v_sender (.ref xr) v_clock v_congestion v_acks v_wheel (.none) v_probes v_unanswered v_is_nagle) :: rest) → R (.ok (.ret (.ref t))) { s with heap := h', toks := tk }) :
    codeAny (model PySem.Challenge.rw_xw0352_01.prog w) ⟨hdl, dep, some (env :: outer), gd, un⟩ (.call (.ref 959) ⟨[.ref x, .int k tk0, .int kn tn], []⟩) R s := by
  subst hh
  subst hn
  have hR := h
  clear h
  revert X; k_fill; intro X
  refine' code_def (binds := [("tcb", .ref x), ("many", .int k tk0), ("now", .int kn tn)]) ?k1 ?k2 ?k3 ?k4 ?k5 ?kA ?kF ?kK ?k6 ?k7 ?k8 ?k9 ?kB ?_ ?c2 ?c3 ?c4 ?c5
  case kA => exact rfl
  case kF => exact hf
  case kK => exact hke
  case k1 => exact B
  case k2 => exact F
  case k3 => exact X
  case k4 => exact N
  case k5 => exact T
  case k6 => k_is
  case k7 => k_is
  case k8 => exact Nat.lt_trans hd (by decide)
  case k9 => first | exact BindsTo.of_eq rfl | exact binds_K (by k_in) rfl (by k_is) rfl rfl rfl
  case c5 => decide
  case kB => exact locs rfl
  case c2 => exact rfl
  case c3 => exact rfl
  case c4 => exact rfl
  k_whole
  intro g' L' h' FG' F' N' B' X' T'
  clear F N B X T
  try dsimp only
  change wpAny _ _ _ _ _ _
  k_fold
  k_steps
  refine Stop.mk ?_
  rename News _ _ _ _ => N9
  rename Fr _ _ _ _ => F9
  refine' wpAny_call (c_read (b := b) hb hk0 hk9 hxd hbd ?hr rfl rfl (hd := ?hd) (hu := ?hu) B' F9 X' N9 T' rfl rfl ?_)
  case hd => show dep + 1 < 765; exact lin (k := 1) hd (by decide)
  case hu => show un + 3 < 3500; exact lin (k := 3) hu (by decide)
  case hr => exact List.forall_mem_cons.mpr ⟨hxd2, List.forall_mem_cons.mpr ⟨hdd2, hr⟩⟩
  intro h9 tk9 r tb2 F10 q1 N10
  clear F9 N9
  dsimp only
  k_steps
  · refine Stop.mk ?_
    rename News _ _ _ _ => N9
    rename Fr _ _ _ _ => F9
    refine' wpAny_call (c_ce_none (hd := ?hd) (hu := ?hu) ?hx ?hdx B' F9 X' N9 T' rfl rfl ?_)
    case hx => k_mem
    case hdx => k_mem
    case hd => show dep + 1 < 805; exact lin (k := 1) hd (by decide)
    case hu => show un + 3 < 4000; exact lin (k := 3) hu (by decide)
    intro h8 tk8 F11 N11
    clear F9 N9
    dsimp only
    k_steps
    all_goals
      refine qk_of ?_
      k_unfold
      dsimp only
      refine leaveK_ (by k_asm) (by k_asm) ?_
      intro kF kN
      refine' hR _ _ r _ _ _ _ kF (fun q hq => q1 q (by repeat' first | exact hq | apply List.Mem.tail)) (List.forall_mem_cons.mpr ⟨kN _ (by k_mem), List.forall_mem_cons.mpr ⟨kN _ (by k_mem), fun z hz => kN z (by repeat' first | exact hz | apply List.Mem.tail)⟩⟩)
  all_goals
    refine qk_of ?_
    k_unfold
    dsimp only
    refine leaveK_ (by k_asm) (by k_asm) ?_
    intro kF kN
    refine' hR _ _ r _ _ _ _ kF (fun q hq => q1 q (by repeat' first | exact hq | apply List.Mem.tail)) (List.forall_mem_cons.mpr ⟨kN _ (by k_mem), List.forall_mem_cons.mpr ⟨kN _ (by k_mem), fun z hz => kN z (by repeat' first | exact hz | apply List.Mem.tail)⟩⟩)
theorem c_receive_er (er : Er) {te : Tok} {x dx xr dr ba : Addr} {k : Int} {tk0 ts tn : Tok} {kn : Int} {w0 w1 w2 w3 w4 w5 w6 w7 w8 w9 : Tok} {v_ring v_room v_mss v_next v_assembly v_told_edge v_fin_at v_has_fin v_urgent_at : Value} {u0 u1 u2 u3 u4 u5 u6 u7 u8 u9 u10 u11 u12 u13 : Tok} {v_limits v_local v_remote v_sender v_clock v_congestion v_acks v_wheel v_probes v_unanswered v_is_nagle : Value} {rest : List (Addr × Obj)} {b : Array UInt8} (hb : b.size ≤ 9) (hk0 : 0 ≤ k) (hk9 : k ≤ 9) (hxd : @Ne Nat xr dr) (hbd : @Ne Nat ba dr) (hxd2 : @Ne Nat x dr) (hdd2 : @Ne Nat dx dr) (hr : ∀ q ∈ rest, q.1 ≠ dr) (hh : hdl = none) (hemp : ((tak b k).toList == (#[] : Array UInt8).toList) = true) (hpos : 0 < k)
    (hn : news = (ba, baObj b) :: (xr, instObj 1241 dr) :: (dr, recO w.params w0 w1 w2 w3 w4 w5 w6 w7 w8 w9 v_ring v_room v_mss v_next (.ref ba) v_assembly v_told_edge v_fin_at v_has_fin v_urgent_at) :: (x, instObj 927 dx) :: (dx, tcbO w.params u0 u1 u2 u3 u4 u5 u6 u7 u8 u9 u10 u11 u12 u13 v_limits v_local v_remote (.str "closed" ts) v_sender (.ref xr) v_clock v_congestion v_acks v_wheel (.str er.text te) v_probes v_unanswered v_is_nagle) :: rest)
    (B : Below A₀ base outer h₀) (F : Fr h₀ L s.heap m) (X : (K w.params).In h₀) (N : News h₀ L s.heap news) (T : Top p loose mean mg mb h₀) (hf : env.frame = some L) (hke : env.scope.kind = .function) (hd : dep < 705) (hu : un < 3000)
    (h : ∀ r, (∀ q ∈ news, q.1 < r) → RaisedOut h₀ L m base env outer er.cls er.msg ((r, baObj (drp b k)) :: (xr, instObj 1241 dr) :: (dr, recO w.params w0 w1 w2 w3 w4 w5 w6 w7 w8 w9 v_ring v_room v_mss v_next (.ref r) v_assembly v_told_edge v_fin_at v_has_fin v_urgent_at) :: (x, instObj 927 dx) :: (dx, tcbO w.params u0 u1 u2 u3 u4 u5 u6 u7 u8 u9 u10 u11 u12 u13 v_limits v_local v_remote (.str "closed" ts) v_sender (.ref xr) v_clock v_congestion v_acks v_wheel (.str er.text te) v_probes v_unanswered v_is_nagle) :: rest) s R) :
    codeAny (model PySem.Challenge.rw_xw0352_01.prog w) ⟨hdl, dep, some (env :: outer), gd, un⟩ (.call (.ref 959) ⟨[.ref x, .int k tk0, .int kn tn], []⟩) R s := by
  subst hh
  subst hn
  have hR := h
  clear h
  revert X; k_fill; intro X
  refine' code_def (binds := [("tcb", .ref x), ("many", .int k tk0), ("now", .int kn tn)]) ?k1 ?k2 ?k3 ?k4 ?k5 ?kA ?kF ?kK ?k6 ?k7 ?k8 ?k9 ?kB ?_ ?c2 ?c3 ?c4 ?c5
  case kA => exact rfl
  case kF => exact hf
  case kK => exact hke
  case k1 => exact B
  case k2 => exact F
  case k3 => exact X
  case k4 => exact N
  case k5 => exact T
  case k6 => k_is
  case k7 => k_is
  case k8 => exact Nat.lt_trans hd (by decide)
  case k9 => first | exact BindsTo.of_eq rfl | exact binds_K (by k_in) rfl (by k_is) rfl rfl rfl
  case c5 => decide
  case kB => exact locs rfl
  case c2 => exact rfl
  case c3 => exact rfl
  case c4 => exact rfl
  k_whole
  intro g' L' h' FG' F' N' B' X' T'
  clear F N B X T
  try dsimp only
  change wpAny _ _ _ _ _ _
  k_fold
  k_steps
  refine Stop.mk ?_
  rename News _ _ _ _ => N9
  rename Fr _ _ _ _ => F9
  refine' wpAny_call (c_read (b := b) hb hk0 hk9 hxd hbd ?hr rfl rfl (hd := ?hd) (hu := ?hu) B' F9 X' N9 T' rfl rfl ?_)
  case hd => show dep + 1 < 765; exact lin (k := 1) hd (by decide)
  case hu => show un + 3 < 3500; exact lin (k := 3) hu (by decide)
  case hr => exact List.forall_mem_cons.mpr ⟨hxd2, List.forall_mem_cons.mpr ⟨hdd2, hr⟩⟩
  intro h9 tk9 r tb2 F10 q1 N10
  clear F9 N9
  dsimp only
  k_steps
  refine Stop.mk ?_
  rename News _ _ _ _ => N9
  rename Fr _ _ _ _ => F9
  refine' wpAny_call (c_ce_raise er (hd := ?hd) (hu := ?hu) ?hx ?hdx rfl B' F9 X' N9 T' rfl rfl ?_)
  case hx => k_mem
  case hdx => k_mem
  case hd => show dep + 1 < 805; exact lin (k := 1) hd (by decide)
  case hu => show un + 3 < 4000; exact lin (k := 3) hu (by decide)
  intro e t d tm od h2 tk2 g2 q11 q2 q3 q4
  dsimp only
  k_unfold
  exact raise_on (s := s) (hR r (fun q hq => q1 q (by repeat' first | exact hq | apply List.Mem.tail))) FG' rfl rfl (fun p hp => by repeat' first | exact hp | apply List.Mem.tail) q11 q2 q3 q4
end
end Mine.Internal
end TCRcv
section TLoop
open PySem PySem.W PySem.Calls PyProof.Rows
set_option Elab.async false
set_option maxRecDepth 100000
set_option maxHeartbeats 4000000
namespace Mine.Internal
open Sem (wp)
section
variable {prog : Program} {w : World} {A : Around} {E : Value → Shared → Prop} {s : Shared} {R : Result → Shared → Prop} {x : Str} {px : Pos} {body : List Stmt} {env : Env}
/-- a loop over a list in the heap, by an invariant over the heap at each turn -/
theorem forList_any {it l : Addr} {items : Array Value} (J : Nat → Shared → Prop) (hh : A.handled = none)
    (hJ : ∀ i s', J i s' → s'.heap.IsListIter it l i ∧ s'.heap.IsList l items)
    (turn : ∀ i v s' h₁, items[i]? = some v → J i s' → h₁.IsListIter it l (i + 1) → Heap.SameBut it s'.heap h₁ →
      wpAny (model prog w) A (storeName env x v) (fun _ s₂ => wpAny (model prog w) A (execs body env) (fun f s₃ => match f with
          | .next | .cont => J (i + 1) s₃
          | .brk => R (.ok .next) s₃
          | .ret v => R (.ok (.ret v)) s₃) (notedBy (model prog w) A env fun e s' => R (.error e) s') s₂) (notedBy (model prog w) A env fun e s' => R (.error e) s') { s' with heap := h₁ })
    (done : ∀ s' h₁, J items.size s' → Heap.ExtBut it s'.heap h₁ → R (.ok .next) { s' with heap := h₁ }) (h0 : J 0 s) :
    codeAny (model prog w) A (.forLoop (.Name x px) (.ref it) body [] env) R s := by
  refine codeAny_forLoop (fun n s' => ∃ i, n = items.size + 1 - i ∧ i ≤ items.size ∧ J i s') ?_ (items.size + 1) ⟨0, rfl, Nat.zero_le _, h0⟩
  rintro n s' ⟨i, rfl, hi, hj⟩
  obtain ⟨h1, h2⟩ := hJ i s' hj
  by_cases hlt : i < items.size
  · refine wpAny_pyNext_list_item h1 h2 (x := items[i]) (by simp [hlt]) fun h₁ hit hs => ?_
    dsimp only
    refine wpAny_assign_Name (wpAny_mono (turn i _ s' h₁ (by simp [hlt]) hj hit hs) (fun _ s₂ q => wpAny_mono q (fun f s₃ q => ?_) fun _ _ q => q) fun _ _ q => q)
    cases f with
    | next => exact ⟨items.size + 1 - (i + 1), by omega, i + 1, rfl, hlt, q⟩
    | cont => exact ⟨items.size + 1 - (i + 1), by omega, i + 1, rfl, hlt, q⟩
    | brk => exact q
    | ret v => exact q
  · obtain rfl : i = items.size := by omega
    refine wpAny_pyNext_list_end hh h1 h2 (by simp) fun h₁ hx => ?_
    dsimp only
    exact wpAny_execs_nil (done s' h₁ hj hx)
end
section
variable {h₀ h h₁ : Heap} {L it l : Addr} {m : Str → Option Value} {news : List (Addr × Obj)} {i : Nat}
noncomputable abbrev itObj (l : Addr) (i : Nat) : Obj := { cls := .type "list_iterator", data := .fields #[.ref l, .int i 0] }
/-- the turn of the iterator, in the ledger -/
theorem fr_it (F : Fr h₀ L h m) (hn : h₀.get? it = none) (hL : it ≠ L) (hs : Heap.SameBut it h h₁) : Fr h₀ L h₁ m :=
  ⟨F.ns.sameBut hs hL.symm, fun b o e => (hs.2 b (fun q => by rw [q, hn] at e; cases e)).trans (F.keep b o e), F.above⟩
theorem news_it {o : Obj} (N : News h₀ L h ((it, o) :: news)) (hne : ∀ p ∈ news, p.1 ≠ it) (hs : Heap.SameBut it h h₁) : News h₀ L h₁ news := fun p hp =>
  ⟨(hs.2 p.1 (hne p hp)).trans (N p (.tail _ hp)).1, (N p (.tail _ hp)).2⟩
theorem fr_ext (F : Fr h₀ L h m) (hn : h₀.get? it = none) (hL : it ≠ L) (hs : Heap.ExtBut it h h₁) : Fr h₀ L h₁ m :=
  ⟨F.ns.extBut hs hL.symm, fun b o e => hs b o (fun q => by rw [q, hn] at e; cases e) (F.keep b o e), F.above⟩
theorem news_ext {o : Obj} (N : News h₀ L h ((it, o) :: news)) (hne : ∀ p ∈ news, p.1 ≠ it) (hs : Heap.ExtBut it h h₁) : News h₀ L h₁ news := fun p hp =>
  ⟨hs p.1 p.2 (hne p hp) (N p (.tail _ hp)).1, (N p (.tail _ hp)).2⟩
end
/-- how a turn ends: the invariant, the frame and the news -/
inductive TurnEnd (J : Heap → (Str → Option Value) → List (Addr × Obj) → Prop) (s : Shared) (L' : Addr) (a b : Addr × Obj) (s₃ : Shared) : Prop
  | mk (g₂ : Heap) (m₂ : Str → Option Value) (led₂ : List (Addr × Obj)) (h₂ : Heap) (tk₂ : Nat) (e : s₃ = { s with heap := h₂, toks := tk₂ }) (j : J g₂ m₂ led₂) (F : Fr g₂ L' h₂ m₂) (N : News g₂ L' h₂ (a :: b :: led₂)) (ne : ∀ q ∈ led₂, q.1 ≠ a.1) : TurnEnd J s L' a b s₃
/-- what holds between two turns, with the iterator -/
inductive TurnMid (J : Heap → (Str → Option Value) → List (Addr × Obj) → Prop) (s : Shared) (L' : Addr) (lo : Addr × Obj) (c : Value) (d : Data) (s' : Shared) : Prop
  | mk (h : Heap) (tk : Nat) (g₁ : Heap) (m₁ : Str → Option Value) (led : List (Addr × Obj)) (itO : Obj) (e : s' = { s with heap := h, toks := tk }) (hj : J g₁ m₁ led) (hne : ∀ q ∈ led, q.1 ≠ s.heap.objs.size) (F : Fr g₁ L' h m₁) (N : News g₁ L' h ((s.heap.objs.size, itO) :: lo :: led)) (hc : itO.cls = c) (hd : itO.data = d) : TurnMid J s L' lo c d s'
theorem turn_end {s : Shared} {J : Heap → (Str → Option Value) → List (Addr × Obj) → Prop} {g₂ h₂ : Heap} {m₂ : Str → Option Value} {led₂ : List (Addr × Obj)} {tk₂ : Nat} {L' : Addr} {a b : Addr × Obj} (F : Fr g₂ L' h₂ m₂) (j : J g₂ m₂ led₂) (n : News g₂ L' h₂ (a :: b :: led₂)) (ne : ∀ q ∈ led₂, q.1 ≠ a.1) :
    TurnEnd J s L' a b (⟨h₂, s.gens, s.drawn, tk₂, s.os⟩ : Shared) := ⟨g₂, m₂, led₂, h₂, tk₂, rfl, j, F, n, ne⟩
section
variable {prog : Program} {w : World} {A : Around} {E : Value → Shared → Prop} {s : Shared} {R : Result → Shared → Prop} {x : Str} {px : Pos} {body : List Stmt} {env : Env} {g' : Heap} {L' l : Addr} {m' : Str → Option Value} {lst : List (Addr × Obj)} {items : Array Value} {n : Nat}
theorem for_turns (J : Nat → Heap → (Str → Option Value) → List (Addr × Obj) → Prop) (hh : A.handled = none) (F : Fr g' L' s.heap m') (N : News g' L' s.heap ((l, W.listOf items n) :: lst))
    (turn : ∀ it itO i v g₁ m₁ led h tk, L' < it → l < it → (∀ q ∈ lst, q.1 < it) → items[i]? = some v → J i g₁ m₁ led → (∀ q ∈ led, q.1 ≠ it) → Fr g₁ L' h m₁ → News g₁ L' h ((it, itO) :: (l, W.listOf items n) :: led) →
      wpAny (model prog w) A (storeName env x v) (fun _ s₂ => wpAny (model prog w) A (execs body env) (fun f s₃ => match f with
          | .next | .cont => TurnEnd (J (i + 1)) s L' (it, itO) (l, W.listOf items n) s₃
          | .brk => R (.ok .next) s₃
          | .ret v => R (.ok (.ret v)) s₃) (notedBy (model prog w) A env fun e s' => R (.error e) s') s₂) (notedBy (model prog w) A env fun e s' => R (.error e) s') { s with heap := h, toks := tk })
    (done : ∀ g₁ m₁ led h tk, J items.size g₁ m₁ led → Fr g₁ L' h m₁ → News g₁ L' h ((l, W.listOf items n) :: led) → R (.ok .next) { s with heap := h, toks := tk })
    (h0 : J 0 g' m' lst) :
    wpAny (model prog w) A (pyIter (.ref l)) (fun it s₂ => codeAny (model prog w) A (.forLoop (.Name x px) it body [] env) R s₂) E s := by
  have hl0 := N _ (.head _)
  have lts : ∀ q ∈ lst, q.1 < s.heap.objs.size := fun q hq => Heap.lt_size (N q (.tail _ hq)).1
  have ltl : l < s.heap.objs.size := Heap.lt_size hl0.1
  have ltL : L' < s.heap.objs.size := F.ns.lt
  refine wpAny_pyIter_list ⟨_, hl0.1, rfl, _, rfl⟩ ?_
  refine forList_any (l := l) (items := items) (fun i s' => TurnMid (J i) s L' (l, W.listOf items n) (.type "list_iterator") (.fields #[.ref l, .int i 0]) s') hh ?_ ?_ ?_ ?_
  · rintro i s' ⟨h, tk, g₁, m₁, led, itO, rfl, hj, hne, F₁, N₁, hc, hd⟩
    exact ⟨⟨_, (N₁ _ (.head _)).1, hc, hd⟩, ⟨_, (N₁ _ (.tail _ (.head _))).1, rfl, _, rfl⟩⟩
  · rintro i v s' h₁ hv ⟨h, tk, g₁, m₁, led, itO, rfl, hj, hne, F₁, N₁, hc, hd⟩ ⟨o', ho', hc', hd'⟩ hs
    have hi := N₁ _ (.head _)
    have hall : ∀ q ∈ ((l, W.listOf items n) :: led), q.1 ≠ s.heap.objs.size := fun q hq => by
      rcases List.mem_cons.mp hq with rfl | hq
      · exact Nat.ne_of_lt ltl
      · exact hne q hq
    have N₂ : News g₁ L' h₁ ((s.heap.objs.size, o') :: (l, W.listOf items n) :: led) := fun q hq => by
      rcases List.mem_cons.mp hq with rfl | hq
      · exact ⟨ho', hi.2⟩
      · exact news_it N₁ hall hs q hq
    refine wpAny_mono (turn _ o' i v g₁ m₁ led h₁ tk ltL ltl lts hv hj hne (fr_it F₁ hi.2.2 hi.2.1 hs) N₂) (fun _ s₂ q => wpAny_mono q (fun f s₃ q => ?_) fun _ _ q => q) fun _ _ q => q
    have conv : (TurnEnd (J (i + 1)) s L' (s.heap.objs.size, o') (l, W.listOf items n) s₃) →
        TurnMid (J (i + 1)) s L' (l, W.listOf items n) (.type "list_iterator") (.fields #[.ref l, .int ((i + 1 : Nat) : Int) 0]) s₃ := by
      rintro ⟨g₂, m₂, led₂, h₂, tk₂, e, j, f, n', d⟩
      exact ⟨h₂, tk₂, g₂, m₂, led₂, o', e, j, d, f, n', hc', hd'⟩
    cases f with
    | next => exact conv q
    | cont => exact conv q
    | brk => exact q
    | ret v => exact q
  · rintro s' h₁ ⟨h, tk, g₁, m₁, led, itO, rfl, hj, hne, F₁, N₁, hc, hd⟩ hs
    have hi := N₁ _ (.head _)
    have hall : ∀ q ∈ ((l, W.listOf items n) :: led), q.1 ≠ s.heap.objs.size := fun q hq => by
      rcases List.mem_cons.mp hq with rfl | hq
      · exact Nat.ne_of_lt ltl
      · exact hne q hq
    exact done g₁ m₁ led h₁ tk hj (fr_ext F₁ hi.2.2 hi.2.1 hs) (news_ext N₁ hall hs)
  · have NN := N.push F (itObj l 0)
    exact ⟨_, s.toks, g', m', lst, itObj l 0, rfl, h0, fun q hq => Nat.ne_of_lt (lts q hq), F.push _, NN, rfl, rfl⟩
end
section
variable {prog : Program} {w : World} {A : Around} {E : Value → Shared → Prop} {s : Shared} {R : Result → Shared → Prop} {target : PySem.Expr} {body : List Stmt} {env : Env} {g' : Heap} {L' l : Addr} {m' : Str → Option Value} {news : List (Addr × Obj)} {n : Nat}
/-- a loop over an empty list -/
theorem for_empty (hh : A.handled = none) (F : Fr g' L' s.heap m') (N : News g' L' s.heap news) (hm : (l, W.listOf #[] n) ∈ news)
    (h : ∀ h', Fr g' L' h' m' → News g' L' h' news → R (.ok .next) { s with heap := h' }) :
    wpAny (model prog w) A (pyIter (.ref l)) (fun it s₂ => codeAny (model prog w) A (.forLoop target it body [] env) R s₂) E s := by
  have hl0 := N _ hm
  refine wpAny_pyIter_list ⟨_, hl0.1, rfl, _, rfl⟩ ?_
  refine codeAny_forLoop_any (fun k s' => s' = { s with heap := s.heap.push (itObj l 0) }) ?_ 0 rfl
  rintro _ s' rfl
  have F₁ := F.push (itObj l 0)
  have N₁ : News g' L' (s.heap.push (itObj l 0)) news := fun p hp => ⟨Heap.get?_push_of_some _ (N p hp).1, (N p hp).2⟩
  have hit : (s.heap.push (itObj l 0)).IsListIter s.heap.objs.size l 0 := ⟨_, Heap.get?_push_size _ rfl, rfl, rfl⟩
  have lts : ∀ q ∈ news, q.1 < s.heap.objs.size := fun q hq => Heap.lt_size (N q hq).1
  refine wpAny_pyNext_list_end hh hit ⟨_, (N₁ _ hm).1, rfl, _, rfl⟩ (by simp) fun h₁ hx => ?_
  dsimp only
  refine wpAny_execs_nil (h h₁ ⟨F₁.ns.extBut hx (Nat.ne_of_lt F.ns.lt), fun b o e => hx b o (fun q => ?_) (F₁.keep b o e), F.above⟩ fun p hp => ⟨hx p.1 p.2 (Nat.ne_of_lt (lts p hp)) (N₁ p hp).1, (N p hp).2⟩)
  rw [q] at e
  exact absurd (Heap.lt_size e) (Nat.not_lt_of_le (Nat.le_trans F.above (Nat.le_of_lt F.ns.lt)))
end
end Mine.Internal
end TLoop
section TEndsDef
open PySem PySem.W PyProof.Rows PySem.Calls
set_option Elab.async false
set_option maxRecDepth 100000
namespace Mine.Internal
noncomputable def bodyOf : Stmt → List Stmt
  | .FunctionDef _ _ body _ _ _ _ _ _ _ => body
  | _ => []
noncomputable def scopeOf : Stmt → Scope
  | .FunctionDef _ _ _ _ _ _ scope _ _ _ => scope
  | _ => default
noncomputable def endsBody : List Stmt := bodyOf (stm 92)
noncomputable def endsScope : Scope := scopeOf (stm 92)
noncomputable def lawBody : List Stmt := bodyOf (stm 93)
noncomputable def lawScope : Scope := scopeOf (stm 93)
noncomputable abbrev endsEnv (L' : Addr) : Env := envOfC (Str.ofString "_law_ends_right") endsScope L' 1287 (.ref 1286)
theorem drp_zero (b : Array UInt8) : drp b 0 = b := by unfold drp; simp
theorem drp_drp (b : Array UInt8) {a k : Int} (ha : 0 ≤ a) (hk : 0 ≤ k) : drp (drp b a) k = drp b (min (b.size : Int) (a + k)) := by
  obtain ⟨i, rfl⟩ := Int.eq_ofNat_of_zero_le ha
  obtain ⟨j, rfl⟩ := Int.eq_ofNat_of_zero_le hk
  unfold drp
  rw [← Int.natCast_add, ← cast_min]
  simp only [Int.toNat_natCast, List.drop_drop]
  congr 1
  rcases Nat.le_total (i + j) b.size with h | h
  · rw [Nat.min_eq_right h]
  · rw [Nat.min_eq_left h, List.drop_of_length_le (by rw [Array.length_toList]; exact h), List.drop_of_length_le (Nat.le_of_eq Array.length_toList)]
theorem drp_size (b : Array UInt8) {a : Int} (ha : 0 ≤ a) (hb : a ≤ b.size) : ((drp b a).size : Int) = b.size - a := by
  obtain ⟨i, rfl⟩ := Int.eq_ofNat_of_zero_le ha
  unfold drp
  rw [List.size_toArray, List.length_drop, Int.toNat_natCast, Array.length_toList]
  exact Int.natCast_sub (Int.ofNat_le.mp hb)
theorem tak_drp (b : Array UInt8) {a k : Int} (ha : 0 ≤ a) (hk : 0 ≤ k) : KBy.picked b (some a) (some (a + k)) = tak (drp b a) k := by
  rw [picked_mid ha (by omega)]
  unfold tak drp
  rw [show a + k - a = k by omega]
theorem tak_ne (b : Array UInt8) {a k : Int} (ha : 0 ≤ a) (hb : a < b.size) (hk : 0 < k) : ((tak (drp b a) k).toList == (#[] : Array UInt8).toList) = false := by
  have h1 := tak_size (drp b a) (Int.le_of_lt hk)
  have h2 := drp_size b ha (Int.le_of_lt hb)
  cases q : (tak (drp b a) k).toList == (#[] : Array UInt8).toList with
  | false => rfl
  | true =>
    have e := eq_of_beq q
    have : (tak (drp b a) k).size = 0 := by rw [← Array.length_toList, e]; rfl
    omega
theorem tak_emp (b : Array UInt8) {a k : Int} (hb : a = b.size) : ((tak (drp b a) k).toList == (#[] : Array UInt8).toList) = true := by
  subst hb
  have e : drp b (b.size : Int) = #[] := by unfold drp; simp
  rw [e]; unfold tak; simp
end Mine.Internal
end TEndsDef
section TTupNe
open PySem PySem.W PySem.Calls PyProof.Rows
set_option Elab.async false
set_option maxRecDepth 100000
set_option maxHeartbeats 4000000
namespace Mine.Internal
open SeqAt
noncomputable abbrev tup2 (a b : Value) : Obj := { cls := .type "tuple", data := .seq #[a, b] }
section
variable {prog : Program} {w : World} {A : Around} {E : Value → Shared → Prop} {s : Shared} {h₀ : Heap} {L : Addr} {news : List (Addr × Obj)}
theorem eqAt_bytes (b : Array UInt8) (t u : Tok) : EqAt A s (.bytes b t) (.bytes b u) true := fun prog w E Q h => by
  unfold eqBool
  refine wpAny_holding ?_
  refine wpAny_ite_split (fun hab => ?_) (fun _ => ?_)
  · exact wpAny_bind (wpAny_rule (wpAny_pure h))
  · refine wpAny_bind (eq_bytes ?_ : wpAny _ _ (compareOp .Eq (.bytes b t) (.bytes b u)) _ _ _)
    rw [beq_self_eq_true]
    exact wpAny_truthy_bool h
theorem ne_tup2 {t1 t2 l1 l2 : Addr} {b : Array UInt8} {u1 u2 : Tok} {n1 n2 : Nat} {Q : Value → Shared → Prop} (N : News h₀ L s.heap news)
    (h1 : (t1, tup2 (.bytes b u1) (.ref l1)) ∈ news) (h2 : (l1, W.listOf #[] n1) ∈ news) (h3 : (t2, tup2 (.bytes b u2) (.ref l2)) ∈ news) (h4 : (l2, W.listOf #[] n2) ∈ news) (hne : @Ne Nat l1 l2)
    (hu : A.units + 1 < cLine) (h : Q (.bool false) s) : wpAny (model prog w) A (compareOp .NotEq (.ref t1) (.ref t2)) Q E s := by
  have o1 := (N _ h1).1
  have o3 := (N _ h3).1
  refine cmp_ofNotEq (richCompare_meets_room (op := .NotEq) ⟨_, o1, rfl⟩ ⟨_, o3, rfl⟩ F.slot_tuple_ne F.entry_tuple_ne (F.args_tuple_ne_2 _ _)
    (tuple_neAt t1 t2 #[.bytes b u1, .ref l1] #[.bytes b u2, .ref l2] 0 0 none none #[] #[] (fun _ => true)) ⟨o1, o3, ?_, ?_⟩ (Nat.lt_of_succ_lt hu))
  · intro j j1 j2
    have : j = 0 ∨ j = 1 := by simp at j1; omega
    rcases this with rfl | rfl
    · exact eqAt_bytes b u1 u2
    · refine EqAt.of_refs hne ?_
      have := RcAt.lists (A := A.in1) (s := s) (e := fun _ => true) ⟨_, (N _ h2).1, rfl, _, rfl⟩ ⟨_, (N _ h4).1, rfl, _, rfl⟩ rfl (by rw [units_in1]; exact hu) (fun j j1 => absurd j1 (by simp))
      simpa using this
  · exact ⟨(fun q => nomatch q), h⟩
end
end Mine.Internal
end TTupNe
section TLoop3
open PySem PySem.W PyProof.Rows PySem.Calls
set_option Elab.async false
set_option maxRecDepth 100000
set_option maxHeartbeats 8000000
namespace Mine.Internal
section
variable {w : World} {A₀ : Around} {hdl : Option Value} {dep un : Nat} {gd : Option (List Code)} {E : Value → Shared → Prop} {s : Shared} {h₀ base : Heap} {L : Addr} {m mg mb : Str → Option Value} {news : List (Addr × Obj)} {p : Program} {loose : List Str} {mean : ExcName → Option Value}
  {env : Env} {outer : List Env} {R : Result → Shared → Prop}
theorem len_baN {prog : Program} {A : Around} {b : Array UInt8} {x : Addr} {Q : Value → Shared → Prop} (N : News h₀ L s.heap news) (hm : (x, baObj b) ∈ news) (hz : b.size ≤ 1000) (h : ∀ t k, Q (.int b.size t) { s with toks := k }) :
    wpAny (model prog w) A (call (.builtin "len") [.ref x]) Q E s := len_ba (N _ hm).1 hz h
/-- a condition that changes the tokens alone: the walk behind it goes on once -/
structure IsT (P : Bool → Prop) (s : Shared) (c : Bool) (s' : Shared) : Prop where
  p : P c
  e : ∃ tk, s' = { s with toks := tk }
theorem isT_once {M : Model} {A : Around} {E : Value → Shared → Prop} {t : Sem Bool} {Q : Bool → Shared → Prop} (P : Bool → Prop) (h : wpAny M A t (IsT P s) E s) (k : ∀ c tk, P c → Q c { s with toks := tk }) : wpAny M A t Q E s :=
  wpAny_mono h (fun c _ q => by obtain ⟨p, tk, rfl⟩ := q; exact k c tk p) fun _ _ q => q
theorem stop_isT {M : Model} {A : Around} {E : Value → Shared → Prop} {a b c : PySem.Expr} {o p} {v : Sem Value} {Q : Bool → Shared → Prop} (h : Stop (wpAny M A (PySem.isTrue (.BoolOp o [a, b, c] p) env v) Q E s)) : wpAny M A (PySem.isTrue (.BoolOp o [a, b, c] p) env v) Q E s := h.out
end
end Mine.Internal
end TLoop3
section Rules2
local macro_rules | `(tactic| walk_at "isTrue BoolOp") => `(tactic| (k_here; with_reducible refine' Mine.Internal.stop_isT ?_))
local macro_rules | `(tactic| walk_at "compareOp NotEq ref ref") => `(tactic| (k_here; k_dflt (refine' Mine.Internal.ne_tup2 ?kN ?h1 ?h2 ?h3 ?h4 ?hne ?hu ?_; (case kN => k_asm); (case h1 => k_mem); (case h2 => k_mem); (case h3 => k_mem); (case h4 => k_mem); (case hne => k_ne); (case hu => walk_at "my units"))))
local macro_rules | `(tactic| walk_at "call builtin:len") => `(tactic| (k_here; k_dflt (refine' Mine.Internal.len_baN ?kN ?h1 ?hz ?_; (case kN => k_asm); (case h1 => k_mem); (case hz => first | assumption | omega); intro _ _)))
section TCLoopN
open PySem PySem.W PyProof.Rows PySem.Calls
set_option Elab.async false
set_option maxRecDepth 100000
set_option maxHeartbeats 8000000
namespace Mine.Internal
section
variable {w : World} {A₀ : Around} {hdl : Option Value} {dep un : Nat} {gd : Option (List Code)} {E : Value → Shared → Prop} {s : Shared} {h₀ base : Heap} {L : Addr} {m mg mb : Str → Option Value} {news : List (Addr × Obj)} {p : Program} {loose : List Str} {mean : ExcName → Option Value}
  {env : Env} {outer : List Env} {R : Result → Shared → Prop}
theorem pick2 {g h : Heap} {L : Addr} {a b c d e f k : Addr × Obj} {rest : List (Addr × Obj)} (N : News g L h (a :: b :: c :: d :: e :: f :: k :: rest)) : News g L h (c :: d :: e :: f :: k :: a :: b :: rest) := by
  repeat (refine List.forall_mem_cons.mpr ⟨N _ (by k_mem), ?_⟩)
  exact fun z hz => N z (by repeat' first | exact hz | apply List.Mem.tail)
theorem at_next {a k n : Int} (h0 : 0 ≤ a) (hk : 0 ≤ k) (hn : a ≤ n) : 0 ≤ (if a + k < n then a + k else n) ∧ (if a + k < n then a + k else n) ≤ n ∧ (if a + k < n then a + k else n) = min n (a + k) := by
  by_cases h : a + k < n
  · rw [if_pos h]; exact ⟨Int.add_nonneg h0 hk, Int.le_of_lt h, (Int.min_eq_right (Int.le_of_lt h)).symm⟩
  · rw [if_neg h]; exact ⟨Int.le_trans h0 hn, Int.le_refl _, (Int.min_eq_left (Int.not_lt.mp h)).symm⟩
theorem le9 {b : Array UInt8} {a : Int} (hb : b.size ≤ 9) (h0 : 0 ≤ a) (h1 : a ≤ b.size) : (drp b a).size ≤ 9 := by
  have := drp_size b h0 h1; omega
/-- what holds between two turns over the wants -/
inductive LoJ (P1 P2 P3 : Prop) (m₁ : Str → Option Value) (bs : Int) (xr : Addr) (D : Int → Addr → Obj → List (Addr × Obj)) (led : List (Addr × Obj)) : Prop
  | mk (h1 : P1) (h2 : P2) (h3 : P3) (a : Int) (ta : Tok) (r : Addr) (cM : Obj) (v : Option Value) (hm : m₁ "at" = some (.int a ta)) (h0 : 0 ≤ a) (hle : a ≤ bs) (hr : @LT.lt Nat _ xr r) (hc : cM.data = .cell v) (hl : led = D a r cM) : LoJ P1 P2 P3 m₁ bs xr D led
theorem c_loop_none {g' : Heap} {L' : Addr} {m' : Str → Option Value} {x dx xr dr ba : Addr} {ts : Tok} {w0 w1 w2 w3 w4 w5 w6 w7 w8 w9 : Tok} {v_ring v_room v_mss v_next v_assembly v_told_edge v_fin_at v_has_fin v_urgent_at : Value} {u0 u1 u2 u3 u4 u5 u6 u7 u8 u9 u10 u11 u12 u13 : Tok} {v_limits v_local v_remote v_sender v_clock v_congestion v_acks v_wheel v_probes v_unanswered v_is_nagle : Value} {rest : List (Addr × Obj)} {b : Array UInt8} {cM cT : Obj} {tb ta : Tok} {wl : Addr} {items : Array Value} {n : Nat} {Q : Flow → Shared → Prop} (hb : b.size ≤ 9) (hcM : ∃ v, cM.data = .cell v) (hcT : cT.data = .cell (some (.ref x)))
    (o0 : @LT.lt Nat _ (L' + 2) dx) (o1 : @LT.lt Nat _ dx x) (o2 : @LT.lt Nat _ x dr) (o3 : @LT.lt Nat _ dr xr) (o4 : @LT.lt Nat _ xr ba) (hwL : @LT.lt Nat _ wl L') (hrd : ∀ q ∈ rest, q.1 ≠ dr) (hrm : ∀ q ∈ rest, q.1 ≠ L' + 1)
    (hit : ∀ (i : Nat) (v : Value), items[i]? = some v → ∃ k t, v = .int k t ∧ 0 ≤ k ∧ k ≤ 9) (hwl : (wl, W.listOf items n) ∈ rest)
    (me : m' "error" = some .none) (mo : m' "octets" = some (.bytes b tb)) (ma : m' "at" = some (.int 0 ta)) (mw : m' "wants" = some (.ref wl))
    (B' : Below ⟨none, dep, some (env :: outer), gd, un⟩ base (env :: outer) g') (F' : Fr g' L' s.heap m') (X' : (K w.params).In g') (T' : Top p loose mean mg mb g') (hd : dep < 505) (hu : un < 1900) (N' : News g' L' s.heap ((ba, baObj b) :: (xr, instObj 1241 dr) :: (dr, recO w.params w0 w1 w2 w3 w4 w5 w6 w7 w8 w9 v_ring v_room v_mss v_next (.ref ba) v_assembly v_told_edge v_fin_at v_has_fin v_urgent_at) :: (x, instObj 927 dx) :: (dx, tcbO w.params u0 u1 u2 u3 u4 u5 u6 u7 u8 u9 u10 u11 u12 u13 v_limits v_local v_remote (.str "closed" ts) v_sender (.ref xr) v_clock v_congestion v_acks v_wheel (.none) v_probes v_unanswered v_is_nagle) :: (L' + 1, cM) :: (L' + 2, cT) :: rest))
    (h : ∀ h'' tk m'', Fr g' L' h'' m'' → News g' L' h'' rest → Q (.ret (.bool true)) { s with heap := h'', toks := tk }) :
    wpAny (model PySem.Challenge.rw_xw0352_01.prog w) (Around.deeper ⟨none, dep, some (env :: outer), gd, un⟩ (endsEnv L')) (execs (List.drop 8 endsBody) (endsEnv L')) Q E s := by
  have hQ := h
  clear h
  rw [show List.drop 8 endsBody = [_, _] from rfl]
  unfold endsEnv
  rw [show endsScope = ⟨_, _, _, _, _⟩ from rfl]
  have F2 := fr_map (x := "at") (fr_map (x := "octets") (fr_map (x := "error") (fr_map (x := "wants") F' mw) (by (repeat rw [if_neg (by decide)]); exact me)) (by (repeat rw [if_neg (by decide)]); exact mo)) (by (repeat rw [if_neg (by decide)]); exact ma)
  clear F'
  revert X'; k_fill; intro X'
  change wpAny _ _ _ _ _ _
  k_steps
  refine Stop.mk ?_
  refine wpAny_For ?_
  k_fold
  k_steps
  refine Stop.mk ?_
  rename News _ _ _ _ => N9
  rename Fr _ _ _ _ => F9
  refine for_turns (fun i g₁ m₁ led => LoJ (g₁ = g') (m₁ "error" = some .none) (m₁ "octets" = some (.bytes b tb)) m₁ (b.size : Int) xr (fun a r cM => (r, baObj (drp b a)) :: (xr, instObj 1241 dr) :: (dr, recO w.params w0 w1 w2 w3 w4 w5 w6 w7 w8 w9 v_ring v_room v_mss v_next (.ref r) v_assembly v_told_edge v_fin_at v_has_fin v_urgent_at) :: (x, instObj 927 dx) :: (dx, tcbO w.params u0 u1 u2 u3 u4 u5 u6 u7 u8 u9 u10 u11 u12 u13 v_limits v_local v_remote (.str "closed" ts) v_sender (.ref xr) v_clock v_congestion v_acks v_wheel (.none) v_probes v_unanswered v_is_nagle) :: (L' + 1, cM) :: (L' + 2, cT) :: rest) led) rfl F9 (news_cons N9 N9 (by repeat' first | exact hwl | apply List.Mem.tail)) ?_ ?_ ?_
  rotate_left 2
  · obtain ⟨cv, hcv⟩ := hcM
    exact ⟨rfl, rfl, rfl, 0, ta, ba, cM, cv, rfl, by decide, Int.natCast_nonneg _, o4, hcv, by rw [drp_zero]⟩
  rotate_left 1
  · intro g₁ m₁ led h₁ tk₁ hJ F₁ N₁
    obtain ⟨hg, hme, hmo, a, ta1, r, cM1, v1, hma, ha0, ha1, hr1, hc1, hled⟩ := hJ
    subst hg
    subst hled
    have F₂ := fr_map (x := "at") (fr_map (x := "octets") (fr_map (x := "error") F₁ hme) (by (repeat rw [if_neg (by decide)]); exact hmo)) (by (repeat rw [if_neg (by decide)]); exact hma)
    have hsz : (drp b a).size ≤ 1000 := Nat.le_trans (le9 hb ha0 ha1) (by decide)
    have hsz2 := drp_size b ha0 ha1
    clear F₁
    change wpAny _ _ _ _ _ _
    have hfin : (((drp b a).size : Int) == (b.size : Int) - a) = true := by rw [hsz2]; exact beq_self_eq_true _
    k_steps
    rename News _ _ _ _ => N8
    rename Fr _ _ _ _ => F8
    rw [hfin]
    exact hQ _ _ _ F8 (fun z hz => N8 z (by repeat' first | exact hz | apply List.Mem.tail))
  clear F9 N9
  intro it itO i v g₁ m₁ led h₁ tk₁ hLit hlit hlst hv hJ hne F₁ N₁
  obtain ⟨hg, hme, hmo, a, ta1, r, cM1, v1, hma, ha0, ha1, hr1, hc1, hled⟩ := hJ
  subst hg
  subst hled
  obtain ⟨k, tk0, rfl, hk0, hk9⟩ := hit _ _ hv
  have e1 : @Ne Nat it dr := Ne.symm (hne (dr, _) (.tail _ (.tail _ (.head _))))
  have e2 : @Ne Nat it (L' + 1) := Ne.symm (hne (L' + 1, _) (.tail _ (.tail _ (.tail _ (.tail _ (.tail _ (.head _)))))))
  have F₂ := fr_map (x := "at") (fr_map (x := "octets") (fr_map (x := "error") F₁ hme) (by (repeat rw [if_neg (by decide)]); exact hmo)) (by (repeat rw [if_neg (by decide)]); exact hma)
  have hsz : (drp b a).size ≤ 9 := le9 hb ha0 ha1
  have hL : @LT.lt Nat _ L' dr := Nat.lt_trans (Nat.lt_of_succ_lt (Nat.lt_of_succ_lt o0)) (Nat.lt_trans o1 o2)
  have hL2 : @LT.lt Nat _ (L' + 2) dr := Nat.lt_trans o0 (Nat.lt_trans o1 o2)
  have hxr2 : @LT.lt Nat _ (L' + 2) xr := Nat.lt_trans hL2 o3
  have up1 : ∀ {v : Nat}, L' + 2 < v → @Ne Nat v (L' + 1) := fun h => Nat.ne_of_gt (Nat.lt_of_succ_lt h)
  have g1 : @Ne Nat r (L' + 1) := up1 (Nat.lt_trans hxr2 hr1)
  have g2 : @Ne Nat xr (L' + 1) := up1 hxr2
  have g3 : @Ne Nat dr (L' + 1) := up1 hL2
  have g4 : @Ne Nat x (L' + 1) := up1 (Nat.lt_trans o0 o1)
  have g5 : @Ne Nat dx (L' + 1) := up1 o0
  have g6 : @Ne Nat wl (L' + 1) := Nat.ne_of_lt (Nat.lt_succ_of_lt hwL)
  have g7 : @Ne Nat (L' + 2) (L' + 1) := Nat.ne_of_gt (Nat.lt_succ_self _)
  clear hxr2 up1
  clear F₁
  change wpAny _ _ _ _ _ _
  k_fold
  k_steps
  refine Stop.mk ?_
  refine isT_once (· = false) ?_ ?_
  · refine isTrue_and ?_
    k_steps
    all_goals exact ⟨rfl, _, rfl⟩
  intro c tkc hc
  subst hc
  change wpAny _ _ _ _ _ _
  k_steps
  refine Stop.mk ?_
  rename News _ _ _ _ => N8
  rename Fr _ _ _ _ => F8
  replace N8 := pick2 N8
  refine' wpAny_call (c_receive_none (b := drp b a) hsz hk0 hk9 (Nat.ne_of_gt o3) (Nat.ne_of_gt (Nat.lt_trans o3 hr1)) (Nat.ne_of_lt o2) (Nat.ne_of_lt (Nat.lt_trans o1 o2)) ?hr rfl rfl (hd := ?hd) (hu := ?hu) B' F8 X' N8 T' rfl rfl ?_)
  case hd => show dep + 1 < 705; exact lin (k := 1) hd (by decide)
  case hu => show un + 3 < 3000; exact lin (k := 3) hu (by decide)
  case hr => exact List.forall_mem_cons.mpr ⟨e1, List.forall_mem_cons.mpr ⟨Nat.ne_of_lt (Nat.lt_trans hwL hL), List.forall_mem_cons.mpr ⟨Nat.ne_of_lt (Nat.lt_of_succ_lt hL2), List.forall_mem_cons.mpr ⟨Nat.ne_of_lt hL2, hrd⟩⟩⟩⟩
  intro h8 tk8 r2 tb2 l2 t2 n2 F10 q1 N10
  clear F8 N8
  change wpAny _ _ _ _ _ _
  k_fold
  k_steps
  refine KBc.slice_K (s := ⟨_, _, _, _, _⟩) F10 N10 rfl (by constructor) (by constructor) (by rw [KBw.ints_length]; exact Nat.le_trans hb (by decide)) ?_
  intro h7 t7 k7 F11 N11 _
  rw [tak_drp b ha0 hk0]
  clear F10 N10
  k_steps
  rename News _ _ _ _ => N9
  rename Fr _ _ _ _ => F9
  rename _ = Data.cell (some (Value.int k tk0)) => hd'
  obtain ⟨x1, x2, x3⟩ := at_next ha0 hk0 ha1
  rw [drp_drp b ha0 hk0, ← x3] at N9
  rename Obj => oC
  refine' turn_end (s := s) (led₂ := (r2, baObj (drp b (if a + k < (b.size : Int) then a + k else (b.size : Int)))) :: (xr, instObj 1241 dr) :: (dr, recO w.params w0 w1 w2 w3 w4 w5 w6 w7 w8 w9 v_ring v_room v_mss v_next (.ref r2) v_assembly v_told_edge v_fin_at v_has_fin v_urgent_at) :: (x, instObj 927 dx) :: (dx, tcbO w.params u0 u1 u2 u3 u4 u5 u6 u7 u8 u9 u10 u11 u12 u13 v_limits v_local v_remote (.str "closed" ts) v_sender (.ref xr) v_clock v_congestion v_acks v_wheel (.none) v_probes v_unanswered v_is_nagle) :: (L' + 1, oC) :: (L' + 2, cT) :: rest) F9 ?J ?Nw ?ne
  case J => exact ⟨rfl, rfl, rfl, _, _, r2, _, _, rfl, x1, x2, q1 (xr, _) (by k_mem), hd', rfl⟩
  case Nw =>
    repeat (refine List.forall_mem_cons.mpr ⟨N9 _ (by k_mem), ?_⟩)
    exact fun z hz => N9 z (by repeat' first | exact hz | apply List.Mem.tail)
  case ne => exact List.forall_mem_cons.mpr ⟨Nat.ne_of_gt (q1 (it, _) (by k_mem)), List.forall_mem_cons.mpr ⟨hne (xr, _) (by k_mem), List.forall_mem_cons.mpr ⟨Ne.symm e1, List.forall_mem_cons.mpr ⟨hne (x, _) (by k_mem), List.forall_mem_cons.mpr ⟨hne (dx, _) (by k_mem), List.forall_mem_cons.mpr ⟨Ne.symm e2, List.forall_mem_cons.mpr ⟨hne (L' + 2, _) (by k_mem), fun z hz => hne z (by repeat' first | exact hz | apply List.Mem.tail)⟩⟩⟩⟩⟩⟩⟩
end
end Mine.Internal
end TCLoopN
section TCWord
open PySem PySem.W PyProof.Rows PySem.Calls
set_option Elab.async false
set_option maxRecDepth 100000
set_option maxHeartbeats 8000000
namespace Mine.Internal
section
variable {w : World} {A₀ : Around} {hdl : Option Value} {dep un : Nat} {gd : Option (List Code)} {E : Value → Shared → Prop} {s : Shared} {h₀ base : Heap} {L : Addr} {m mg mb : Str → Option Value} {news : List (Addr × Obj)} {p : Program} {loose : List Str} {mean : ExcName → Option Value}
  {env : Env} {outer : List Env} {R : Result → Shared → Prop}
noncomputable def Er.word : Er → Str
  | .late => "late: the other end does not answer" | .refused => "reset: the connection is " ++ "refused" | .reset => "reset: the connection is " ++ "reset"
noncomputable def Er.pre : Er → Str
  | .late => "late: " | .refused => "reset: " | .reset => "reset: "
theorem Er.word_eq (er : Er) : er.pre ++ er.msg = er.word := by cases er <;> decide +kernel
theorem c_word_none 
    (B : Below A₀ base outer h₀) (F : Fr h₀ L s.heap m) (X : (K w.params).In h₀) (N : News h₀ L s.heap news) (T : Top p loose mean mg mb h₀) (hf : env.frame = some L) (hke : env.scope.kind = .function) (hd : dep < 805) (hu : un < 4000)
    (h : ∀ h' tk, Fr h₀ L h' m → News h₀ L h' news → R (.ok (.ret (.none))) { s with heap := h', toks := tk }) :
    codeAny (model PySem.Challenge.rw_xw0352_01.prog w) ⟨hdl, dep, some (env :: outer), gd, un⟩ (.call (.ref 1273) ⟨[.none], []⟩) R s := by
  revert X; k_fill; intro X
  refine' code_def (binds := [("error", .none)]) ?k1 ?k2 ?k3 ?k4 ?k5 ?kA ?kF ?kK ?k6 ?k7 ?k8 ?k9 ?kB ?_ ?c2 ?c3 ?c4 ?c5
  case kA => exact rfl
  case kF => exact hf
  case kK => exact hke
  case k1 => exact B
  case k2 => exact F
  case k3 => exact X
  case k4 => exact N
  case k5 => exact T
  case k6 => k_is
  case k7 => k_is
  case k8 => exact Nat.lt_trans hd (by decide)
  case k9 => first | exact BindsTo.of_eq rfl | exact binds_K (by k_in) rfl (by k_is) rfl rfl rfl
  case c5 => decide
  case kB => exact locs rfl
  case c2 => exact rfl
  case c3 => exact rfl
  case c4 => exact rfl
  k_whole
  intro g' L' h' FG' F' N' B' X' T'
  clear F N B X T
  try dsimp only
  k_fold
  k_steps
  exact leaveK_ (by k_asm) (by k_asm) fun kF kN => h _ _ kF kN
theorem c_word_late {te : Tok}
    (B : Below A₀ base outer h₀) (F : Fr h₀ L s.heap m) (X : (K w.params).In h₀) (N : News h₀ L s.heap news) (T : Top p loose mean mg mb h₀) (hf : env.frame = some L) (hke : env.scope.kind = .function) (hd : dep < 805) (hu : un < 4000)
    (h : ∀ h' tk tw, Fr h₀ L h' m → News h₀ L h' news → R (.ok (.ret (.str Er.late.word tw))) { s with heap := h', toks := tk }) :
    codeAny (model PySem.Challenge.rw_xw0352_01.prog w) ⟨hdl, dep, some (env :: outer), gd, un⟩ (.call (.ref 1273) ⟨[.str "timed out" te], []⟩) R s := by
  revert X; k_fill; intro X
  refine' code_def (binds := [("error", .str "timed out" te)]) ?k1 ?k2 ?k3 ?k4 ?k5 ?kA ?kF ?kK ?k6 ?k7 ?k8 ?k9 ?kB ?_ ?c2 ?c3 ?c4 ?c5
  case kA => exact rfl
  case kF => exact hf
  case kK => exact hke
  case k1 => exact B
  case k2 => exact F
  case k3 => exact X
  case k4 => exact N
  case k5 => exact T
  case k6 => k_is
  case k7 => k_is
  case k8 => exact Nat.lt_trans hd (by decide)
  case k9 => first | exact BindsTo.of_eq rfl | exact binds_K (by k_in) rfl (by k_is) rfl rfl rfl
  case c5 => decide
  case kB => exact locs rfl
  case c2 => exact rfl
  case c3 => exact rfl
  case c4 => exact rfl
  k_whole
  intro g' L' h' FG' F' N' B' X' T'
  clear F N B X T
  try dsimp only
  k_fold
  k_steps
  exact leaveK_ (by k_asm) (by k_asm) fun kF kN => h _ _ _ kF kN
theorem c_word_refused {te : Tok}
    (B : Below A₀ base outer h₀) (F : Fr h₀ L s.heap m) (X : (K w.params).In h₀) (N : News h₀ L s.heap news) (T : Top p loose mean mg mb h₀) (hf : env.frame = some L) (hke : env.scope.kind = .function) (hd : dep < 805) (hu : un < 4000)
    (h : ∀ h' tk tw, Fr h₀ L h' m → News h₀ L h' news → R (.ok (.ret (.str Er.refused.word tw))) { s with heap := h', toks := tk }) :
    codeAny (model PySem.Challenge.rw_xw0352_01.prog w) ⟨hdl, dep, some (env :: outer), gd, un⟩ (.call (.ref 1273) ⟨[.str "refused" te], []⟩) R s := by
  revert X; k_fill; intro X
  refine' code_def (binds := [("error", .str "refused" te)]) ?k1 ?k2 ?k3 ?k4 ?k5 ?kA ?kF ?kK ?k6 ?k7 ?k8 ?k9 ?kB ?_ ?c2 ?c3 ?c4 ?c5
  case kA => exact rfl
  case kF => exact hf
  case kK => exact hke
  case k1 => exact B
  case k2 => exact F
  case k3 => exact X
  case k4 => exact N
  case k5 => exact T
  case k6 => k_is
  case k7 => k_is
  case k8 => exact Nat.lt_trans hd (by decide)
  case k9 => first | exact BindsTo.of_eq rfl | exact binds_K (by k_in) rfl (by k_is) rfl rfl rfl
  case c5 => decide
  case kB => exact locs rfl
  case c2 => exact rfl
  case c3 => exact rfl
  case c4 => exact rfl
  k_whole
  intro g' L' h' FG' F' N' B' X' T'
  clear F N B X T
  try dsimp only
  k_fold
  k_steps
  exact leaveK_ (by k_asm) (by k_asm) fun kF kN => h _ _ _ kF kN
theorem c_word_reset {te : Tok}
    (B : Below A₀ base outer h₀) (F : Fr h₀ L s.heap m) (X : (K w.params).In h₀) (N : News h₀ L s.heap news) (T : Top p loose mean mg mb h₀) (hf : env.frame = some L) (hke : env.scope.kind = .function) (hd : dep < 805) (hu : un < 4000)
    (h : ∀ h' tk tw, Fr h₀ L h' m → News h₀ L h' news → R (.ok (.ret (.str Er.reset.word tw))) { s with heap := h', toks := tk }) :
    codeAny (model PySem.Challenge.rw_xw0352_01.prog w) ⟨hdl, dep, some (env :: outer), gd, un⟩ (.call (.ref 1273) ⟨[.str "reset" te], []⟩) R s := by
  revert X; k_fill; intro X
  refine' code_def (binds := [("error", .str "reset" te)]) ?k1 ?k2 ?k3 ?k4 ?k5 ?kA ?kF ?kK ?k6 ?k7 ?k8 ?k9 ?kB ?_ ?c2 ?c3 ?c4 ?c5
  case kA => exact rfl
  case kF => exact hf
  case kK => exact hke
  case k1 => exact B
  case k2 => exact F
  case k3 => exact X
  case k4 => exact N
  case k5 => exact T
  case k6 => k_is
  case k7 => k_is
  case k8 => exact Nat.lt_trans hd (by decide)
  case k9 => first | exact BindsTo.of_eq rfl | exact binds_K (by k_in) rfl (by k_is) rfl rfl rfl
  case c5 => decide
  case kB => exact locs rfl
  case c2 => exact rfl
  case c3 => exact rfl
  case c4 => exact rfl
  k_whole
  intro g' L' h' FG' F' N' B' X' T'
  clear F N B X T
  try dsimp only
  k_fold
  k_steps
  exact leaveK_ (by k_asm) (by k_asm) fun kF kN => h _ _ _ kF kN
theorem c_word_err (er : Er) {te : Tok}
    (B : Below A₀ base outer h₀) (F : Fr h₀ L s.heap m) (X : (K w.params).In h₀) (N : News h₀ L s.heap news) (T : Top p loose mean mg mb h₀) (hf : env.frame = some L) (hke : env.scope.kind = .function) (hd : dep < 805) (hu : un < 4000)
    (h : ∀ h' tk tw, Fr h₀ L h' m → News h₀ L h' news → R (.ok (.ret (.str er.word tw))) { s with heap := h', toks := tk }) :
    codeAny (model PySem.Challenge.rw_xw0352_01.prog w) ⟨hdl, dep, some (env :: outer), gd, un⟩ (.call (.ref 1273) ⟨[.str er.text te], []⟩) R s := by
  cases er
  · exact c_word_late B F X N T hf hke hd hu h
  · exact c_word_refused B F X N T hf hke hd hu h
  · exact c_word_reset B F X N T hf hke hd hu h
end
end Mine.Internal
end TCWord
section TCHeard
open PySem PySem.W PyProof.Rows PySem.Calls
set_option Elab.async false
set_option maxRecDepth 100000
set_option maxHeartbeats 8000000
namespace Mine.Internal
section
variable {w : World} {A₀ : Around} {hdl : Option Value} {dep un : Nat} {gd : Option (List Code)} {E : Value → Shared → Prop} {s : Shared} {h₀ base : Heap} {L : Addr} {m mg mb : Str → Option Value} {news : List (Addr × Obj)} {p : Program} {loose : List Str} {mean : ExcName → Option Value}
  {env : Env} {outer : List Env} {R : Result → Shared → Prop}
theorem instAt_own {h : Heap} {e C d : Addr} {oe od : Obj} (h1 : h.get? e = some oe) (h2 : oe.cls = .ref C) (h3 : notCls oe = true) (h4 : oe.dict = some d) (h5 : h.get? d = some od) : InstAt h e oe C (some od) := ⟨h1, h2, h3, by rw [h4]; exact h5⟩
theorem fnAt_of {h₀ h : Heap} {L q : Addr} {o : Obj} {fd : FuncData} {news : List (Addr × Obj)} (N : News h₀ L h news) (hm : (q, o) ∈ news) (hd : o.data = .func fd) : FnAt q h := by
  obtain ⟨oc, od, dt, sl⟩ := o
  dsimp only at hd
  subst hd
  exact FnAt.of N hm
theorem lookIn_msg {od : Obj} {msg : Str} {tm : Tok} (h : OwnMsg od msg tm) : lookIn "message" od = some (some (.str msg tm)) := by
  obtain ⟨es, ep, h1, h2⟩ := h
  have h3 := h2 "message"
  rw [if_pos rfl] at h3
  unfold lookIn
  rw [h1]
  dsimp only
  unfold nsFind findBy at h3
  have h4 : (es.toList.find? fun e => e.key.isStr "message").map (·.val) = some (.str msg tm) := by
    rw [← h3]; simp [← Array.find?_toList]
  cases q : es.toList.find? fun e => e.key.isStr "message" with
  | none => rw [q] at h4; cases h4
  | some e => rw [q] at h4; simp only [Option.map_some, Option.some.injEq] at h4; dsimp only; rw [h4]
theorem findObj_own {K : Frag} {C : Addr} {cd : ClassData} {od : Obj} {name : Str} {v : Value} (hc : clsIn K C = some cd) (hd : cd.hasDict = true) (ha : findIn K (.ref C) name = some none) (hl : lookIn name od = some (some v)) : findObj K C (some od) name = some (.value v) := by
  unfold findObj
  rw [hc, ha]
  simp [W.ownOf, hd, hl]
theorem c_heardG_87 (P : List (Addr × Obj) → Prop) (msg : Str) (lam : Addr) (hlen : msg.length ≤ 100) (hh : hdl = none) {lo : Obj} {fd : FuncData} (hlam : (lam, lo) ∈ news) (hfn : lo.data = .func fd)
    (B : Below A₀ base outer h₀) (F : Fr h₀ L s.heap m) (X : (K w.params).In h₀) (N : News h₀ L s.heap news) (T : Top p loose mean mg mb h₀) (hf : env.frame = some L) (hke : env.scope.kind = .function) (hd : dep < 705) (hu : un < 3000)
    (XB : (K w.params).In base) (TB : Top p loose mean mg mb base)
    (hcall : ∀ g L' h₁ m' tk cu, Fr h₀ L g m → Below ⟨none, dep, some (env :: outer), gd, un⟩ base (env :: outer) g → Fr g L' h₁ m' → News g L' h₁ news → (K w.params).In g → Top p loose mean mg mb g → cu.frame = some L' → cu.scope.kind = .function →
      ∀ R', (∀ news2, P news2 → RaisedOut g L' m' base cu (env :: outer) 87 msg news2 { s with heap := h₁, toks := tk } R') → codeAny (model PySem.Challenge.rw_xw0352_01.prog w) ⟨none, dep + 1, some (cu :: env :: outer), gd, un + 3⟩ (.call (.ref lam) ⟨[], []⟩) R' { s with heap := h₁, toks := tk })
    (h : ∀ h' tk tw h₀' news2, P news2 → KtsTurn (frs outer) h₀ h₀' → Fr h₀' L h' m → News h₀' L h' news2 → Below A₀ base outer h₀' → R (.ok (.ret (.str ("late: " ++ msg) tw))) { s with heap := h', toks := tk }) :
    codeAny (model PySem.Challenge.rw_xw0352_01.prog w) ⟨hdl, dep, some (env :: outer), gd, un⟩ (.call (.ref 1266) ⟨[.ref lam], []⟩) R s := by
  subst hh
  revert X; k_fill; intro X
  refine' code_defT (binds := [("call", .ref lam)]) ?k1 ?k2 ?k3 ?k4 ?k5 ?kA ?kF ?kK ?k6 ?k7 ?k8 ?k9 ?kB ?_ ?c2 ?c3 ?c4 ?c5
  case kA => exact rfl
  case kF => exact hf
  case kK => exact hke
  case k1 => exact B
  case k2 => exact F
  case k3 => exact X
  case k4 => exact N
  case k5 => exact T
  case k6 => k_is
  case k7 => k_is
  case k8 => exact Nat.lt_trans hd (by decide)
  case k9 => first | exact BindsTo.of_eq rfl | exact binds_K (by k_in) rfl (by k_is) rfl rfl rfl
  case c5 => decide
  case kB => exact locs rfl
  case c2 => exact rfl
  case c3 => exact rfl
  case c4 => exact rfl
  k_whole
  intro g' L' h' FG' F' N' B' X' T'
  clear F N B X T
  try dsimp only
  k_fold
  k_steps
  refine callWith_F0 (fnAt_of N' hlam hfn) ?_
  dsimp only [List.nil_append]
  refine wpAny_call (hcall _ _ _ _ _ _ FG' B' F' N' X' T' rfl rfl _ ?_)
  intro news2 hP e t d tm od h2 tk2 g2 q1 q2 q3 q4
  dsimp only
  refine landT (L := L') q4 q3 rfl rfl ?_
  intro h3 R3 u3
  obtain ⟨g₅, oe, ot, T₅, F₅, K₅, N₅, hcls, hdict, hno⟩ := raisedT_ground B' q1 u3 R3
  have X₅ : (K w.params).In g₅ := XB.keeps K₅.stays
  have P₅ : Top p loose mean mg mb g₅ := TB.keeps K₅.stays
  have I₅ : InstAt h3 e oe 87 (some od) := instAt_own (N₅ _ (.head _)).1 hcls hno hdict (N₅ _ (.tail _ (.tail _ (.head _)))).1
  refine handle_hit (K := K w.params) (C' := 87) (X₅.keeps F₅.keep) I₅ (by k_is) (by kernel_rfl) (by k_is) (by k_is) (fun h => nameX_K F₅ X₅ (topRead_of P₅) (by k_is) h) ?_
  refine againT u3 R3 ?_
  clear N₅ I₅ hcls hdict hno F₅ X₅ P₅ K₅ T₅ g₅
  intro h4 R4 u4
  obtain ⟨g₆, oe₆, ot₆, T₆, F₆, K₆, N₆, hcls, hdict, hno⟩ := raisedT_ground B' q1 u4 R4
  have X₆ : (K w.params).In g₆ := XB.keeps K₆.stays
  have P₆ : Top p loose mean mg mb g₆ := TB.keeps K₆.stays
  refine storeX_L F₆ N₆ ?_
  intro h5 F₇ N₇
  have I₇ : InstAt h5 e oe₆ 87 (some od) := instAt_own (N₇ _ (.head _)).1 hcls hno hdict (N₇ _ (.tail _ (.tail _ (.head _)))).1
  clear F' N' B' X' T' F₆ N₆ q1 q3 q4
  change wpAny _ _ _ _ _ _
  k_fold
  k_steps
  refine exc_get (K := K w.params) (C := 87) (od := some od) (X₆.keeps F₇.keep) I₇ (by k_is) (by k_is) (by k_is) (findObj_own rfl rfl (by k_is) (lookIn_msg q2)) rfl ?_
  dsimp only
  k_steps
  exact leaveT_ (by k_asm) (by k_asm) T₆ fun h₀' Tt kF kN kB => h _ _ _ _ _ hP Tt kF (fun p hp => kN p (by repeat' first | exact hp | apply List.Mem.tail)) kB
theorem c_heard_87 (msg : Str) (lam : Addr) (hlen : msg.length ≤ 100) (hh : hdl = none) {lo : Obj} {fd : FuncData} (hlam : (lam, lo) ∈ news) (hfn : lo.data = .func fd)
    (B : Below A₀ base outer h₀) (F : Fr h₀ L s.heap m) (X : (K w.params).In h₀) (N : News h₀ L s.heap news) (T : Top p loose mean mg mb h₀) (hf : env.frame = some L) (hke : env.scope.kind = .function) (hd : dep < 705) (hu : un < 3000)
    (XB : (K w.params).In base) (TB : Top p loose mean mg mb base)
    (hcall : ∀ g L' h₁ m' tk cu, Fr h₀ L g m → Below ⟨none, dep, some (env :: outer), gd, un⟩ base (env :: outer) g → Fr g L' h₁ m' → News g L' h₁ news → (K w.params).In g → Top p loose mean mg mb g → cu.frame = some L' → cu.scope.kind = .function →
      ∀ R', RaisedOut g L' m' base cu (env :: outer) 87 msg news { s with heap := h₁, toks := tk } R' → codeAny (model PySem.Challenge.rw_xw0352_01.prog w) ⟨none, dep + 1, some (cu :: env :: outer), gd, un + 3⟩ (.call (.ref lam) ⟨[], []⟩) R' { s with heap := h₁, toks := tk })
    (h : ∀ h' tk tw h₀', KtsTurn (frs outer) h₀ h₀' → Fr h₀' L h' m → News h₀' L h' news → Below A₀ base outer h₀' → R (.ok (.ret (.str ("late: " ++ msg) tw))) { s with heap := h', toks := tk }) :
    codeAny (model PySem.Challenge.rw_xw0352_01.prog w) ⟨hdl, dep, some (env :: outer), gd, un⟩ (.call (.ref 1266) ⟨[.ref lam], []⟩) R s :=
  c_heardG_87 (fun l => l = news) msg lam hlen hh hlam hfn B F X N T hf hke hd hu XB TB (fun g L' h₁ m' tk cu a1 a2 a3 a4 a5 a6 a7 a8 R' hR => hcall g L' h₁ m' tk cu a1 a2 a3 a4 a5 a6 a7 a8 R' (hR _ rfl)) (by rintro h' tk tw h₀' _ rfl a1 a2 a3 a4; exact h h' tk tw h₀' a1 a2 a3 a4)
theorem c_heardG_75 (P : List (Addr × Obj) → Prop) (msg : Str) (lam : Addr) (hlen : msg.length ≤ 100) (hh : hdl = none) {lo : Obj} {fd : FuncData} (hlam : (lam, lo) ∈ news) (hfn : lo.data = .func fd)
    (B : Below A₀ base outer h₀) (F : Fr h₀ L s.heap m) (X : (K w.params).In h₀) (N : News h₀ L s.heap news) (T : Top p loose mean mg mb h₀) (hf : env.frame = some L) (hke : env.scope.kind = .function) (hd : dep < 705) (hu : un < 3000)
    (XB : (K w.params).In base) (TB : Top p loose mean mg mb base)
    (hcall : ∀ g L' h₁ m' tk cu, Fr h₀ L g m → Below ⟨none, dep, some (env :: outer), gd, un⟩ base (env :: outer) g → Fr g L' h₁ m' → News g L' h₁ news → (K w.params).In g → Top p loose mean mg mb g → cu.frame = some L' → cu.scope.kind = .function →
      ∀ R', (∀ news2, P news2 → RaisedOut g L' m' base cu (env :: outer) 75 msg news2 { s with heap := h₁, toks := tk } R') → codeAny (model PySem.Challenge.rw_xw0352_01.prog w) ⟨none, dep + 1, some (cu :: env :: outer), gd, un + 3⟩ (.call (.ref lam) ⟨[], []⟩) R' { s with heap := h₁, toks := tk })
    (h : ∀ h' tk tw h₀' news2, P news2 → KtsTurn (frs outer) h₀ h₀' → Fr h₀' L h' m → News h₀' L h' news2 → Below A₀ base outer h₀' → R (.ok (.ret (.str ("reset: " ++ msg) tw))) { s with heap := h', toks := tk }) :
    codeAny (model PySem.Challenge.rw_xw0352_01.prog w) ⟨hdl, dep, some (env :: outer), gd, un⟩ (.call (.ref 1266) ⟨[.ref lam], []⟩) R s := by
  subst hh
  revert X; k_fill; intro X
  refine' code_defT (binds := [("call", .ref lam)]) ?k1 ?k2 ?k3 ?k4 ?k5 ?kA ?kF ?kK ?k6 ?k7 ?k8 ?k9 ?kB ?_ ?c2 ?c3 ?c4 ?c5
  case kA => exact rfl
  case kF => exact hf
  case kK => exact hke
  case k1 => exact B
  case k2 => exact F
  case k3 => exact X
  case k4 => exact N
  case k5 => exact T
  case k6 => k_is
  case k7 => k_is
  case k8 => exact Nat.lt_trans hd (by decide)
  case k9 => first | exact BindsTo.of_eq rfl | exact binds_K (by k_in) rfl (by k_is) rfl rfl rfl
  case c5 => decide
  case kB => exact locs rfl
  case c2 => exact rfl
  case c3 => exact rfl
  case c4 => exact rfl
  k_whole
  intro g' L' h' FG' F' N' B' X' T'
  clear F N B X T
  try dsimp only
  k_fold
  k_steps
  refine callWith_F0 (fnAt_of N' hlam hfn) ?_
  dsimp only [List.nil_append]
  refine wpAny_call (hcall _ _ _ _ _ _ FG' B' F' N' X' T' rfl rfl _ ?_)
  intro news2 hP e t d tm od h2 tk2 g2 q1 q2 q3 q4
  dsimp only
  refine landT (L := L') q4 q3 rfl rfl ?_
  intro h3 R3 u3
  obtain ⟨g₅, oe, ot, T₅, F₅, K₅, N₅, hcls, hdict, hno⟩ := raisedT_ground B' q1 u3 R3
  have X₅ : (K w.params).In g₅ := XB.keeps K₅.stays
  have P₅ : Top p loose mean mg mb g₅ := TB.keeps K₅.stays
  have I₅ : InstAt h3 e oe 75 (some od) := instAt_own (N₅ _ (.head _)).1 hcls hno hdict (N₅ _ (.tail _ (.tail _ (.head _)))).1
  refine handle_miss (K := K w.params) (C' := 87) (X₅.keeps F₅.keep) I₅ (by k_is) (by kernel_rfl) (by k_is) (by k_is) (fun h => nameX_K F₅ X₅ (topRead_of P₅) (by k_is) h) ?_
  refine handle_hit (K := K w.params) (C' := 75) (X₅.keeps F₅.keep) I₅ (by k_is) (by kernel_rfl) (by k_is) (by k_is) (fun h => nameX_K F₅ X₅ (topRead_of P₅) (by k_is) h) ?_
  refine againT u3 R3 ?_
  clear N₅ I₅ hcls hdict hno F₅ X₅ P₅ K₅ T₅ g₅
  intro h4 R4 u4
  obtain ⟨g₆, oe₆, ot₆, T₆, F₆, K₆, N₆, hcls, hdict, hno⟩ := raisedT_ground B' q1 u4 R4
  have X₆ : (K w.params).In g₆ := XB.keeps K₆.stays
  have P₆ : Top p loose mean mg mb g₆ := TB.keeps K₆.stays
  refine storeX_L F₆ N₆ ?_
  intro h5 F₇ N₇
  have I₇ : InstAt h5 e oe₆ 75 (some od) := instAt_own (N₇ _ (.head _)).1 hcls hno hdict (N₇ _ (.tail _ (.tail _ (.head _)))).1
  clear F' N' B' X' T' F₆ N₆ q1 q3 q4
  change wpAny _ _ _ _ _ _
  k_fold
  k_steps
  refine exc_get (K := K w.params) (C := 75) (od := some od) (X₆.keeps F₇.keep) I₇ (by k_is) (by k_is) (by k_is) (findObj_own rfl rfl (by k_is) (lookIn_msg q2)) rfl ?_
  dsimp only
  k_steps
  exact leaveT_ (by k_asm) (by k_asm) T₆ fun h₀' Tt kF kN kB => h _ _ _ _ _ hP Tt kF (fun p hp => kN p (by repeat' first | exact hp | apply List.Mem.tail)) kB
theorem c_heard_75 (msg : Str) (lam : Addr) (hlen : msg.length ≤ 100) (hh : hdl = none) {lo : Obj} {fd : FuncData} (hlam : (lam, lo) ∈ news) (hfn : lo.data = .func fd)
    (B : Below A₀ base outer h₀) (F : Fr h₀ L s.heap m) (X : (K w.params).In h₀) (N : News h₀ L s.heap news) (T : Top p loose mean mg mb h₀) (hf : env.frame = some L) (hke : env.scope.kind = .function) (hd : dep < 705) (hu : un < 3000)
    (XB : (K w.params).In base) (TB : Top p loose mean mg mb base)
    (hcall : ∀ g L' h₁ m' tk cu, Fr h₀ L g m → Below ⟨none, dep, some (env :: outer), gd, un⟩ base (env :: outer) g → Fr g L' h₁ m' → News g L' h₁ news → (K w.params).In g → Top p loose mean mg mb g → cu.frame = some L' → cu.scope.kind = .function →
      ∀ R', RaisedOut g L' m' base cu (env :: outer) 75 msg news { s with heap := h₁, toks := tk } R' → codeAny (model PySem.Challenge.rw_xw0352_01.prog w) ⟨none, dep + 1, some (cu :: env :: outer), gd, un + 3⟩ (.call (.ref lam) ⟨[], []⟩) R' { s with heap := h₁, toks := tk })
    (h : ∀ h' tk tw h₀', KtsTurn (frs outer) h₀ h₀' → Fr h₀' L h' m → News h₀' L h' news → Below A₀ base outer h₀' → R (.ok (.ret (.str ("reset: " ++ msg) tw))) { s with heap := h', toks := tk }) :
    codeAny (model PySem.Challenge.rw_xw0352_01.prog w) ⟨hdl, dep, some (env :: outer), gd, un⟩ (.call (.ref 1266) ⟨[.ref lam], []⟩) R s :=
  c_heardG_75 (fun l => l = news) msg lam hlen hh hlam hfn B F X N T hf hke hd hu XB TB (fun g L' h₁ m' tk cu a1 a2 a3 a4 a5 a6 a7 a8 R' hR => hcall g L' h₁ m' tk cu a1 a2 a3 a4 a5 a6 a7 a8 R' (hR _ rfl)) (by rintro h' tk tw h₀' _ rfl a1 a2 a3 a4; exact h h' tk tw h₀' a1 a2 a3 a4)
theorem c_heardG_63 (P : List (Addr × Obj) → Prop) (msg : Str) (lam : Addr) (hlen : msg.length ≤ 100) (hh : hdl = none) {lo : Obj} {fd : FuncData} (hlam : (lam, lo) ∈ news) (hfn : lo.data = .func fd)
    (B : Below A₀ base outer h₀) (F : Fr h₀ L s.heap m) (X : (K w.params).In h₀) (N : News h₀ L s.heap news) (T : Top p loose mean mg mb h₀) (hf : env.frame = some L) (hke : env.scope.kind = .function) (hd : dep < 705) (hu : un < 3000)
    (XB : (K w.params).In base) (TB : Top p loose mean mg mb base)
    (hcall : ∀ g L' h₁ m' tk cu, Fr h₀ L g m → Below ⟨none, dep, some (env :: outer), gd, un⟩ base (env :: outer) g → Fr g L' h₁ m' → News g L' h₁ news → (K w.params).In g → Top p loose mean mg mb g → cu.frame = some L' → cu.scope.kind = .function →
      ∀ R', (∀ news2, P news2 → RaisedOut g L' m' base cu (env :: outer) 63 msg news2 { s with heap := h₁, toks := tk } R') → codeAny (model PySem.Challenge.rw_xw0352_01.prog w) ⟨none, dep + 1, some (cu :: env :: outer), gd, un + 3⟩ (.call (.ref lam) ⟨[], []⟩) R' { s with heap := h₁, toks := tk })
    (h : ∀ h' tk tw h₀' news2, P news2 → KtsTurn (frs outer) h₀ h₀' → Fr h₀' L h' m → News h₀' L h' news2 → Below A₀ base outer h₀' → R (.ok (.ret (.str ("not let: " ++ msg) tw))) { s with heap := h', toks := tk }) :
    codeAny (model PySem.Challenge.rw_xw0352_01.prog w) ⟨hdl, dep, some (env :: outer), gd, un⟩ (.call (.ref 1266) ⟨[.ref lam], []⟩) R s := by
  subst hh
  revert X; k_fill; intro X
  refine' code_defT (binds := [("call", .ref lam)]) ?k1 ?k2 ?k3 ?k4 ?k5 ?kA ?kF ?kK ?k6 ?k7 ?k8 ?k9 ?kB ?_ ?c2 ?c3 ?c4 ?c5
  case kA => exact rfl
  case kF => exact hf
  case kK => exact hke
  case k1 => exact B
  case k2 => exact F
  case k3 => exact X
  case k4 => exact N
  case k5 => exact T
  case k6 => k_is
  case k7 => k_is
  case k8 => exact Nat.lt_trans hd (by decide)
  case k9 => first | exact BindsTo.of_eq rfl | exact binds_K (by k_in) rfl (by k_is) rfl rfl rfl
  case c5 => decide
  case kB => exact locs rfl
  case c2 => exact rfl
  case c3 => exact rfl
  case c4 => exact rfl
  k_whole
  intro g' L' h' FG' F' N' B' X' T'
  clear F N B X T
  try dsimp only
  k_fold
  k_steps
  refine callWith_F0 (fnAt_of N' hlam hfn) ?_
  dsimp only [List.nil_append]
  refine wpAny_call (hcall _ _ _ _ _ _ FG' B' F' N' X' T' rfl rfl _ ?_)
  intro news2 hP e t d tm od h2 tk2 g2 q1 q2 q3 q4
  dsimp only
  refine landT (L := L') q4 q3 rfl rfl ?_
  intro h3 R3 u3
  obtain ⟨g₅, oe, ot, T₅, F₅, K₅, N₅, hcls, hdict, hno⟩ := raisedT_ground B' q1 u3 R3
  have X₅ : (K w.params).In g₅ := XB.keeps K₅.stays
  have P₅ : Top p loose mean mg mb g₅ := TB.keeps K₅.stays
  have I₅ : InstAt h3 e oe 63 (some od) := instAt_own (N₅ _ (.head _)).1 hcls hno hdict (N₅ _ (.tail _ (.tail _ (.head _)))).1
  refine handle_miss (K := K w.params) (C' := 87) (X₅.keeps F₅.keep) I₅ (by k_is) (by kernel_rfl) (by k_is) (by k_is) (fun h => nameX_K F₅ X₅ (topRead_of P₅) (by k_is) h) ?_
  refine handle_miss (K := K w.params) (C' := 75) (X₅.keeps F₅.keep) I₅ (by k_is) (by kernel_rfl) (by k_is) (by k_is) (fun h => nameX_K F₅ X₅ (topRead_of P₅) (by k_is) h) ?_
  refine handle_hit (K := K w.params) (C' := 63) (X₅.keeps F₅.keep) I₅ (by k_is) (by kernel_rfl) (by k_is) (by k_is) (fun h => nameX_K F₅ X₅ (topRead_of P₅) (by k_is) h) ?_
  refine againT u3 R3 ?_
  clear N₅ I₅ hcls hdict hno F₅ X₅ P₅ K₅ T₅ g₅
  intro h4 R4 u4
  obtain ⟨g₆, oe₆, ot₆, T₆, F₆, K₆, N₆, hcls, hdict, hno⟩ := raisedT_ground B' q1 u4 R4
  have X₆ : (K w.params).In g₆ := XB.keeps K₆.stays
  have P₆ : Top p loose mean mg mb g₆ := TB.keeps K₆.stays
  refine storeX_L F₆ N₆ ?_
  intro h5 F₇ N₇
  have I₇ : InstAt h5 e oe₆ 63 (some od) := instAt_own (N₇ _ (.head _)).1 hcls hno hdict (N₇ _ (.tail _ (.tail _ (.head _)))).1
  clear F' N' B' X' T' F₆ N₆ q1 q3 q4
  change wpAny _ _ _ _ _ _
  k_fold
  k_steps
  refine exc_get (K := K w.params) (C := 63) (od := some od) (X₆.keeps F₇.keep) I₇ (by k_is) (by k_is) (by k_is) (findObj_own rfl rfl (by k_is) (lookIn_msg q2)) rfl ?_
  dsimp only
  k_steps
  exact leaveT_ (by k_asm) (by k_asm) T₆ fun h₀' Tt kF kN kB => h _ _ _ _ _ hP Tt kF (fun p hp => kN p (by repeat' first | exact hp | apply List.Mem.tail)) kB
theorem c_heard_63 (msg : Str) (lam : Addr) (hlen : msg.length ≤ 100) (hh : hdl = none) {lo : Obj} {fd : FuncData} (hlam : (lam, lo) ∈ news) (hfn : lo.data = .func fd)
    (B : Below A₀ base outer h₀) (F : Fr h₀ L s.heap m) (X : (K w.params).In h₀) (N : News h₀ L s.heap news) (T : Top p loose mean mg mb h₀) (hf : env.frame = some L) (hke : env.scope.kind = .function) (hd : dep < 705) (hu : un < 3000)
    (XB : (K w.params).In base) (TB : Top p loose mean mg mb base)
    (hcall : ∀ g L' h₁ m' tk cu, Fr h₀ L g m → Below ⟨none, dep, some (env :: outer), gd, un⟩ base (env :: outer) g → Fr g L' h₁ m' → News g L' h₁ news → (K w.params).In g → Top p loose mean mg mb g → cu.frame = some L' → cu.scope.kind = .function →
      ∀ R', RaisedOut g L' m' base cu (env :: outer) 63 msg news { s with heap := h₁, toks := tk } R' → codeAny (model PySem.Challenge.rw_xw0352_01.prog w) ⟨none, dep + 1, some (cu :: env :: outer), gd, un + 3⟩ (.call (.ref lam) ⟨[], []⟩) R' { s with heap := h₁, toks := tk })
    (h : ∀ h' tk tw h₀', KtsTurn (frs outer) h₀ h₀' → Fr h₀' L h' m → News h₀' L h' news → Below A₀ base outer h₀' → R (.ok (.ret (.str ("not let: " ++ msg) tw))) { s with heap := h', toks := tk }) :
    codeAny (model PySem.Challenge.rw_xw0352_01.prog w) ⟨hdl, dep, some (env :: outer), gd, un⟩ (.call (.ref 1266) ⟨[.ref lam], []⟩) R s :=
  c_heardG_63 (fun l => l = news) msg lam hlen hh hlam hfn B F X N T hf hke hd hu XB TB (fun g L' h₁ m' tk cu a1 a2 a3 a4 a5 a6 a7 a8 R' hR => hcall g L' h₁ m' tk cu a1 a2 a3 a4 a5 a6 a7 a8 R' (hR _ rfl)) (by rintro h' tk tw h₀' _ rfl a1 a2 a3 a4; exact h h' tk tw h₀' a1 a2 a3 a4)
theorem c_heard_ok (lam : Addr) (hh : hdl = none) {lo : Obj} {fd : FuncData} (hlam : (lam, lo) ∈ news) (hfn : lo.data = .func fd)
    (B : Below A₀ base outer h₀) (F : Fr h₀ L s.heap m) (X : (K w.params).In h₀) (N : News h₀ L s.heap news) (T : Top p loose mean mg mb h₀) (hf : env.frame = some L) (hke : env.scope.kind = .function) (hd : dep < 705) (hu : un < 3000)
    (hcall : ∀ g L' h₁ m' tk cu, Fr h₀ L g m → Below ⟨none, dep, some (env :: outer), gd, un⟩ base (env :: outer) g → Fr g L' h₁ m' → News g L' h₁ news → (K w.params).In g → Top p loose mean mg mb g → cu.frame = some L' → cu.scope.kind = .function →
      ∀ R' : Result → Shared → Prop, (∀ h' tk', Fr g L' h' m' → News g L' h' news → R' (.ok (.ret .none)) { s with heap := h', toks := tk' }) → codeAny (model PySem.Challenge.rw_xw0352_01.prog w) ⟨none, dep + 1, some (cu :: env :: outer), gd, un + 3⟩ (.call (.ref lam) ⟨[], []⟩) R' { s with heap := h₁, toks := tk })
    (h : ∀ h' tk, Fr h₀ L h' m → News h₀ L h' news → R (.ok (.ret .none)) { s with heap := h', toks := tk }) :
    codeAny (model PySem.Challenge.rw_xw0352_01.prog w) ⟨hdl, dep, some (env :: outer), gd, un⟩ (.call (.ref 1266) ⟨[.ref lam], []⟩) R s := by
  subst hh
  revert X; k_fill; intro X
  refine' code_def (binds := [("call", .ref lam)]) ?k1 ?k2 ?k3 ?k4 ?k5 ?kA ?kF ?kK ?k6 ?k7 ?k8 ?k9 ?kB ?_ ?c2 ?c3 ?c4 ?c5
  case kA => exact rfl
  case kF => exact hf
  case kK => exact hke
  case k1 => exact B
  case k2 => exact F
  case k3 => exact X
  case k4 => exact N
  case k5 => exact T
  case k6 => k_is
  case k7 => k_is
  case k8 => exact Nat.lt_trans hd (by decide)
  case k9 => first | exact BindsTo.of_eq rfl | exact binds_K (by k_in) rfl (by k_is) rfl rfl rfl
  case c5 => decide
  case kB => exact locs rfl
  case c2 => exact rfl
  case c3 => exact rfl
  case c4 => exact rfl
  k_whole
  intro g' L' h' FG' F' N' B' X' T'
  clear F N B X T
  try dsimp only
  k_fold
  k_steps
  refine callWith_F0 (fnAt_of N' hlam hfn) ?_
  dsimp only [List.nil_append]
  refine wpAny_call (hcall _ _ _ _ _ _ FG' B' F' N' X' T' rfl rfl _ ?_)
  intro h2 tk2 F2 N2
  clear F' N'
  dsimp only
  k_steps
  exact leaveK_ (by k_asm) (by k_asm) fun kF kN => h _ _ kF kN
end
end Mine.Internal
end TCHeard
section TCHeard2
open PySem PySem.W PyProof.Rows PySem.Calls
set_option Elab.async false
set_option maxRecDepth 100000
set_option maxHeartbeats 8000000
namespace Mine.Internal
section
variable {w : World} {A₀ : Around} {hdl : Option Value} {dep un : Nat} {gd : Option (List Code)} {E : Value → Shared → Prop} {s : Shared} {h₀ base : Heap} {L : Addr} {m mg mb : Str → Option Value} {news : List (Addr × Obj)} {p : Program} {loose : List Str} {mean : ExcName → Option Value}
  {env : Env} {outer : List Env} {R : Result → Shared → Prop}
theorem Er.len (er : Er) : er.msg.length ≤ 100 := by cases er <;> decide +kernel
theorem c_heard_er (er : Er) (lam : Addr) (hh : hdl = none) {lo : Obj} {fd : FuncData} (hlam : (lam, lo) ∈ news) (hfn : lo.data = .func fd)
    (B : Below A₀ base outer h₀) (F : Fr h₀ L s.heap m) (X : (K w.params).In h₀) (N : News h₀ L s.heap news) (T : Top p loose mean mg mb h₀) (hf : env.frame = some L) (hke : env.scope.kind = .function) (hd : dep < 705) (hu : un < 3000)
    (XB : (K w.params).In base) (TB : Top p loose mean mg mb base)
    (hcall : ∀ g L' h₁ m' tk cu, Fr h₀ L g m → Below ⟨none, dep, some (env :: outer), gd, un⟩ base (env :: outer) g → Fr g L' h₁ m' → News g L' h₁ news → (K w.params).In g → Top p loose mean mg mb g → cu.frame = some L' → cu.scope.kind = .function →
      ∀ R', RaisedOut g L' m' base cu (env :: outer) er.cls er.msg news { s with heap := h₁, toks := tk } R' → codeAny (model PySem.Challenge.rw_xw0352_01.prog w) ⟨none, dep + 1, some (cu :: env :: outer), gd, un + 3⟩ (.call (.ref lam) ⟨[], []⟩) R' { s with heap := h₁, toks := tk })
    (h : ∀ h' tk tw h₀', KtsTurn (frs outer) h₀ h₀' → Fr h₀' L h' m → News h₀' L h' news → Below A₀ base outer h₀' → R (.ok (.ret (.str er.word tw))) { s with heap := h', toks := tk }) :
    codeAny (model PySem.Challenge.rw_xw0352_01.prog w) ⟨hdl, dep, some (env :: outer), gd, un⟩ (.call (.ref 1266) ⟨[.ref lam], []⟩) R s := by
  have hlen := er.len
  have hw := er.word_eq
  cases er
  · exact c_heard_87 _ lam hlen hh hlam hfn B F X N T hf hke hd hu XB TB hcall (fun h' tk tw h₀' a b c d => hw ▸ h h' tk tw h₀' a b c d)
  · exact c_heard_75 _ lam hlen hh hlam hfn B F X N T hf hke hd hu XB TB hcall (fun h' tk tw h₀' a b c d => hw ▸ h h' tk tw h₀' a b c d)
  · exact c_heard_75 _ lam hlen hh hlam hfn B F X N T hf hke hd hu XB TB hcall (fun h' tk tw h₀' a b c d => hw ▸ h h' tk tw h₀' a b c d)
theorem c_heardG_er (P : List (Addr × Obj) → Prop) (er : Er) (lam : Addr) (hh : hdl = none) {lo : Obj} {fd : FuncData} (hlam : (lam, lo) ∈ news) (hfn : lo.data = .func fd)
    (B : Below A₀ base outer h₀) (F : Fr h₀ L s.heap m) (X : (K w.params).In h₀) (N : News h₀ L s.heap news) (T : Top p loose mean mg mb h₀) (hf : env.frame = some L) (hke : env.scope.kind = .function) (hd : dep < 705) (hu : un < 3000)
    (XB : (K w.params).In base) (TB : Top p loose mean mg mb base)
    (hcall : ∀ g L' h₁ m' tk cu, Fr h₀ L g m → Below ⟨none, dep, some (env :: outer), gd, un⟩ base (env :: outer) g → Fr g L' h₁ m' → News g L' h₁ news → (K w.params).In g → Top p loose mean mg mb g → cu.frame = some L' → cu.scope.kind = .function →
      ∀ R', (∀ news2, P news2 → RaisedOut g L' m' base cu (env :: outer) er.cls er.msg news2 { s with heap := h₁, toks := tk } R') → codeAny (model PySem.Challenge.rw_xw0352_01.prog w) ⟨none, dep + 1, some (cu :: env :: outer), gd, un + 3⟩ (.call (.ref lam) ⟨[], []⟩) R' { s with heap := h₁, toks := tk })
    (h : ∀ h' tk tw h₀' news2, P news2 → KtsTurn (frs outer) h₀ h₀' → Fr h₀' L h' m → News h₀' L h' news2 → Below A₀ base outer h₀' → R (.ok (.ret (.str er.word tw))) { s with heap := h', toks := tk }) :
    codeAny (model PySem.Challenge.rw_xw0352_01.prog w) ⟨hdl, dep, some (env :: outer), gd, un⟩ (.call (.ref 1266) ⟨[.ref lam], []⟩) R s := by
  have hlen := er.len
  have hw := er.word_eq
  cases er
  · exact c_heardG_87 P _ lam hlen hh hlam hfn B F X N T hf hke hd hu XB TB hcall (fun h' tk tw h₀' news2 hP a b c d => hw ▸ h h' tk tw h₀' news2 hP a b c d)
  · exact c_heardG_75 P _ lam hlen hh hlam hfn B F X N T hf hke hd hu XB TB hcall (fun h' tk tw h₀' news2 hP a b c d => hw ▸ h h' tk tw h₀' news2 hP a b c d)
  · exact c_heardG_75 P _ lam hlen hh hlam hfn B F X N T hf hke hd hu XB TB hcall (fun h' tk tw h₀' news2 hP a b c d => hw ▸ h h' tk tw h₀' news2 hP a b c d)
end
end Mine.Internal
end TCHeard2
section TCLoopE
open PySem PySem.W PyProof.Rows PySem.Calls
set_option Elab.async false
set_option maxRecDepth 100000
set_option maxHeartbeats 8000000
namespace Mine.Internal
section
variable {w : World} {A₀ : Around} {hdl : Option Value} {dep un : Nat} {gd : Option (List Code)} {E : Value → Shared → Prop} {s : Shared} {h₀ base : Heap} {L : Addr} {m mg mb : Str → Option Value} {news : List (Addr × Obj)} {p : Program} {loose : List Str} {mean : ExcName → Option Value}
  {env : Env} {outer : List Env} {R : Result → Shared → Prop}
noncomputable def lamQ2 : Str := "_law_ends_right.<locals>.<lambda>"
def CodeOf (c : Addr) (oc : Obj) (q : Str) (l : List (Addr × Obj)) : Prop := (c, oc) ∈ l ∧ ∃ vs t, oc.data = .fields vs ∧ vs[1]? = some (.str q t)
def Made21 (ps : Array Value) (l : List (Addr × Obj)) : Prop := ∃ c oc, ps = #[rawInt 893, rawInt 18, .ref c] ∧ CodeOf c oc lamQ2 l
def Made22 (ps : Array Value) (l : List (Addr × Obj)) : Prop := ∃ c oc c2 oc2, ps = #[rawInt 893, rawInt 18, .ref c, rawInt 898, rawInt 26, .ref c2] ∧ CodeOf c oc lamQ2 l ∧ CodeOf c2 oc2 lamQ2 l
def TabL (ps : Array Value) (l : List (Addr × Obj)) : Prop := Made21 ps l ∨ Made22 ps l
theorem CodeOf.mono {c : Addr} {oc : Obj} {q : Str} {l l' : List (Addr × Obj)} (h : CodeOf c oc q l) (hs : ∀ z ∈ l, z ∈ l') : CodeOf c oc q l' := ⟨hs _ h.1, h.2⟩
theorem TabL.mono {ps : Array Value} {l l' : List (Addr × Obj)} (h : TabL ps l) (hs : ∀ z ∈ l, z ∈ l') : TabL ps l' := by
  rcases h with ⟨c, oc, e, h1⟩ | ⟨c, oc, c2, oc2, e, h1, h2⟩
  · exact .inl ⟨c, oc, e, h1.mono hs⟩
  · exact .inr ⟨c, oc, c2, oc2, e, h1.mono hs, h2.mono hs⟩
theorem pickA {g h : Heap} {L : Addr} {a b c d e p1 p2 p3 : Addr × Obj} {rest : List (Addr × Obj)} (N : News g L h (p1 :: p2 :: p3 :: a :: b :: c :: d :: e :: rest)) : News g L h (a :: b :: c :: d :: e :: p1 :: p2 :: p3 :: rest) := by
  repeat (refine List.forall_mem_cons.mpr ⟨N _ (by k_mem), ?_⟩)
  exact fun z hz => N z (by repeat' first | exact hz | apply List.Mem.tail)
theorem pickA4 {g h : Heap} {L : Addr} {a b c d e p1 p2 p3 p4 : Addr × Obj} {rest : List (Addr × Obj)} (N : News g L h (p1 :: p2 :: p3 :: p4 :: a :: b :: c :: d :: e :: rest)) : News g L h (a :: b :: c :: d :: e :: p1 :: p2 :: p3 :: p4 :: rest) := by
  repeat (refine List.forall_mem_cons.mpr ⟨N _ (by k_mem), ?_⟩)
  exact fun z hz => N z (by repeat' first | exact hz | apply List.Mem.tail)
theorem news_drop3 {g h : Heap} {L : Addr} {a b : Addr × Obj} {l : List (Addr × Obj)} (N : News g L h (a :: b :: a :: l)) : News g L h (a :: b :: l) := fun p hp => N p (by
  rcases List.mem_cons.mp hp with rfl | hp
  · exact .head _
  · rcases List.mem_cons.mp hp with rfl | hp
    · exact .tail _ (.head _)
    · exact .tail _ (.tail _ (.tail _ hp)))
theorem tabL_lam {ps : Array Value} {l : List (Addr × Obj)} {pos : Pos} (h1 : pos.line = 898) (h2 : pos.col = 26) (h : TabL ps l) : TriplesOk ps.toList ∧ (codeAmong pos ps.toList = none ∨ ∃ c' oc vs t, codeAmong pos ps.toList = some (.ref c') ∧ (c', oc) ∈ l ∧ oc.data = .fields vs ∧ vs[1]? = some (.str lamQ2 t)) := by
  obtain ⟨a, b, c, d⟩ := pos
  cases h1; cases h2
  rcases h with ⟨c, oc, rfl, _⟩ | ⟨c, oc, c2, oc2, rfl, _, hm, vs, t, e1, e2⟩
  · exact ⟨by kn_triples, .inl (by kn_among)⟩
  · exact ⟨by kn_triples, .inr ⟨c2, oc2, vs, t, by kn_hit, hm, e1, e2⟩⟩
theorem tabL_after {ps ps' : Array Value} {l own : List (Addr × Obj)} {pos : Pos} {c' : Addr} {oc : Obj} {vs : Array Value} {t : Tok} {news : List (Addr × Obj)} (h1 : pos.line = 898) (h2 : pos.col = 26) (h : TabL ps l) (e1 : oc.data = .fields vs) (e2 : vs[1]? = some (.str lamQ2 t))
    (hc : (ps' = ps ∧ own = [] ∧ codeAmong pos ps.toList = some (.ref c')) ∨ (codeAmong pos ps.toList = none ∧ ps' = ps ++ #[rawInt pos.line, rawInt pos.col, .ref c'] ∧ own = [(c', oc)] ∧ ∀ q ∈ news, q.1 < c')) :
    TabL ps' (own ++ l) ∧ ∀ q ∈ own, ∀ z ∈ news, z.1 < q.1 := by
  obtain ⟨a, b, c, d⟩ := pos
  cases h1; cases h2
  rcases hc with ⟨rfl, rfl, _⟩ | ⟨hn, rfl, rfl, hl⟩
  · exact ⟨h, fun _ q => nomatch q⟩
  · refine ⟨?_, fun q hq => by obtain rfl := List.mem_singleton.mp hq; exact hl⟩
    rcases h with ⟨c, oc1, rfl, hm⟩ | ⟨c, oc1, c2, oc2, rfl, _⟩
    · exact .inr ⟨c, oc1, c', oc, rfl, hm.mono (fun z hz => .tail _ hz), .head _, vs, t, e1, e2⟩
    · rw [show codeAmong _ _ = some (Value.ref c2) by kn_hit] at hn; cases hn
/-- what holds between two turns over the wants -/
inductive LeJ (P1 P2 P3 P4 : Prop) (m₁ : Str → Option Value) (bs : Int) (xr dr : Addr) (rest : List (Addr × Obj)) (D : Int → Addr → Obj → Array Value → List (Addr × Obj) → List (Addr × Obj)) (led : List (Addr × Obj)) : Prop
  | mk (h1 : P1) (h2 : P2) (h3 : P3) (h4 : P4) (a : Int) (ta : Tok) (r : Addr) (cM : Obj) (v : Option Value) (own : List (Addr × Obj)) (ps : Array Value) (hm : m₁ "at" = some (.int a ta)) (h0 : 0 ≤ a) (hle : a ≤ bs) (hr : @LT.lt Nat _ xr r) (hc : cM.data = .cell v)
    (hT : TabL ps (own ++ rest)) (hfr : ∀ q ∈ own, @LT.lt Nat _ dr q.1 ∧ ∀ r ∈ rest, r.1 < q.1) (hl : led = D a r cM ps (own ++ rest)) : LeJ P1 P2 P3 P4 m₁ bs xr dr rest D led
theorem c_loop_er (er : Er) {te : Tok} {g' : Heap} {L' : Addr} {m' : Str → Option Value} {x dx xr dr ba : Addr} {ts : Tok} {w0 w1 w2 w3 w4 w5 w6 w7 w8 w9 : Tok} {v_ring v_room v_mss v_next v_assembly v_told_edge v_fin_at v_has_fin v_urgent_at : Value} {u0 u1 u2 u3 u4 u5 u6 u7 u8 u9 u10 u11 u12 u13 : Tok} {v_limits v_local v_remote v_sender v_clock v_congestion v_acks v_wheel v_probes v_unanswered v_is_nagle : Value} {rest : List (Addr × Obj)} {b : Array UInt8} {cM cT : Obj} {ps : Array Value} {tb ta : Tok} {wl : Addr} {items : Array Value} {n : Nat} {Q : Flow → Shared → Prop} (hb : b.size ≤ 9) (hcM : ∃ v, cM.data = .cell v) (hcT : cT.data = .cell (some (.ref x)))
    (o0 : @LT.lt Nat _ (L' + 2) dx) (o1 : @LT.lt Nat _ dx x) (o2 : @LT.lt Nat _ x dr) (o3 : @LT.lt Nat _ dr xr) (o4 : @LT.lt Nat _ xr ba) (hwL : @LT.lt Nat _ wl L') (h5l : @LT.lt Nat _ 1282 L') (hrd : ∀ q ∈ rest, q.1 ≠ dr) (hrm : ∀ q ∈ rest, q.1 ≠ L' + 1) (hr2 : ∀ q ∈ rest, q.1 ≠ 1282)
    (hit : ∀ (i : Nat) (v : Value), items[i]? = some v → ∃ k t, v = .int k t ∧ 0 ≤ k ∧ k ≤ 9) (hwl : (wl, W.listOf items n) ∈ rest) (htab : TabL ps rest)
    (me : m' "error" = some (.str er.text te)) (mo : m' "octets" = some (.bytes b tb)) (ma : m' "at" = some (.int 0 ta)) (mw : m' "wants" = some (.ref wl))
    (B' : Below ⟨none, dep, some (env :: outer), gd, un⟩ base (env :: outer) g') (F' : Fr g' L' s.heap m') (X' : (K w.params).In g') (T' : Top p loose mean mg mb g') (hd : dep < 505) (hu : un < 1900) (XB : (K w.params).In base) (TB : Top p loose mean mg mb base) (CB : CodeHd base 1286 1282) (N' : News g' L' s.heap ((ba, baObj b) :: (xr, instObj 1241 dr) :: (dr, recO w.params w0 w1 w2 w3 w4 w5 w6 w7 w8 w9 v_ring v_room v_mss v_next (.ref ba) v_assembly v_told_edge v_fin_at v_has_fin v_urgent_at) :: (x, instObj 927 dx) :: (dx, tcbO w.params u0 u1 u2 u3 u4 u5 u6 u7 u8 u9 u10 u11 u12 u13 v_limits v_local v_remote (.str "closed" ts) v_sender (.ref xr) v_clock v_congestion v_acks v_wheel (.str er.text te) v_probes v_unanswered v_is_nagle) :: (L' + 1, cM) :: (L' + 2, cT) :: (1282, tabObj ps) :: rest))
    (h : ∀ h'' tk m'' g'' own ps', KtsTurn (frs (env :: outer)) g' g'' → Below ⟨none, dep, some (env :: outer), gd, un⟩ base (env :: outer) g'' → TabL ps' (own ++ rest) → (∀ q ∈ own, @LT.lt Nat _ dr q.1 ∧ ∀ r ∈ rest, r.1 < q.1) → Fr g'' L' h'' m'' → News g'' L' h'' ((1282, tabObj ps') :: (own ++ rest)) → Q (.ret (.bool true)) { s with heap := h'', toks := tk }) :
    wpAny (model PySem.Challenge.rw_xw0352_01.prog w) (Around.deeper ⟨none, dep, some (env :: outer), gd, un⟩ (endsEnv L')) (execs (List.drop 8 endsBody) (endsEnv L')) Q E s := by
  have hQ := h
  clear h
  have hw5 : @Ne Nat wl 1282 := hr2 (wl, _) hwl
  rw [show List.drop 8 endsBody = [_, _] from rfl]
  unfold endsEnv
  rw [show endsScope = ⟨_, _, _, _, _⟩ from rfl]
  have F2 := fr_map (x := "at") (fr_map (x := "octets") (fr_map (x := "error") (fr_map (x := "wants") F' mw) (by (repeat rw [if_neg (by decide)]); exact me)) (by (repeat rw [if_neg (by decide)]); exact mo)) (by (repeat rw [if_neg (by decide)]); exact ma)
  clear F'
  revert X'; k_fill; intro X'
  change wpAny _ _ _ _ _ _
  k_steps
  refine Stop.mk ?_
  refine wpAny_For ?_
  k_fold
  k_steps
  refine Stop.mk ?_
  rename News _ _ _ _ => N9
  rename Fr _ _ _ _ => F9
  refine for_turns (fun i g₁ m₁ led => LeJ (KtsTurn (frs (env :: outer)) g' g₁) (Below ⟨none, dep, some (env :: outer), gd, un⟩ base (env :: outer) g₁) (m₁ "error" = some (.str er.text te)) (m₁ "octets" = some (.bytes b tb)) m₁ (b.size : Int) xr dr rest (fun a r cM ps rs => (r, baObj (drp b a)) :: (xr, instObj 1241 dr) :: (dr, recO w.params w0 w1 w2 w3 w4 w5 w6 w7 w8 w9 v_ring v_room v_mss v_next (.ref r) v_assembly v_told_edge v_fin_at v_has_fin v_urgent_at) :: (x, instObj 927 dx) :: (dx, tcbO w.params u0 u1 u2 u3 u4 u5 u6 u7 u8 u9 u10 u11 u12 u13 v_limits v_local v_remote (.str "closed" ts) v_sender (.ref xr) v_clock v_congestion v_acks v_wheel (.str er.text te) v_probes v_unanswered v_is_nagle) :: (L' + 1, cM) :: (L' + 2, cT) :: (1282, tabObj ps) :: rs) led) rfl F9 (news_cons N9 N9 (by repeat' first | exact hwl | apply List.Mem.tail)) ?_ ?_ ?_
  rotate_left 2
  · obtain ⟨cv, hcv⟩ := hcM
    exact ⟨.refl, B', rfl, rfl, 0, ta, ba, cM, cv, [], ps, rfl, by decide, Int.natCast_nonneg _, o4, hcv, htab, (fun _ q => nomatch q), by rw [drp_zero]; rfl⟩
  rotate_left 1
  · intro g₁ m₁ led h₁ tk₁ hJ F₁ N₁
    obtain ⟨hT, hB, hme, hmo, a, ta1, r, cM1, v1, own, ps1, hma, ha0, ha1, hr1, hc1, htab1, hfr, hled⟩ := hJ
    subst hled
    dsimp only
    have X₁ : (K w.params).In g₁ := XB.keeps hB.stays
    have P₁ : Top p loose mean mg mb g₁ := TB.keeps hB.stays
    have F₂ := fr_map (x := "at") (fr_map (x := "octets") (fr_map (x := "error") F₁ hme) (by (repeat rw [if_neg (by decide)]); exact hmo)) (by (repeat rw [if_neg (by decide)]); exact hma)
    have hsz : (drp b a).size ≤ 1000 := Nat.le_trans (le9 hb ha0 ha1) (by decide)
    have hsz2 := drp_size b ha0 ha1
    have hB2 := hB
    clear F₁ X' T' B'
    change wpAny _ _ _ _ _ _
    have hfin : (((drp b a).size : Int) == (b.size : Int) - a) = true := by rw [hsz2]; exact beq_self_eq_true _
    have heq : (er.text == er.text) = true := beq_self_eq_true _
    k_steps
    rename News _ _ _ _ => N8
    rename Fr _ _ _ _ => F8
    rw [hfin]
    refine hQ _ _ _ g₁ own ps1 hT hB2 htab1 hfr F8 (fun z hz => N8 z (by repeat' first | exact hz | apply List.Mem.tail))
  clear F9 N9
  intro it itO i v g₁ m₁ led h₁ tk₁ hLit hlit hlst hv hJ hne F₁ N₁
  obtain ⟨hT, hB, hme, hmo, a, ta1, r, cM1, v1, own, ps1, hma, ha0, ha1, hr1, hc1, htab1, hfr, hled⟩ := hJ
  subst hled
  obtain ⟨k, tk0, rfl, hk0, hk9⟩ := hit _ _ hv
  have X₁ : (K w.params).In g₁ := XB.keeps hB.stays
  have P₁ : Top p loose mean mg mb g₁ := TB.keeps hB.stays
  have C₁ : CodeHd g₁ 1286 1282 := CB.keeps hB.stays
  have e1 : @Ne Nat it dr := Ne.symm (hne (dr, _) (.tail _ (.tail _ (.head _))))
  have e2 : @Ne Nat it (L' + 1) := Ne.symm (hne (L' + 1, _) (.tail _ (.tail _ (.tail _ (.tail _ (.tail _ (.head _)))))))
  have e3 : @Ne Nat it 1282 := Ne.symm (hne (1282, _) (by k_mem))
  have hro : ∀ q ∈ own ++ rest, q.1 ≠ dr := fun q hq => (List.mem_append.mp hq).elim (fun hq => Nat.ne_of_gt (hfr q hq).1) (hrd q)
  have hL : @LT.lt Nat _ L' dr := Nat.lt_trans (Nat.lt_of_succ_lt (Nat.lt_of_succ_lt o0)) (Nat.lt_trans o1 o2)
  have hL2 : @LT.lt Nat _ (L' + 2) dr := Nat.lt_trans o0 (Nat.lt_trans o1 o2)
  have hL1 : @LT.lt Nat _ (L' + 1) dr := Nat.lt_of_succ_lt hL2
  have h5d : @LT.lt Nat _ 1282 dr := Nat.lt_trans h5l hL
  have hxr2 : @LT.lt Nat _ (L' + 2) xr := Nat.lt_trans hL2 o3
  have up1 : ∀ {v : Nat}, L' + 2 < v → @Ne Nat v (L' + 1) := fun h => Nat.ne_of_gt (Nat.lt_of_succ_lt h)
  have g1 : @Ne Nat r (L' + 1) := up1 (Nat.lt_trans hxr2 hr1)
  have g2 : @Ne Nat xr (L' + 1) := up1 hxr2
  have g3 : @Ne Nat dr (L' + 1) := up1 hL2
  have g4 : @Ne Nat x (L' + 1) := up1 (Nat.lt_trans o0 o1)
  have g5 : @Ne Nat dx (L' + 1) := up1 o0
  have g6 : @Ne Nat wl (L' + 1) := Nat.ne_of_lt (Nat.lt_succ_of_lt hwL)
  have g7 : @Ne Nat (L' + 2) (L' + 1) := Nat.ne_of_gt (Nat.lt_succ_self _)
  have up5 : ∀ {v : Nat}, L' + 2 < v → @Ne Nat v 1282 := fun h => Nat.ne_of_gt (Nat.lt_trans h5l (Nat.lt_of_succ_lt (Nat.lt_of_succ_lt h)))
  have k1 : @Ne Nat r 1282 := up5 (Nat.lt_trans hxr2 hr1)
  have k2 : @Ne Nat xr 1282 := up5 hxr2
  have k3 : @Ne Nat dr 1282 := up5 hL2
  have k4 : @Ne Nat x 1282 := up5 (Nat.lt_trans o0 o1)
  have k5 : @Ne Nat dx 1282 := up5 o0
  have k6 : @Ne Nat (L' + 1) 1282 := Nat.ne_of_gt (Nat.lt_succ_of_lt h5l)
  have k7 : @Ne Nat (L' + 2) 1282 := Nat.ne_of_gt (Nat.lt_succ_of_lt (Nat.lt_succ_of_lt h5l))
  have k8 : @Ne Nat 1282 (L' + 1) := Ne.symm k6
  have k9 : @Ne Nat wl dr := Nat.ne_of_lt (Nat.lt_trans hwL hL)
  have k10 : @Ne Nat (L' + 1) dr := Nat.ne_of_lt hL1
  have k11 : @Ne Nat (L' + 2) dr := Nat.ne_of_lt hL2
  have k12 : @Ne Nat 1282 dr := Nat.ne_of_lt h5d
  clear hxr2 up1 up5
  have hro1 : ∀ q ∈ own ++ rest, q.1 ≠ L' + 1 := fun q hq => (List.mem_append.mp hq).elim (fun hq => Nat.ne_of_gt (Nat.lt_trans hL1 (hfr q hq).1)) (hrm q)
  have hro2 : ∀ q ∈ own ++ rest, q.1 ≠ 1282 := fun q hq => (List.mem_append.mp hq).elim (fun hq => Nat.ne_of_gt (Nat.lt_trans h5d (hfr q hq).1)) (hr2 q)
  have hwx : (wl, W.listOf items n) ∈ own ++ rest := List.mem_append_right _ hwl
  generalize hlr : own ++ rest = rest' at *
  have hsz : (drp b a).size ≤ 9 := le9 hb ha0 ha1
  have F₂ := fr_map (x := "at") (fr_map (x := "octets") (fr_map (x := "error") F₁ hme) (by (repeat rw [if_neg (by decide)]); exact hmo)) (by (repeat rw [if_neg (by decide)]); exact hma)
  clear F₁ X' T' B'
  change wpAny _ _ _ _ _ _
  by_cases hb1 : 0 < k ∧ a = (b.size : Int)
  · obtain ⟨hpos, haE⟩ := hb1
    subst haE
    change wpAny _ _ _ _ _ _
    k_fold
    k_steps
    refine Stop.mk ?_
    refine isT_once (· = true) ?_ ?_
    · refine isTrue_and ?_
      k_steps
      · exact ⟨rfl, _, rfl⟩
      all_goals exact absurd rfl ‹(b.size : Int) ≠ (b.size : Int)›
    intro c tkc hc
    subst hc
    change wpAny _ _ _ _ _ _
    k_steps
    refine Stop.mk ?_
    rename Obj => oC
    rename _ = Data.cell (some (Value.int k tk0)) => hd'
    rename News _ _ _ _ => NL
    refine kla_eval rfl ?_
    refine' kla_any (l := rest') ?F ?N ?T ?C ?cd ?U ?ht ?cl ?hc ?_
    case F => k_asm
    case N => k_asm
    case T => k_asm
    case cd => exact rfl
    case C => kn_code
    case U => k_updF
    case cl => exact rfl
    case ht => exact (tabL_lam (pos := ⟨898, 26, 0, 0⟩) rfl rfl htab1).1
    case hc => exact (tabL_lam rfl rfl htab1).2
    intro fA cA ocA vsA tA ctA hA tkA ps' own2 F3 N3 dC1 dC2 hmA hcA hlF
    obtain ⟨hTab2, hown2⟩ := tabL_after rfl rfl htab1 dC1 dC2 hcA
    dsimp only [List.cons_append] at N3
    have hw2 : ∀ z ∈ own2, @LT.lt Nat _ dr z.1 ∧ @LT.lt Nat _ it z.1 ∧ ∀ r ∈ rest', r.1 < z.1 := fun z h => ⟨hown2 z h (dr, _) (by k_mem), hown2 z h (it, _) (by k_mem), fun r hr => hown2 z h r (by repeat' first | exact hr | apply List.Mem.tail)⟩
    have hneF : ∀ z ∈ (own2 ++ own) ++ rest, z.1 ≠ it := fun z hz => by
      rw [List.append_assoc, hlr] at hz
      exact (List.mem_append.mp hz).elim (fun h => Nat.ne_of_gt (hw2 z h).2.1) fun h => hne z (by repeat' first | exact h | apply List.Mem.tail)
    have hTabF : TabL ps' ((own2 ++ own) ++ rest) := by rw [List.append_assoc, hlr]; exact hTab2
    have hfrF : ∀ q ∈ own2 ++ own, @LT.lt Nat _ dr q.1 ∧ ∀ r ∈ rest, r.1 < q.1 := fun q hq => (List.mem_append.mp hq).elim (fun h => ⟨(hw2 q h).1, fun r hr => (hw2 q h).2.2 r (hlr ▸ List.mem_append_right _ hr)⟩) (hfr q)
    have hback : ∀ z ∈ (own2 ++ own) ++ rest, z ∈ rest' ++ own2 := fun z hz => by
      rw [List.append_assoc, hlr] at hz
      exact List.mem_append.mpr (List.mem_append.mp hz).symm
    have hro' : ∀ q ∈ rest' ++ own2, q.1 ≠ dr := fun q hq => (List.mem_append.mp hq).elim (hro q) fun h => Nat.ne_of_gt (hw2 q h).1
    have hwx' : (wl, W.listOf items n) ∈ rest' ++ own2 := List.mem_append_left _ hwx
    clear hcA hown2 hw2 hTab2 NL htab1 hfr hro hro1 hro2 hwx
    generalize rest' ++ own2 = rest2 at N3 hmA hback hro' hwx'
    have eF : @Ne Nat fA dr := Nat.ne_of_gt (hlF (dr, _) (by k_mem))
    clear hlF
    have e11 : @Ne Nat cA dr := hro' _ hmA
    replace N3 := news_more2 N3 (.head _) (b := (cA, ocA)) (by repeat' first | exact hmA | apply List.Mem.tail)
    replace N3 := news_drop3 N3
    k_whole
    k_steps
    refine Stop.mk ?_
    refine wpAny_call (c_heardG_er (fun news2 => ∃ r2, @LT.lt Nat _ xr r2 ∧ @LT.lt Nat _ it r2 ∧ ∀ z ∈ (it, itO) :: (wl, W.listOf items n) :: (r2, baObj (drp (drp b (b.size : Int)) k)) :: (xr, instObj 1241 dr) :: (dr, recO w.params w0 w1 w2 w3 w4 w5 w6 w7 w8 w9 v_ring v_room v_mss v_next (.ref r2) v_assembly v_told_edge v_fin_at v_has_fin v_urgent_at) :: (x, instObj 927 dx) :: (dx, tcbO w.params u0 u1 u2 u3 u4 u5 u6 u7 u8 u9 u10 u11 u12 u13 v_limits v_local v_remote (.str "closed" ts) v_sender (.ref xr) v_clock v_congestion v_acks v_wheel (.str er.text te) v_probes v_unanswered v_is_nagle) :: (L' + 1, oC) :: (L' + 2, cT) :: (1282, tabObj ps') :: rest2, z ∈ news2) er _ (hd := ?hd) (hu := ?hu) rfl (.head _) rfl hB F3 X₁ N3 P₁ rfl rfl XB TB ?_ ?_)
    case hd => show dep + 1 < 705; exact lin (k := 1) hd (by decide)
    case hu => show un + 3 < 3000; exact lin (k := 3) hu (by decide)
    · intro g3 L3 h3 m3 tk3 cu FG3 B3 F3' N3' X3 T3 hcf hck R3 hR3
      refine kla_code B3 F3' X3 N3' T3 rfl hcf hck (by k_mem) (codeRec_news N3' (show (cA, ocA) ∈ _ by k_mem) dC1 dC2) ?room rfl (locs rfl) ?_ rfl rfl rfl (by decide)
      case room => show dep + 1 + 1 < recursionLimit; exact Nat.lt_of_lt_of_le (show dep + 1 + 1 < 1000 from lin (k := 2) hd (by decide)) (by decide)
      intro g4 L4 h4 FG4 F4 N4 B4 X4 T4
      change wpAny _ _ _ _ _ _
      k_fold
      k_steps
      refine Stop.mk ?_
      rename News _ _ _ _ => N5
      rename Fr _ _ _ _ => F5
      replace N5 := pickA4 N5
      refine' wpAny_call (c_receive_er er (b := drp b (b.size : Int)) hsz hk0 hk9 (Nat.ne_of_gt o3) (Nat.ne_of_gt (Nat.lt_trans o3 hr1)) (Nat.ne_of_lt o2) (Nat.ne_of_lt (Nat.lt_trans o1 o2)) ?hr rfl (tak_emp b rfl) hpos rfl (hd := ?hd) (hu := ?hu) B4 F5 X4 N5 T4 rfl rfl ?_)
      case hd => show dep + 1 + 1 + 1 < 705; exact lin (k := 3) hd (by decide)
      case hu => show un + 3 + 3 + 3 < 3000; exact lin (k := 9) hu (by decide)
      case hr => k_all
      intro r2 q1 e t d tm od h5 tk5 g5 p1 p2 p3 p4
      dsimp only
      k_unfold
      exact raise_on (hR3 _ ⟨r2, q1 (xr, _) (by k_mem), q1 (it, _) (by k_mem), by
        repeat (refine List.forall_mem_cons.mpr ⟨by k_mem, ?_⟩)
        exact fun z hz => by repeat' first | exact hz | apply List.Mem.tail⟩) FG4 rfl rfl (fun p hp => hp) p1 p2 p3 p4
    · intro h3 tk3 tw g2 news2 ⟨r2, rx2, rit2, hsub⟩ hT2 F4 N4' hB2
      have N4 : News g2 L' h3 ((it, itO) :: (wl, W.listOf items n) :: (r2, baObj (drp (drp b (b.size : Int)) k)) :: (xr, instObj 1241 dr) :: (dr, recO w.params w0 w1 w2 w3 w4 w5 w6 w7 w8 w9 v_ring v_room v_mss v_next (.ref r2) v_assembly v_told_edge v_fin_at v_has_fin v_urgent_at) :: (x, instObj 927 dx) :: (dx, tcbO w.params u0 u1 u2 u3 u4 u5 u6 u7 u8 u9 u10 u11 u12 u13 v_limits v_local v_remote (.str "closed" ts) v_sender (.ref xr) v_clock v_congestion v_acks v_wheel (.str er.text te) v_probes v_unanswered v_is_nagle) :: (L' + 1, oC) :: (L' + 2, cT) :: (1282, tabObj ps') :: rest2) := fun z hz => N4' z (hsub z hz)
      clear F3 N3 N4' X₁ P₁ C₁ hsub
      have X₂ : (K w.params).In g2 := XB.keeps hB2.stays
      have P₂ : Top p loose mean mg mb g2 := TB.keeps hB2.stays
      change wpAny _ _ _ _ _ _
      k_steps
      refine Stop.mk ?_
      rename News _ _ _ _ => N5
      rename Fr _ _ _ _ => F5
      refine wpAny_call (c_word_err er (hd := ?hd) (hu := ?hu) hB2 F5 X₂ N5 P₂ rfl rfl ?_)
      case hd => show dep + 1 < 805; exact lin (k := 1) hd (by decide)
      case hu => show un + 3 < 4000; exact lin (k := 3) hu (by decide)
      intro h4 tk4 tw2 F6 N6
      clear F5 N5
      change wpAny _ _ _ _ _ _
      have p1 : (er.word != er.word) = false := by simp
      k_steps
      rename News _ _ _ _ => N9
      rename Fr _ _ _ _ => F9
      obtain ⟨x1, x2, x3⟩ := at_next ha0 hk0 ha1
      rw [drp_drp b ha0 hk0, ← x3] at N9
      refine' turn_end (s := s) (led₂ := (r2, baObj (drp b (if (b.size : Int) + k < (b.size : Int) then (b.size : Int) + k else (b.size : Int)))) :: (xr, instObj 1241 dr) :: (dr, recO w.params w0 w1 w2 w3 w4 w5 w6 w7 w8 w9 v_ring v_room v_mss v_next (.ref r2) v_assembly v_told_edge v_fin_at v_has_fin v_urgent_at) :: (x, instObj 927 dx) :: (dx, tcbO w.params u0 u1 u2 u3 u4 u5 u6 u7 u8 u9 u10 u11 u12 u13 v_limits v_local v_remote (.str "closed" ts) v_sender (.ref xr) v_clock v_congestion v_acks v_wheel (.str er.text te) v_probes v_unanswered v_is_nagle) :: (L' + 1, oC) :: (L' + 2, cT) :: (1282, tabObj ps') :: ((own2 ++ own) ++ rest)) F9 ?J ?Nw ?ne
      case J => exact ⟨hT.trans hT2, hB2, rfl, rfl, _, _, r2, oC, _, own2 ++ own, _, rfl, x1, x2, rx2, hd', hTabF, hfrF, rfl⟩
      case Nw =>
        repeat (refine List.forall_mem_cons.mpr ⟨N9 _ (by k_mem), ?_⟩)
        exact fun z hz => N9 z (by repeat' first | exact hback z hz | apply List.Mem.tail)
      case ne => exact List.forall_mem_cons.mpr ⟨Nat.ne_of_gt rit2, List.forall_mem_cons.mpr ⟨hne (xr, _) (by k_mem), List.forall_mem_cons.mpr ⟨Ne.symm e1, List.forall_mem_cons.mpr ⟨hne (x, _) (by k_mem), List.forall_mem_cons.mpr ⟨hne (dx, _) (by k_mem), List.forall_mem_cons.mpr ⟨Ne.symm e2, List.forall_mem_cons.mpr ⟨hne (L' + 2, _) (by k_mem), List.forall_mem_cons.mpr ⟨Ne.symm e3, hneF⟩⟩⟩⟩⟩⟩⟩⟩
  · change wpAny _ _ _ _ _ _
    k_fold
    k_steps
    refine Stop.mk ?_
    refine isT_once (· = false) ?_ ?_
    · refine isTrue_and ?_
      k_steps
      all_goals first | exact ⟨rfl, _, rfl⟩ | exact absurd ⟨by assumption, by assumption⟩ hb1
    intro c tkc hc
    subst hc
    change wpAny _ _ _ _ _ _
    k_steps
    refine Stop.mk ?_
    rename News _ _ _ _ => N8
    rename Fr _ _ _ _ => F8
    rename _ = Data.cell (some (Value.int k tk0)) => hd'
    rename Obj => oC
    replace N8 := pick2 N8
    refine' wpAny_call (c_receive_ok (ev := .str er.text te) (b := drp b a) hsz hk0 hk9 (Nat.ne_of_gt o3) (Nat.ne_of_gt (Nat.lt_trans o3 hr1)) (Nat.ne_of_lt o2) (Nat.ne_of_lt (Nat.lt_trans o1 o2)) ?hr rfl (fun q => tak_ne b ha0 (Int.lt_iff_le_and_ne.mpr ⟨ha1, fun e => hb1 ⟨q, e⟩⟩) q) rfl (hd := ?hd) (hu := ?hu) hB F8 X₁ N8 P₁ rfl rfl ?_)
    case hd => show dep + 1 < 705; exact lin (k := 1) hd (by decide)
    case hu => show un + 3 < 3000; exact lin (k := 3) hu (by decide)
    case hr => exact List.forall_mem_cons.mpr ⟨e1, List.forall_mem_cons.mpr ⟨Nat.ne_of_lt (Nat.lt_trans hwL hL), List.forall_mem_cons.mpr ⟨Nat.ne_of_lt hL1, List.forall_mem_cons.mpr ⟨Nat.ne_of_lt hL2, List.forall_mem_cons.mpr ⟨Nat.ne_of_lt h5d, hro⟩⟩⟩⟩⟩
    intro h8 tk8 r2 tb2 l2 t2 n2 F10 q1 N10
    clear F8 N8
    change wpAny _ _ _ _ _ _
    k_fold
    k_steps
    refine KBc.slice_K (s := ⟨_, _, _, _, _⟩) F10 N10 rfl (by constructor) (by constructor) (by rw [KBw.ints_length]; exact Nat.le_trans hb (by decide)) ?_
    intro h7 t7 k7 F11 N11 _
    rw [tak_drp b ha0 hk0]
    clear F10 N10
    k_steps
    rename News _ _ _ _ => N9
    rename Fr _ _ _ _ => F9
    obtain ⟨x1, x2, x3⟩ := at_next ha0 hk0 ha1
    rw [drp_drp b ha0 hk0, ← x3] at N9
    subst hlr
    refine' turn_end (s := s) (led₂ := (r2, baObj (drp b (if a + k < (b.size : Int) then a + k else (b.size : Int)))) :: (xr, instObj 1241 dr) :: (dr, recO w.params w0 w1 w2 w3 w4 w5 w6 w7 w8 w9 v_ring v_room v_mss v_next (.ref r2) v_assembly v_told_edge v_fin_at v_has_fin v_urgent_at) :: (x, instObj 927 dx) :: (dx, tcbO w.params u0 u1 u2 u3 u4 u5 u6 u7 u8 u9 u10 u11 u12 u13 v_limits v_local v_remote (.str "closed" ts) v_sender (.ref xr) v_clock v_congestion v_acks v_wheel (.str er.text te) v_probes v_unanswered v_is_nagle) :: (L' + 1, oC) :: (L' + 2, cT) :: (1282, tabObj ps1) :: (own ++ rest)) F9 ?J ?Nw ?ne
    case J => exact ⟨hT, hB, rfl, rfl, _, _, r2, oC, _, own, _, rfl, x1, x2, q1 (xr, _) (by k_mem), hd', htab1, hfr, rfl⟩
    case Nw =>
      repeat (refine List.forall_mem_cons.mpr ⟨N9 _ (by k_mem), ?_⟩)
      exact fun z hz => N9 z (by repeat' first | exact hz | apply List.Mem.tail)
    case ne => exact List.forall_mem_cons.mpr ⟨Nat.ne_of_gt (q1 (it, _) (by k_mem)), List.forall_mem_cons.mpr ⟨hne (xr, _) (by k_mem), List.forall_mem_cons.mpr ⟨Ne.symm e1, List.forall_mem_cons.mpr ⟨hne (x, _) (by k_mem), List.forall_mem_cons.mpr ⟨hne (dx, _) (by k_mem), List.forall_mem_cons.mpr ⟨Ne.symm e2, List.forall_mem_cons.mpr ⟨hne (L' + 2, _) (by k_mem), List.forall_mem_cons.mpr ⟨Ne.symm e3, fun z hz => hne z (by repeat' first | exact hz | apply List.Mem.tail)⟩⟩⟩⟩⟩⟩⟩⟩
end
end Mine.Internal
end TCLoopE
end Rules2
section TCSend
open PySem PySem.W PyProof.Rows PySem.Calls
set_option Elab.async false
set_option maxRecDepth 100000
set_option maxHeartbeats 8000000
namespace Mine.Internal
section
variable {w : World} {A₀ : Around} {hdl : Option Value} {dep un : Nat} {gd : Option (List Code)} {E : Value → Shared → Prop} {s : Shared} {h₀ base : Heap} {L : Addr} {m mg mb : Str → Option Value} {news : List (Addr × Obj)} {p : Program} {loose : List Str} {mean : ExcName → Option Value}
  {env : Env} {outer : List Env} {R : Result → Shared → Prop}
theorem c_send_err (er : Er) {te : Tok} (b : Array UInt8) (tb tn : Tok) (n : Int) {x dx : Addr} {u0 u1 u2 u3 u4 u5 u6 u7 u8 u9 u10 u11 u12 u13 : Tok} {v_limits v_local v_remote v_state v_sender v_receiver v_clock v_congestion v_acks v_wheel v_probes v_unanswered v_is_nagle : Value} (hx : (x, instObj 927 dx) ∈ news) (hdx : (dx, tcbO w.params u0 u1 u2 u3 u4 u5 u6 u7 u8 u9 u10 u11 u12 u13 v_limits v_local v_remote v_state v_sender v_receiver v_clock v_congestion v_acks v_wheel (.str er.text te) v_probes v_unanswered v_is_nagle) ∈ news) (hh : hdl = none)
    (B : Below A₀ base outer h₀) (F : Fr h₀ L s.heap m) (X : (K w.params).In h₀) (N : News h₀ L s.heap news) (T : Top p loose mean mg mb h₀) (hf : env.frame = some L) (hke : env.scope.kind = .function) (hd : dep < 705) (hu : un < 3000)
    (h : RaisedOut h₀ L m base env outer er.cls er.msg news s R) :
    codeAny (model PySem.Challenge.rw_xw0352_01.prog w) ⟨hdl, dep, some (env :: outer), gd, un⟩ (.call (.ref 952) ⟨[.ref x, .bytes b tb, .int n tn], []⟩) R s := by
  revert X; k_fill; intro X
  refine' code_def (binds := [("tcb", .ref x), ("octets", .bytes b tb), ("now", .int n tn)]) ?k1 ?k2 ?k3 ?k4 ?k5 ?kA ?kF ?kK ?k6 ?k7 ?k8 ?k9 ?kB ?_ ?c2 ?c3 ?c4 ?c5
  case kA => exact rfl
  case kF => exact hf
  case kK => exact hke
  case k1 => exact B
  case k2 => exact F
  case k3 => exact X
  case k4 => exact N
  case k5 => exact T
  case k6 => k_is
  case k7 => k_is
  case k8 => exact Nat.lt_trans hd (by decide)
  case k9 => first | exact BindsTo.of_eq rfl | exact binds_K (by k_in) rfl (by k_is) rfl rfl rfl
  case c5 => decide
  case kB => exact locs rfl
  case c2 => exact rfl
  case c3 => exact rfl
  case c4 => exact rfl
  k_whole
  intro g' L' h' FG' F' N' B' X' T'
  clear F N B X T
  try dsimp only
  have N2 := news_more2 N' hx hdx
  clear N'
  change wpAny _ _ _ _ _ _
  k_fold
  k_steps
  refine Stop.mk ?_
  refine wpAny_call (c_ce_raise er (hd := ?hd) (hu := ?hu) (.head _) (.tail _ (.head _)) hh B' F' X' N2 T' rfl rfl ?_)
  case hd => show dep + 1 < 805; exact lin (k := 1) hd (by decide)
  case hu => show un + 3 < 4000; exact lin (k := 3) hu (by decide)
  intro e t d tm od h2 tk2 g2 q1 q2 q3 q4
  dsimp only
  k_unfold
  exact raise_on h FG' rfl rfl (fun p hp => .tail _ (.tail _ hp)) q1 q2 q3 q4
theorem c_send_none (b : Array UInt8) (tb tn : Tok) (n : Int) {ts : Tok} {x dx : Addr} {u0 u1 u2 u3 u4 u5 u6 u7 u8 u9 u10 u11 u12 u13 : Tok} {v_limits v_local v_remote v_sender v_receiver v_clock v_congestion v_acks v_wheel v_probes v_unanswered v_is_nagle : Value} (hx : (x, instObj 927 dx) ∈ news) (hdx : (dx, tcbO w.params u0 u1 u2 u3 u4 u5 u6 u7 u8 u9 u10 u11 u12 u13 v_limits v_local v_remote (.str "closed" ts) v_sender v_receiver v_clock v_congestion v_acks v_wheel (.none) v_probes v_unanswered v_is_nagle) ∈ news) (hh : hdl = none)
    (B : Below A₀ base outer h₀) (F : Fr h₀ L s.heap m) (X : (K w.params).In h₀) (N : News h₀ L s.heap news) (T : Top p loose mean mg mb h₀) (hf : env.frame = some L) (hke : env.scope.kind = .function) (hd : dep < 705) (hu : un < 3000)
    (h : RaisedOut h₀ L m base env outer 63 ("nothing can be sent: " ++ "closed") news s R) :
    codeAny (model PySem.Challenge.rw_xw0352_01.prog w) ⟨hdl, dep, some (env :: outer), gd, un⟩ (.call (.ref 952) ⟨[.ref x, .bytes b tb, .int n tn], []⟩) R s := by
  revert X; k_fill; intro X
  refine' code_def (binds := [("tcb", .ref x), ("octets", .bytes b tb), ("now", .int n tn)]) ?k1 ?k2 ?k3 ?k4 ?k5 ?kA ?kF ?kK ?k6 ?k7 ?k8 ?k9 ?kB ?_ ?c2 ?c3 ?c4 ?c5
  case kA => exact rfl
  case kF => exact hf
  case kK => exact hke
  case k1 => exact B
  case k2 => exact F
  case k3 => exact X
  case k4 => exact N
  case k5 => exact T
  case k6 => k_is
  case k7 => k_is
  case k8 => exact Nat.lt_trans hd (by decide)
  case k9 => first | exact BindsTo.of_eq rfl | exact binds_K (by k_in) rfl (by k_is) rfl rfl rfl
  case c5 => decide
  case kB => exact locs rfl
  case c2 => exact rfl
  case c3 => exact rfl
  case c4 => exact rfl
  k_whole
  intro g' L' h' FG' F' N' B' X' T'
  clear F N B X T
  try dsimp only
  have N2 := news_more2 N' hx hdx
  clear N'
  change wpAny _ _ _ _ _ _
  k_fold
  k_steps
  refine Stop.mk ?_
  refine wpAny_call (c_ce_none (hd := ?hd) (hu := ?hu) (.head _) (.tail _ (.head _)) B' F' X' N2 T' rfl rfl ?_)
  case hd => show dep + 1 < 805; exact lin (k := 1) hd (by decide)
  case hu => show un + 3 < 4000; exact lin (k := 3) hu (by decide)
  intro h2 tk2 F2 N3
  clear F' N2
  dsimp only
  k_steps
  refine exc_raise (K := K w.params) hh ?_
  k_fold
  k_steps
  refine wpAny_call (c_exc 63 _ _ (hd := ?hd) (hu := ?hu) (by kernel_rfl) (by k_is) (by k_is) (by k_is) (by kernel_rfl) (by k_is) (by k_is) (by k_asm) (by k_asm) (by k_asm) (by k_asm) (by k_asm) rfl rfl ?_)
  case hd => show dep + 1 < 905; exact lin (k := 1) hd (by decide)
  case hu => show un + 3 < 5000; exact lin (k := 3) hu (by decide)
  intro x2 t2 d2 od2 h2 tk2 es2 ep2 F2 N2' hdat hns l1 l2 l3
  refine ⟨x2, 63, t2, d2, rfl, X'.keeps F2.keep, by kernel_rfl, (N2' _ (.tail _ (.head _))).1, ?_⟩
  k_unfold
  exact raise_new h FG' B' F2 N2' rfl rfl hdat hns l1 l2 l3 (fun p hp => by repeat' first | exact hp | apply List.Mem.tail)
end
end Mine.Internal
end TCSend
section TCMid
open PySem PySem.W PyProof.Rows PySem.Calls
set_option Elab.async false
set_option maxRecDepth 100000
set_option maxHeartbeats 8000000
namespace Mine.Internal
section
variable {w : World} {A₀ : Around} {hdl : Option Value} {dep un : Nat} {gd : Option (List Code)} {E : Value → Shared → Prop} {s : Shared} {h₀ base : Heap} {L : Addr} {m mg mb : Str → Option Value} {news : List (Addr × Obj)} {p : Program} {loose : List Str} {mean : ExcName → Option Value}
  {env : Env} {outer : List Env} {R : Result → Shared → Prop}
def Tab2 (ps : Array Value) (l : List (Addr × Obj)) : Prop := ps = #[] ∨ TabL ps l
theorem Tab2.mono {ps : Array Value} {l l' : List (Addr × Obj)} (h : Tab2 ps l) (hs : ∀ z ∈ l, z ∈ l') : Tab2 ps l' := h.imp id fun q => q.mono hs
theorem news_pick {g h : Heap} {L : Addr} {l l' : List (Addr × Obj)} (N : News g L h l) (hs : ∀ z ∈ l', z ∈ l) : News g L h l' := fun z hz => N z (hs z hz)
theorem word_send : ((("not let: " : Str) ++ (("nothing can be sent: " : Str) ++ ("closed" : Str))) != ("not let: nothing can be sent: closed" : Str)) = false := by decide +kernel
theorem tab2_lam {ps : Array Value} {l : List (Addr × Obj)} {pos : Pos} (h1 : pos.line = 893) (h2 : pos.col = 18) (h : Tab2 ps l) : TriplesOk ps.toList ∧ (codeAmong pos ps.toList = none ∨ ∃ c' oc vs t, codeAmong pos ps.toList = some (.ref c') ∧ (c', oc) ∈ l ∧ oc.data = .fields vs ∧ vs[1]? = some (.str lamQ2 t)) := by
  obtain ⟨a, b, c, d⟩ := pos
  cases h1; cases h2
  rcases h with rfl | ⟨c, oc, rfl, hm, vs, t, e1, e2⟩ | ⟨c, oc, c2, oc2, rfl, ⟨hm, vs, t, e1, e2⟩, _⟩
  · exact ⟨by kn_triples, .inl rfl⟩
  · exact ⟨by kn_triples, .inr ⟨c, oc, vs, t, by kn_hit, hm, e1, e2⟩⟩
  · exact ⟨by kn_triples, .inr ⟨c, oc, vs, t, by kn_hit, hm, e1, e2⟩⟩
theorem tab2_after {ps ps' : Array Value} {l own : List (Addr × Obj)} {pos : Pos} {c' : Addr} {oc : Obj} {vs : Array Value} {t : Tok} {news : List (Addr × Obj)} (h1 : pos.line = 893) (h2 : pos.col = 18) (h : Tab2 ps l) (e1 : oc.data = .fields vs) (e2 : vs[1]? = some (.str lamQ2 t))
    (hc : (ps' = ps ∧ own = [] ∧ codeAmong pos ps.toList = some (.ref c')) ∨ (codeAmong pos ps.toList = none ∧ ps' = ps ++ #[rawInt pos.line, rawInt pos.col, .ref c'] ∧ own = [(c', oc)] ∧ ∀ q ∈ news, q.1 < c')) :
    TabL ps' (own ++ l) ∧ ∀ q ∈ own, ∀ z ∈ news, z.1 < q.1 := by
  obtain ⟨a, b, c, d⟩ := pos
  cases h1; cases h2
  rcases hc with ⟨rfl, rfl, hs⟩ | ⟨hn, rfl, rfl, hl⟩
  · refine ⟨?_, fun _ q => nomatch q⟩
    rcases h with rfl | h
    · cases hs
    · exact h
  · refine ⟨?_, fun q hq => by obtain rfl := List.mem_singleton.mp hq; exact hl⟩
    rcases h with rfl | ⟨c, oc, rfl, _⟩ | ⟨c, oc, c2, oc2, rfl, _⟩
    · exact .inl ⟨c', oc, rfl, .head _, vs, t, e1, e2⟩
    · rw [show codeAmong _ _ = some (Value.ref c) by kn_hit] at hn; cases hn
    · rw [show codeAmong _ _ = some (Value.ref c) by kn_hit] at hn; cases hn
theorem c_mid_er (er : Er) {te : Tok} {g' : Heap} {L' : Addr} {m' : Str → Option Value} {x dx xr dr ba : Addr} {ts : Tok} {w0 w1 w2 w3 w4 w5 w6 w7 w8 w9 : Tok} {v_ring v_room v_mss v_next v_assembly v_told_edge v_fin_at v_has_fin v_urgent_at : Value} {u0 u1 u2 u3 u4 u5 u6 u7 u8 u9 u10 u11 u12 u13 : Tok} {v_limits v_local v_remote v_clock v_congestion v_acks v_wheel v_probes v_unanswered v_is_nagle : Value} {q dq xs ds : Addr} {k0 k1 th : Tok} {vq_room : Value} {i0 i1 i2 i3 i4 i5 i6 i7 i8 i9 i10 : Tok} {vs_iss vs_ring vs_mss vs_una vs_next vs_greatest vs_peer vs_syn_pending vs_fin_asked vs_fin_sent : Value} {rest : List (Addr × Obj)} {b : Array UInt8} {cM cT : Obj} {ps : Array Value} {tb : Tok} {wl : Addr} {items : Array Value} {n : Nat} {Q : Flow → Shared → Prop} (hb : b.size ≤ 9) (hcM : ∃ v, cM.data = .cell v) (hcT : cT.data = .cell (some (.ref x)))
    (o0 : @LT.lt Nat _ (L' + 2) dx) (o1 : @LT.lt Nat _ dx x) (o2 : @LT.lt Nat _ x dr) (o3 : @LT.lt Nat _ dr xr) (o4 : @LT.lt Nat _ xr ba) (q1 : @LT.lt Nat _ L' q) (q2 : @LT.lt Nat _ L' dq) (q3 : @LT.lt Nat _ L' xs) (q4 : @LT.lt Nat _ L' ds) (hwL : @LT.lt Nat _ wl L') (h5l : @LT.lt Nat _ 1282 L') (hrd : ∀ q ∈ rest, q.1 ≠ dr) (hrm : ∀ q ∈ rest, q.1 ≠ L' + 1) (hr2 : ∀ q ∈ rest, q.1 ≠ 1282)
    (hit : ∀ (i : Nat) (v : Value), items[i]? = some v → ∃ k t, v = .int k t ∧ 0 ≤ k ∧ k ≤ 9) (hwl : (wl, W.listOf items n) ∈ rest) (htab : Tab2 ps rest)
    (me : m' "error" = some (.str er.text te)) (mo : m' "octets" = some (.bytes b tb)) (mw : m' "wants" = some (.ref wl))
    (B' : Below ⟨none, dep, some (env :: outer), gd, un⟩ base (env :: outer) g') (F' : Fr g' L' s.heap m') (X' : (K w.params).In g') (T' : Top p loose mean mg mb g') (hd : dep < 505) (hu : un < 1900) (XB : (K w.params).In base) (TB : Top p loose mean mg mb base) (CB : CodeHd base 1286 1282) (N' : News g' L' s.heap ((ba, baObj b) :: (xr, instObj 1241 dr) :: (dr, recO w.params w0 w1 w2 w3 w4 w5 w6 w7 w8 w9 v_ring v_room v_mss v_next (.ref ba) v_assembly v_told_edge v_fin_at v_has_fin v_urgent_at) :: (x, instObj 927 dx) :: (dx, tcbO w.params u0 u1 u2 u3 u4 u5 u6 u7 u8 u9 u10 u11 u12 u13 v_limits v_local v_remote (.str "closed" ts) (.ref xs) (.ref xr) v_clock v_congestion v_acks v_wheel (.str er.text te) v_probes v_unanswered v_is_nagle) :: (q, instObj 457 dq) :: (dq, dictOf [dE w.params "room" k0 (vq_room), dE w.params "held" k1 (.bytes #[] th)] 2) :: (xs, instObj 690 ds) :: (ds, sndO w.params i0 i1 i2 i3 i4 i5 i6 i7 i8 i9 i10 vs_iss vs_ring vs_mss vs_una vs_next vs_greatest vs_peer (.ref q) vs_syn_pending vs_fin_asked vs_fin_sent) :: (L' + 1, cM) :: (L' + 2, cT) :: (1282, tabObj ps) :: rest))
    (h : ∀ h'' tk m'' g'' own ps', KtsTurn (frs (env :: outer)) g' g'' → Below ⟨none, dep, some (env :: outer), gd, un⟩ base (env :: outer) g'' → TabL ps' (own ++ rest) → (∀ q ∈ own, @LT.lt Nat _ L' q.1 ∧ ∀ r ∈ rest, r.1 < q.1) → Fr g'' L' h'' m'' → News g'' L' h'' ((1282, tabObj ps') :: (own ++ rest)) → Q (.ret (.bool true)) { s with heap := h'', toks := tk }) :
    wpS (model PySem.Challenge.rw_xw0352_01.prog w) (Around.deeper ⟨none, dep, some (env :: outer), gd, un⟩ (endsEnv L')) (execs (List.drop 5 endsBody) (endsEnv L')) Q E s := by
  have hQ := h
  clear h
  have z1 : @LT.lt Nat _ 1282 dx := Nat.lt_trans h5l (Nat.lt_of_succ_lt (Nat.lt_of_succ_lt o0))
  have z2 : @LT.lt Nat _ 1282 x := Nat.lt_trans z1 o1
  have z3 : @LT.lt Nat _ 1282 dr := Nat.lt_trans z2 o2
  have z4 : @LT.lt Nat _ 1282 xr := Nat.lt_trans z3 o3
  have n1 : @Ne Nat ba 1282 := Nat.ne_of_gt (Nat.lt_trans z4 o4)
  have n2 : @Ne Nat xr 1282 := Nat.ne_of_gt z4
  have n3 : @Ne Nat dr 1282 := Nat.ne_of_gt z3
  have n4 : @Ne Nat x 1282 := Nat.ne_of_gt z2
  have n5 : @Ne Nat dx 1282 := Nat.ne_of_gt z1
  have n6 : @Ne Nat q 1282 := Nat.ne_of_gt (Nat.lt_trans h5l q1)
  have n7 : @Ne Nat dq 1282 := Nat.ne_of_gt (Nat.lt_trans h5l q2)
  have n8 : @Ne Nat xs 1282 := Nat.ne_of_gt (Nat.lt_trans h5l q3)
  have n9 : @Ne Nat ds 1282 := Nat.ne_of_gt (Nat.lt_trans h5l q4)
  have n10 : @Ne Nat (L' + 1) 1282 := Nat.ne_of_gt (Nat.lt_succ_of_lt h5l)
  have n11 : @Ne Nat (L' + 2) 1282 := Nat.ne_of_gt (Nat.lt_succ_of_lt (Nat.lt_succ_of_lt h5l))
  clear z1 z2 z3 z4
  have X₀ := X'
  have C₁ : CodeHd g' 1286 1282 := CB.keeps B'.stays
  have F₂ := fr_map (x := "octets") (fr_map (x := "error") (fr_map (x := "wants") F' mw) (by (repeat rw [if_neg (by decide)]); exact me)) (by (repeat rw [if_neg (by decide)]); exact mo)
  clear F'
  rw [show List.drop 5 endsBody = [_, _, _, _, _] from rfl]
  unfold endsEnv
  rw [show endsScope = ⟨_, _, _, _, _⟩ from rfl]
  revert X'; k_fill; intro X'
  refine wpS_execs_any ?_
  change wpAny _ _ _ _ _ _
  k_fold
  k_steps
  refine Stop.mk ?_
  rename News _ _ _ _ => N5
  rename Fr _ _ _ _ => F5
  refine wpAny_call (c_word_err er (hd := ?hd) (hu := ?hu) B' F5 X' N5 T' rfl rfl ?_)
  case hd => show dep + 1 < 805; exact lin (k := 1) hd (by decide)
  case hu => show un + 3 < 4000; exact lin (k := 3) hu (by decide)
  intro h4 tk4 tw2 F6 N6
  clear F5 N5
  change wpAny _ _ _ _ _ _
  k_steps
  rename News _ _ _ _ => N5
  rename Fr _ _ _ _ => F5
  refine wpS_execs_any ?_
  change wpAny _ _ _ _ _ _
  k_fold
  k_steps
  refine Stop.mk ?_
  obtain ⟨hti, hcs⟩ := tab2_lam (pos := ⟨893, 18, 893, 45⟩) rfl rfl htab
  refine kla_eval rfl ?_
  refine' kla_any (l := rest) ?F ?N ?T ?C ?cd ?U hti ?cl ?hc ?_
  case F => k_asm
  case N => k_asm
  case T => k_asm
  case cd => exact rfl
  case C => kn_code
  case U => k_updF
  case cl => exact rfl
  case hc => exact hcs
  intro fA cA ocA vsA tA ctA hA tkA ps' own F3 N3 dC1 dC2 hmA hcA _
  obtain ⟨hTab, hown⟩ := tab2_after rfl rfl htab dC1 dC2 hcA
  dsimp only [List.cons_append] at N3
  have hrd' : ∀ q ∈ rest ++ own, q.1 ≠ dr := fun q hq => (List.mem_append.mp hq).elim (hrd q) fun h => Nat.ne_of_gt (hown q h (dr, _) (by k_mem))
  have hrm' : ∀ q ∈ rest ++ own, q.1 ≠ L' + 1 := fun q hq => (List.mem_append.mp hq).elim (hrm q) fun h => Nat.ne_of_gt (hown q h (L' + 1, _) (by k_mem))
  have hownF : ∀ q ∈ own, @LT.lt Nat _ L' q.1 ∧ ∀ r ∈ rest, r.1 < q.1 := fun q h => ⟨Nat.lt_of_succ_lt (hown q h (L' + 1, _) (by k_mem)), fun r hr => hown q h r (by repeat' first | exact hr | apply List.Mem.tail)⟩
  have hr2' : ∀ q ∈ rest ++ own, q.1 ≠ 1282 := fun q hq => (List.mem_append.mp hq).elim (hr2 q) fun h => Nat.ne_of_gt (Nat.lt_trans h5l (hownF q h).1)
  have hsp : ∀ z ∈ rest ++ own, z ∈ own ++ rest := fun z hz => List.mem_append.mpr (List.mem_append.mp hz).symm
  have hin : ∀ z ∈ rest, z ∈ rest ++ own := fun z hz => List.mem_append_left _ hz
  have hTab' : TabL ps' (rest ++ own) := hTab.mono fun z hz => List.mem_append.mpr (List.mem_append.mp hz).symm
  have hwl' : (wl, W.listOf items n) ∈ rest ++ own := List.mem_append_left _ hwl
  have hswap : ∀ z ∈ own ++ rest, z ∈ rest ++ own := fun z hz => List.mem_append.mpr (List.mem_append.mp hz).symm
  clear hcA hown hcs hti N5 F5
  clear hrd hrm hwl htab hr2 hTab
  generalize rest ++ own = rest' at N3 hmA hrd' hrm' hr2' hwl' hswap hsp hin hTab'
  k_whole
  k_steps
  refine Stop.mk ?_
  refine wpAny_call (c_heard_er er _ (hd := ?hd) (hu := ?hu) rfl (.head _) rfl B' F3 X' N3 T' rfl rfl XB TB ?_ ?_)
  case hd => show dep + 1 < 705; exact lin (k := 1) hd (by decide)
  case hu => show un + 3 < 3000; exact lin (k := 3) hu (by decide)
  · intro g3 L3 h3 m3 tk3 cu FG3 B3 F3' N3' X3 T3 hcf hck R3 hR3
    refine kla_code B3 F3' X3 N3' T3 rfl hcf hck (by k_mem) (codeRec_news N3' (show (cA, ocA) ∈ _ by repeat' first | exact hmA | apply List.Mem.tail) dC1 dC2) ?room rfl (locs rfl) ?_ rfl rfl rfl (by decide)
    case room => show dep + 1 + 1 < recursionLimit; exact Nat.lt_of_lt_of_le (show dep + 1 + 1 < 1000 from lin (k := 2) hd (by decide)) (by decide)
    intro g4 L4 h4 FG4 F4 N4 B4 X4 T4
    change wpAny _ _ _ _ _ _
    k_fold
    k_steps
    refine Stop.mk ?_
    rename News _ _ _ _ => N5
    rename Fr _ _ _ _ => F5
    refine' wpAny_call (c_send_err er _ _ _ _ (hd := ?hd) (hu := ?hu) ?hx ?hdx rfl B4 F5 X4 N5 T4 rfl rfl ?_)
    case hx => k_mem
    case hdx => k_mem
    case hd => show dep + 1 + 1 + 1 < 705; exact lin (k := 3) hd (by decide)
    case hu => show un + 3 + 3 + 3 < 3000; exact lin (k := 9) hu (by decide)
    intro e t d tm od h5 tk5 g5 p1 p2 p3 p4
    dsimp only
    k_unfold
    exact raise_on hR3 FG4 rfl rfl (fun p hp => hp) p1 p2 p3 p4
  · intro h3 tk3 tw g2 hT2 F4 N4 hB2
    clear F3 N3 X' T' B' C₁
    have X₂ : (K w.params).In g2 := XB.keeps hB2.stays
    have P₂ : Top p loose mean mg mb g2 := TB.keeps hB2.stays
    change wpAny _ _ _ _ _ _
    have p1 : (er.word != er.word) = false := by simp
    k_steps
    refine wpS_execs_any ?_
    change wpAny _ _ _ _ _ _
    k_fold
    k_steps
    rename News _ _ _ _ => N8
    rename Fr _ _ _ _ => F8
    refine' wpS_any (c_loop_er (rest := rest') (ps := ps') er hb hcM hcT o0 o1 o2 o3 o4 hwL h5l ?l1 ?l2 ?l3 hit ?l4 ?l5 rfl rfl rfl rfl hB2 F8 X₂ P₂ hd hu XB TB CB (news_pick N8 ?l6) ?l7)
    case l1 => exact hrd'
    case l2 => exact hrm'
    case l3 => exact hr2'
    case l4 => repeat' first | exact hwl' | apply List.Mem.tail
    case l5 => exact hTab'
    case l6 =>
      repeat (refine List.forall_mem_cons.mpr ⟨by k_mem, ?_⟩)
      exact fun z hz => by repeat' first | exact hz | apply List.Mem.tail
    case l7 =>
      intro h7 tk7 m7 g7 own7 ps7 a1 a2 a3 a4 a5 a6
      refine hQ _ _ _ g7 (own7 ++ own) ps7 (hT2.trans a1) a2 (a3.mono fun z hz => ?_) (fun q hq => ?_) a5 (fun z hz => a6 z ?_)
      · rw [List.append_assoc]
        exact (List.mem_append.mp hz).elim (fun h => List.mem_append_left _ h) fun h => List.mem_append_right _ (hsp z h)
      · rcases List.mem_append.mp hq with h | h
        · refine ⟨?_, fun r hr => (a4 q h).2 r (hin r hr)⟩
          exact Nat.lt_trans (Nat.lt_of_succ_lt (Nat.lt_of_succ_lt o0)) (Nat.lt_trans o1 (Nat.lt_trans o2 (a4 q h).1))
        · exact hownF q h
      · rcases List.mem_cons.mp hz with rfl | hz
        · exact .head _
        · rw [List.append_assoc] at hz
          exact .tail _ ((List.mem_append.mp hz).elim (fun h => List.mem_append_left _ h) fun h => List.mem_append_right _ (hswap z h))
theorem c_mid_none {g' : Heap} {L' : Addr} {m' : Str → Option Value} {x dx xr dr ba : Addr} {ts : Tok} {w0 w1 w2 w3 w4 w5 w6 w7 w8 w9 : Tok} {v_ring v_room v_mss v_next v_assembly v_told_edge v_fin_at v_has_fin v_urgent_at : Value} {u0 u1 u2 u3 u4 u5 u6 u7 u8 u9 u10 u11 u12 u13 : Tok} {v_limits v_local v_remote v_clock v_congestion v_acks v_wheel v_probes v_unanswered v_is_nagle : Value} {q dq xs ds : Addr} {k0 k1 th : Tok} {vq_room : Value} {i0 i1 i2 i3 i4 i5 i6 i7 i8 i9 i10 : Tok} {vs_iss vs_ring vs_mss vs_una vs_next vs_greatest vs_peer vs_syn_pending vs_fin_asked vs_fin_sent : Value} {rest : List (Addr × Obj)} {b : Array UInt8} {cM cT : Obj} {ps : Array Value} {tb : Tok} {wl : Addr} {items : Array Value} {n : Nat} {Q : Flow → Shared → Prop} (hb : b.size ≤ 9) (hcM : ∃ v, cM.data = .cell v) (hcT : cT.data = .cell (some (.ref x)))
    (o0 : @LT.lt Nat _ (L' + 2) dx) (o1 : @LT.lt Nat _ dx x) (o2 : @LT.lt Nat _ x dr) (o3 : @LT.lt Nat _ dr xr) (o4 : @LT.lt Nat _ xr ba) (q1 : @LT.lt Nat _ L' q) (q2 : @LT.lt Nat _ L' dq) (q3 : @LT.lt Nat _ L' xs) (q4 : @LT.lt Nat _ L' ds) (hwL : @LT.lt Nat _ wl L') (h5l : @LT.lt Nat _ 1282 L') (hrd : ∀ q ∈ rest, q.1 ≠ dr) (hrm : ∀ q ∈ rest, q.1 ≠ L' + 1) (hr2 : ∀ q ∈ rest, q.1 ≠ 1282)
    (hit : ∀ (i : Nat) (v : Value), items[i]? = some v → ∃ k t, v = .int k t ∧ 0 ≤ k ∧ k ≤ 9) (hwl : (wl, W.listOf items n) ∈ rest) (htab : Tab2 ps rest)
    (me : m' "error" = some (.none)) (mo : m' "octets" = some (.bytes b tb)) (mw : m' "wants" = some (.ref wl))
    (B' : Below ⟨none, dep, some (env :: outer), gd, un⟩ base (env :: outer) g') (F' : Fr g' L' s.heap m') (X' : (K w.params).In g') (T' : Top p loose mean mg mb g') (hd : dep < 505) (hu : un < 1900) (XB : (K w.params).In base) (TB : Top p loose mean mg mb base) (CB : CodeHd base 1286 1282) (N' : News g' L' s.heap ((ba, baObj b) :: (xr, instObj 1241 dr) :: (dr, recO w.params w0 w1 w2 w3 w4 w5 w6 w7 w8 w9 v_ring v_room v_mss v_next (.ref ba) v_assembly v_told_edge v_fin_at v_has_fin v_urgent_at) :: (x, instObj 927 dx) :: (dx, tcbO w.params u0 u1 u2 u3 u4 u5 u6 u7 u8 u9 u10 u11 u12 u13 v_limits v_local v_remote (.str "closed" ts) (.ref xs) (.ref xr) v_clock v_congestion v_acks v_wheel (.none) v_probes v_unanswered v_is_nagle) :: (q, instObj 457 dq) :: (dq, dictOf [dE w.params "room" k0 (vq_room), dE w.params "held" k1 (.bytes #[] th)] 2) :: (xs, instObj 690 ds) :: (ds, sndO w.params i0 i1 i2 i3 i4 i5 i6 i7 i8 i9 i10 vs_iss vs_ring vs_mss vs_una vs_next vs_greatest vs_peer (.ref q) vs_syn_pending vs_fin_asked vs_fin_sent) :: (L' + 1, cM) :: (L' + 2, cT) :: (1282, tabObj ps) :: rest))
    (h : ∀ h'' tk m'' g'' own ps', KtsTurn (frs (env :: outer)) g' g'' → Below ⟨none, dep, some (env :: outer), gd, un⟩ base (env :: outer) g'' → TabL ps' (own ++ rest) → (∀ q ∈ own, @LT.lt Nat _ L' q.1 ∧ ∀ r ∈ rest, r.1 < q.1) → Fr g'' L' h'' m'' → News g'' L' h'' ((1282, tabObj ps') :: (own ++ rest)) → Q (.ret (.bool true)) { s with heap := h'', toks := tk }) :
    wpS (model PySem.Challenge.rw_xw0352_01.prog w) (Around.deeper ⟨none, dep, some (env :: outer), gd, un⟩ (endsEnv L')) (execs (List.drop 5 endsBody) (endsEnv L')) Q E s := by
  have hQ := h
  clear h
  have z1 : @LT.lt Nat _ 1282 dx := Nat.lt_trans h5l (Nat.lt_of_succ_lt (Nat.lt_of_succ_lt o0))
  have z2 : @LT.lt Nat _ 1282 x := Nat.lt_trans z1 o1
  have z3 : @LT.lt Nat _ 1282 dr := Nat.lt_trans z2 o2
  have z4 : @LT.lt Nat _ 1282 xr := Nat.lt_trans z3 o3
  have n1 : @Ne Nat ba 1282 := Nat.ne_of_gt (Nat.lt_trans z4 o4)
  have n2 : @Ne Nat xr 1282 := Nat.ne_of_gt z4
  have n3 : @Ne Nat dr 1282 := Nat.ne_of_gt z3
  have n4 : @Ne Nat x 1282 := Nat.ne_of_gt z2
  have n5 : @Ne Nat dx 1282 := Nat.ne_of_gt z1
  have n6 : @Ne Nat q 1282 := Nat.ne_of_gt (Nat.lt_trans h5l q1)
  have n7 : @Ne Nat dq 1282 := Nat.ne_of_gt (Nat.lt_trans h5l q2)
  have n8 : @Ne Nat xs 1282 := Nat.ne_of_gt (Nat.lt_trans h5l q3)
  have n9 : @Ne Nat ds 1282 := Nat.ne_of_gt (Nat.lt_trans h5l q4)
  have n10 : @Ne Nat (L' + 1) 1282 := Nat.ne_of_gt (Nat.lt_succ_of_lt h5l)
  have n11 : @Ne Nat (L' + 2) 1282 := Nat.ne_of_gt (Nat.lt_succ_of_lt (Nat.lt_succ_of_lt h5l))
  clear z1 z2 z3 z4
  have X₀ := X'
  have C₁ : CodeHd g' 1286 1282 := CB.keeps B'.stays
  have F₂ := fr_map (x := "octets") (fr_map (x := "error") (fr_map (x := "wants") F' mw) (by (repeat rw [if_neg (by decide)]); exact me)) (by (repeat rw [if_neg (by decide)]); exact mo)
  clear F'
  rw [show List.drop 5 endsBody = [_, _, _, _, _] from rfl]
  unfold endsEnv
  rw [show endsScope = ⟨_, _, _, _, _⟩ from rfl]
  revert X'; k_fill; intro X'
  refine wpS_execs_any ?_
  change wpAny _ _ _ _ _ _
  k_fold
  k_steps
  rename News _ _ _ _ => N5
  rename Fr _ _ _ _ => F5
  refine wpS_execs_any ?_
  change wpAny _ _ _ _ _ _
  k_fold
  k_steps
  refine Stop.mk ?_
  obtain ⟨hti, hcs⟩ := tab2_lam (pos := ⟨893, 18, 893, 45⟩) rfl rfl htab
  refine kla_eval rfl ?_
  refine' kla_any (l := rest) ?F ?N ?T ?C ?cd ?U hti ?cl ?hc ?_
  case F => k_asm
  case N => k_asm
  case T => k_asm
  case cd => exact rfl
  case C => kn_code
  case U => k_updF
  case cl => exact rfl
  case hc => exact hcs
  intro fA cA ocA vsA tA ctA hA tkA ps' own F3 N3 dC1 dC2 hmA hcA _
  obtain ⟨hTab, hown⟩ := tab2_after rfl rfl htab dC1 dC2 hcA
  dsimp only [List.cons_append] at N3
  have hrd' : ∀ q ∈ rest ++ own, q.1 ≠ dr := fun q hq => (List.mem_append.mp hq).elim (hrd q) fun h => Nat.ne_of_gt (hown q h (dr, _) (by k_mem))
  have hrm' : ∀ q ∈ rest ++ own, q.1 ≠ L' + 1 := fun q hq => (List.mem_append.mp hq).elim (hrm q) fun h => Nat.ne_of_gt (hown q h (L' + 1, _) (by k_mem))
  have hownF : ∀ q ∈ own, @LT.lt Nat _ L' q.1 ∧ ∀ r ∈ rest, r.1 < q.1 := fun q h => ⟨Nat.lt_of_succ_lt (hown q h (L' + 1, _) (by k_mem)), fun r hr => hown q h r (by repeat' first | exact hr | apply List.Mem.tail)⟩
  have hwl' : (wl, W.listOf items n) ∈ rest ++ own := List.mem_append_left _ hwl
  have hswap : ∀ z ∈ own ++ rest, z ∈ rest ++ own := fun z hz => List.mem_append.mpr (List.mem_append.mp hz).symm
  clear hcA hown hcs hti N5 F5
  clear hrd hrm hwl htab
  generalize rest ++ own = rest' at N3 hmA hrd' hrm' hwl' hswap
  k_whole
  k_steps
  refine Stop.mk ?_
  refine wpAny_call (c_heard_63 ("nothing can be sent: " ++ "closed") _ (by decide +kernel) (hd := ?hd) (hu := ?hu) rfl (.head _) rfl B' F3 X' N3 T' rfl rfl XB TB ?_ ?_)
  case hd => show dep + 1 < 705; exact lin (k := 1) hd (by decide)
  case hu => show un + 3 < 3000; exact lin (k := 3) hu (by decide)
  · intro g3 L3 h3 m3 tk3 cu FG3 B3 F3' N3' X3 T3 hcf hck R3 hR3
    refine kla_code B3 F3' X3 N3' T3 rfl hcf hck (by k_mem) (codeRec_news N3' (show (cA, ocA) ∈ _ by repeat' first | exact hmA | apply List.Mem.tail) dC1 dC2) ?room rfl (locs rfl) ?_ rfl rfl rfl (by decide)
    case room => show dep + 1 + 1 < recursionLimit; exact Nat.lt_of_lt_of_le (show dep + 1 + 1 < 1000 from lin (k := 2) hd (by decide)) (by decide)
    intro g4 L4 h4 FG4 F4 N4 B4 X4 T4
    change wpAny _ _ _ _ _ _
    k_fold
    k_steps
    refine Stop.mk ?_
    rename News _ _ _ _ => N5
    rename Fr _ _ _ _ => F5
    refine' wpAny_call (c_send_none _ _ _ _ (hd := ?hd) (hu := ?hu) ?hx ?hdx rfl B4 F5 X4 N5 T4 rfl rfl ?_)
    case hx => k_mem
    case hdx => k_mem
    case hd => show dep + 1 + 1 + 1 < 705; exact lin (k := 3) hd (by decide)
    case hu => show un + 3 + 3 + 3 < 3000; exact lin (k := 9) hu (by decide)
    intro e t d tm od h5 tk5 g5 p1 p2 p3 p4
    dsimp only
    k_unfold
    exact raise_on hR3 FG4 rfl rfl (fun p hp => hp) p1 p2 p3 p4
  · intro h3 tk3 tw g2 hT2 F4 N4 hB2
    clear F3 N3 X' T' B' C₁
    have X₂ : (K w.params).In g2 := XB.keeps hB2.stays
    have P₂ : Top p loose mean mg mb g2 := TB.keeps hB2.stays
    change wpAny _ _ _ _ _ _
    have p1 := word_send
    k_steps
    refine wpS_execs_any ?_
    change wpAny _ _ _ _ _ _
    k_fold
    k_steps
    rename News _ _ _ _ => N8
    rename Fr _ _ _ _ => F8
    refine' wpS_any (c_loop_none (rest := (1282, tabObj ps') :: rest') hb hcM hcT o0 o1 o2 o3 o4 hwL ?l1 ?l2 hit ?l4 rfl rfl rfl rfl hB2 F8 X₂ P₂ hd hu (news_pick N8 ?l6) ?l7)
    case l1 => exact List.forall_mem_cons.mpr ⟨Nat.ne_of_lt (Nat.lt_trans (Nat.lt_trans h5l (Nat.lt_of_succ_lt (Nat.lt_of_succ_lt o0))) (Nat.lt_trans o1 o2)), hrd'⟩
    case l2 => exact List.forall_mem_cons.mpr ⟨Nat.ne_of_lt (Nat.lt_succ_of_lt h5l), hrm'⟩
    case l4 => repeat' first | exact hwl' | apply List.Mem.tail
    case l6 =>
      repeat (refine List.forall_mem_cons.mpr ⟨by k_mem, ?_⟩)
      exact fun z hz => by repeat' first | exact hz | apply List.Mem.tail
    case l7 =>
      intro h7 tk7 m7 a5 a6
      exact hQ _ _ _ g2 own ps' hT2 hB2 hTab hownF a5 fun z hz => a6 z ((List.mem_cons.mp hz).elim (fun e => e ▸ .head _) fun e => .tail _ (hswap z e))
end
end Mine.Internal
end TCMid
section TSLog5
open PySem PySem.W PySem.Calls PyProof.Rows
set_option Elab.async false
set_option maxRecDepth 100000
set_option maxHeartbeats 4000000
namespace Mine
open Sem (wp)
section
variable {M : Model} {A : Around} {E : Value → Shared → Prop} {s : Shared} {K : Frag} {env : Env} {pos : Pos} {f : Value} {first : List Value} {Q : Value → Shared → Prop}
theorem callWithS_K {e : PySem.Expr} {rest : List PySem.Expr} (hk : keepIn K f = true) (h : wpAny M A (spliced (backTo pos (starEach (e :: rest) env))) (fun vs s₁ => K.In s₁.heap ∧ wpS M A (call f (first ++ vs)) Q E s₁) E s)
    (he : starEach (e :: rest) env = (false, eval e env) :: starEach rest env := by rfl) (hplain : (backTo pos (starEach rest env)).any (·.1) = false := by rfl) :
    wpS M A (callWith pos f first (backTo pos (starEach (e :: rest) env)) []) Q E s := by
  rw [he] at h ⊢
  exact callWithS_of (by show (false || (backTo pos (starEach rest env)).any (·.1)) = false; rw [hplain]; rfl) (keeps_K hk) (evalArgs_plain h)
theorem callWithS_K0 (X : K.In s.heap) (hk : keepIn K f = true) (h : wpS M A (call f (first ++ [])) Q E s) : wpS M A (callWith pos f first (backTo pos (starEach [] env)) []) Q E s :=
  callWithS_of rfl (keeps_K hk) (evalArgs_nil3 ⟨X, h⟩)
theorem keeps_B (hk : keeperOf f = pure .machine) (h : Heap) (_ : True) : ∃ k, (k = Keeper.frame ∨ k = Keeper.machine ∨ k = Keeper.boundFrame) ∧ Looks M h (keeperOf f) k :=
  ⟨.machine, .inr (.inl rfl), by rw [hk]; exact .now⟩
theorem callWithS_B {e : PySem.Expr} {rest : List PySem.Expr} (hk : keeperOf f = pure .machine) (h : wpAny M A (spliced (backTo pos (starEach (e :: rest) env))) (fun vs s₁ => wpS M A (call f (first ++ vs)) Q E s₁) E s)
    (he : starEach (e :: rest) env = (false, eval e env) :: starEach rest env := by rfl) (hplain : (backTo pos (starEach rest env)).any (·.1) = false := by rfl) :
    wpS M A (callWith pos f first (backTo pos (starEach (e :: rest) env)) []) Q E s := by
  rw [he] at h ⊢
  exact callWithS_of (P := fun _ => True) (by show (false || (backTo pos (starEach rest env)).any (·.1)) = false; rw [hplain]; rfl) (keeps_B hk) (evalArgs_plain (wpAny_mono h (fun _ _ q => ⟨trivial, q⟩) fun _ _ q => q))
theorem callWithS_B0 (hk : keeperOf f = pure .machine) (h : wpS M A (call f (first ++ [])) Q E s) : wpS M A (callWith pos f first (backTo pos (starEach [] env)) []) Q E s :=
  callWithS_of (P := fun _ => True) rfl (keeps_B hk) (evalArgs_nil3 ⟨trivial, h⟩)
end
end Mine
end TSLog5
section TCTake
open PySem PySem.W PyProof.Rows PySem.Calls
set_option Elab.async false
set_option maxRecDepth 100000
set_option maxHeartbeats 8000000
namespace Mine.Internal
section
variable {w : World} {A₀ : Around} {hdl : Option Value} {dep un : Nat} {gd : Option (List Code)} {E : Value → Shared → Prop} {s : Shared} {h₀ base : Heap} {L : Addr} {m mg mb : Str → Option Value} {news : List (Addr × Obj)} {p : Program} {loose : List Str} {mean : ExcName → Option Value}
  {env : Env} {outer : List Env} {R : Result → Shared → Prop}
theorem ne_lenN {prog : Program} {A : Around} {xs ys : Array Value} {n k : Nat} {Q : Value → Shared → Prop} {a b : Addr} (N : News h₀ L s.heap news) (ha : (a, W.listOf xs n) ∈ news) (hb : (b, W.listOf ys k) ∈ news) (hsz : (xs.size != ys.size) = true) (hu : A.units < cLine) (h : Q (.bool true) s) :
    wpAny (model prog w) A (compareOp .NotEq (.ref a) (.ref b)) Q E s := ne_len (N _ ha).1 (N _ hb).1 hsz hu h
theorem eq_lenN {prog : Program} {A : Around} {xs ys : Array Value} {n k : Nat} {Q : Value → Shared → Prop} {a b : Addr} (N : News h₀ L s.heap news) (ha : (a, W.listOf xs n) ∈ news) (hb : (b, W.listOf ys k) ∈ news) (hsz : (xs.size != ys.size) = true) (hu : A.units < cLine) (h : Q (.bool false) s) :
    wpAny (model prog w) A (compareOp .Eq (.ref a) (.ref b)) Q E s := eq_len (N _ ha).1 (N _ hb).1 hsz hu h
local macro_rules | `(tactic| walk_at "compareOp NotEq ref ref") => `(tactic| (k_here; refine' ne_lenN ?kN ?kA ?kB ?kZ ?kU ?_; (case kN => k_asm); (case kA => k_mem); (case kB => k_mem); (case kZ => rfl); (case kU => walk_at "my units")))
local macro_rules | `(tactic| walk_at "compareOp Eq ref ref") => `(tactic| (k_here; refine' eq_lenN ?kN ?kA ?kB ?kZ ?kU ?_; (case kN => k_asm); (case kA => k_mem); (case kB => k_mem); (case kZ => rfl); (case kU => walk_at "my units")))
theorem c_take_nil {x dx pl : Addr} {a0 a1 t1 tn : Tok} (hp : (pl, W.listOf #[] 0) ∈ news) (hx : (x, instObj 1107 dx) ∈ news) (hdx : (dx, asmO w.params a0 a1 (.int 256 t1) (.ref pl)) ∈ news) (hh : hdl = none)
    (B : Below A₀ base outer h₀) (F : Fr h₀ L s.heap m) (X : (K w.params).In h₀) (N : News h₀ L s.heap news) (T : Top p loose mean mg mb h₀) (hf : env.frame = some L) (hke : env.scope.kind = .function) (hd : dep < 505) (hu : un < 1500)
    (h : ∀ h' tk tb, Fr h₀ L h' m → News h₀ L h' news → R (.ok (.ret (.bytes #[] tb))) { s with heap := h', toks := tk }) :
    codeAny (model PySem.Challenge.rw_xw0352_01.prog w) ⟨hdl, dep, some (env :: outer), gd, un⟩ (.call (.ref 1090) ⟨[.ref x, .int 251 tn], []⟩) R s := by
  subst hh
  have hR := h
  clear h
  revert X; k_fill; intro X
  refine' code_def (binds := [("self", .ref x), ("next", .int 251 tn)]) ?k1 ?k2 ?k3 ?k4 ?k5 ?kA ?kF ?kK ?k6 ?k7 ?k8 ?k9 ?kB ?_ ?c2 ?c3 ?c4 ?c5
  case kA => exact rfl
  case kF => exact hf
  case kK => exact hke
  case k1 => exact B
  case k2 => exact F
  case k3 => exact X
  case k4 => exact N
  case k5 => exact T
  case k6 => k_is
  case k7 => k_is
  case k8 => exact Nat.lt_trans hd (by decide)
  case k9 => first | exact BindsTo.of_eq rfl | exact binds_K (by k_in) rfl (by k_is) rfl rfl rfl
  case c5 => decide
  case kB => exact locs rfl
  case c2 => exact rfl
  case c3 => exact rfl
  case c4 => exact rfl
  k_whole
  intro g' L' h' FG' F' N' B' X' T'
  clear F N B X T
  try dsimp only
  have N2 := news_cons (news_more2 N' hx hdx) N' hp
  clear N'
  change wpAny _ _ _ _ _ _
  k_fold
  k_steps
  refine leaveK_ (by k_asm) (by k_asm) ?_
  intro kF kN
  exact hR _ _ _ kF (fun z hz => kN z (by repeat' first | exact hz | apply List.Mem.tail))
theorem c_take_one {x dx pl tp : Addr} {a0 a1 t1 t0 tb tn : Tok} {n : Nat} {b : Array UInt8} {rest : List (Addr × Obj)} (hb : b.size ≤ 9) (hb0 : 1 ≤ b.size) (hr : ∀ q ∈ rest, q.1 ≠ pl) (hxp : @Ne Nat x pl) (hdp : @Ne Nat dx pl) (htp : @LT.lt Nat _ pl tp) (hh : hdl = none)
    (hn : news = (tp, ({ cls := .type "tuple", data := .seq #[.int 251 t0, .bytes b tb] } : Obj)) :: (pl, W.listOf #[.ref tp] n) :: (x, instObj 1107 dx) :: (dx, asmO w.params a0 a1 (.int 256 t1) (.ref pl)) :: rest)
    (B : Below A₀ base outer h₀) (F : Fr h₀ L s.heap m) (X : (K w.params).In h₀) (N : News h₀ L s.heap news) (T : Top p loose mean mg mb h₀) (hf : env.frame = some L) (hke : env.scope.kind = .function) (hd : dep < 505) (hu : un < 1500)
    (h : ∀ h' tk tb n, Fr h₀ L h' m → News h₀ L h' ((pl, W.listOf #[] n) :: (x, instObj 1107 dx) :: (dx, asmO w.params a0 a1 (.int 256 t1) (.ref pl)) :: rest) → R (.ok (.ret (.bytes b tb))) { s with heap := h', toks := tk }) :
    codeAny (model PySem.Challenge.rw_xw0352_01.prog w) ⟨hdl, dep, some (env :: outer), gd, un⟩ (.call (.ref 1090) ⟨[.ref x, .int 251 tn], []⟩) R s := by
  subst hh
  subst hn
  have hR := h
  clear h
  revert X; k_fill; intro X
  refine' code_def (binds := [("self", .ref x), ("next", .int 251 tn)]) ?k1 ?k2 ?k3 ?k4 ?k5 ?kA ?kF ?kK ?k6 ?k7 ?k8 ?k9 ?kB ?_ ?c2 ?c3 ?c4 ?c5
  case kA => exact rfl
  case kF => exact hf
  case kK => exact hke
  case k1 => exact B
  case k2 => exact F
  case k3 => exact X
  case k4 => exact N
  case k5 => exact T
  case k6 => k_is
  case k7 => k_is
  case k8 => exact Nat.lt_trans hd (by decide)
  case k9 => first | exact BindsTo.of_eq rfl | exact binds_K (by k_in) rfl (by k_is) rfl rfl rfl
  case c5 => decide
  case kB => exact locs rfl
  case c2 => exact rfl
  case c3 => exact rfl
  case c4 => exact rfl
  k_whole
  intro g' L' h' FG' F' N' B' X' T'
  clear F N B X T
  try dsimp only
  change wpAny _ _ _ _ _ _
  k_fold
  k_steps
  refine leaveK_ (by k_asm) (by k_asm) ?_
  intro kF kN
  exact hR _ _ _ _ kF (List.forall_mem_cons.mpr ⟨kN _ (by k_mem), List.forall_mem_cons.mpr ⟨kN _ (by k_mem), List.forall_mem_cons.mpr ⟨kN _ (by k_mem), fun z hz => kN z (by repeat' first | exact hz | apply List.Mem.tail)⟩⟩⟩)
end
end Mine.Internal
end TCTake
section TCCtor
open PySem PySem.W PyProof.Rows PySem.Calls
set_option Elab.async false
set_option maxRecDepth 100000
set_option maxHeartbeats 8000000
namespace Mine.Internal
section
variable {w : World} {A₀ : Around} {hdl : Option Value} {dep un : Nat} {gd : Option (List Code)} {E : Value → Shared → Prop} {s : Shared} {h₀ base : Heap} {L : Addr} {m mg mb : Str → Option Value} {news : List (Addr × Obj)} {p : Program} {loose : List Str} {mean : ExcName → Option Value}
  {env : Env} {outer : List Env} {R : Result → Shared → Prop}
theorem c_limits_init {x dx : Addr} {rest : List (Addr × Obj)} (hr : ∀ q ∈ rest, q.1 ≠ dx) (hxd : @Ne Nat x dx) {a0 a1 a2 a3 a4 a5 a6 a7 a8 a9 : Value}  (hn : news = (x, instObj 884 dx) :: (dx, dictOf [] 0) :: rest)
    (B : Below A₀ base outer h₀) (F : Fr h₀ L s.heap m) (X : (K w.params).In h₀) (N : News h₀ L s.heap news) (T : Top p loose mean mg mb h₀) (hf : env.frame = some L) (hke : env.scope.kind = .function) (hd : dep < 525) (hu : un < 1700)
    (h : ∀ h' tk u0 u1 u2 u3 u4 u5 u6 u7 u8 u9 , Fr h₀ L h' m → News h₀ L h' ((x, instObj 884 dx) :: (dx, limO w.params u0 u1 u2 u3 u4 u5 u6 u7 u8 u9 a0 a1 a2 a3 a4 a5 a6 a7 a8 a9) :: rest) → R (.ok (.ret .none)) { s with heap := h', toks := tk }) :
    codeAny (model PySem.Challenge.rw_xw0352_01.prog w) ⟨hdl, dep, some (env :: outer), gd, un⟩ (.call (.ref 881) ⟨[.ref x, a0, a1, a2, a3, a4, a5, a6, a7, a8, a9], []⟩) R s := by
  skip
  subst hn
  revert X; k_fill; intro X
  refine' code_def (binds := [("self", .ref x), ("ring", a0), ("mss", a1), ("send_room", a2), ("receive_room", a3), ("first_timeout", a4), ("least_timeout", a5), ("most_timeout", a6), ("most_tries", a7), ("ack_delay", a8), ("time_wait", a9)]) ?k1 ?k2 ?k3 ?k4 ?k5 ?kA ?kF ?kK ?k6 ?k7 ?k8 ?k9 ?kB ?_ ?c2 ?c3 ?c4 ?c5
  case kA => exact rfl
  case kF => exact hf
  case kK => exact hke
  case k1 => exact B
  case k2 => exact F
  case k3 => exact X
  case k4 => exact N
  case k5 => exact T
  case k6 => k_is
  case k7 => k_is
  case k8 => exact Nat.lt_trans hd (by decide)
  case k9 => first | exact BindsTo.of_eq rfl | exact binds_K (by k_in) rfl (by k_is) rfl rfl rfl
  case c5 => decide
  case kB => exact locs rfl
  case c2 => exact rfl
  case c3 => exact rfl
  case c4 => exact rfl
  k_whole
  intro g' L' h' FG' F' N' B' X' T'
  clear F N B X T
  try dsimp only
  change wpAny _ _ _ _ _ _
  k_fold
  k_steps
  exact leaveK_ (by k_asm) (by k_asm) fun kF kN => h _ _ _ _ _ _ _ _ _ _ _ _ kF kN
theorem c_limits_new {a0 a1 a2 a3 a4 a5 a6 a7 a8 a9 : Value} 
    (B : Below A₀ base outer h₀) (F : Fr h₀ L s.heap m) (X : (K w.params).In h₀) (N : News h₀ L s.heap news) (T : Top p loose mean mg mb h₀) (hf : env.frame = some L) (hke : env.scope.kind = .function) (hd : dep < 505) (hu : un < 1500)
    (h : ∀ x dx h' tk u0 u1 u2 u3 u4 u5 u6 u7 u8 u9 , Fr h₀ L h' m → (∀ q ∈ news, q.1 < dx) → dx < x → News h₀ L h' ((x, instObj 884 dx) :: (dx, limO w.params u0 u1 u2 u3 u4 u5 u6 u7 u8 u9 a0 a1 a2 a3 a4 a5 a6 a7 a8 a9) :: news) → R (.ok (.ret (.ref x))) { s with heap := h', toks := tk }) :
    codeAny (model PySem.Challenge.rw_xw0352_01.prog w) ⟨hdl, dep, some (env :: outer), gd, un⟩ (.call (.ref 884) ⟨[a0, a1, a2, a3, a4, a5, a6, a7, a8, a9], []⟩) R s := by
  revert X; k_fill; intro X
  refine make_K F N (X.keeps F.keep) (by k_is) (by k_is) (by k_is) (fun x dx h' F' N' l1 l2 => ?_)
  refine c_limits_init (A₀ := A₀) (base := base) (mg := mg) (mb := mb) (p := p) (loose := loose) (mean := mean) (fun q hq => Nat.ne_of_lt (l1 q hq)) (Nat.ne_of_gt l2)  rfl B F' X N' T hf hke (show dep + 1 < 525 from lin (k := 1) hd (by decide)) (show un + 1 < 1700 from lin (k := 1) hu (by decide)) ?_
  intro h2 tk2 u0 u1 u2 u3 u4 u5 u6 u7 u8 u9  F2 N2
  exact ⟨rfl, h x dx h2 tk2 u0 u1 u2 u3 u4 u5 u6 u7 u8 u9  F2 l1 l2 N2⟩
theorem c_peer_init {x dx : Addr} {rest : List (Addr × Obj)} (hr : ∀ q ∈ rest, q.1 ≠ dx) (hxd : @Ne Nat x dx) {a0 : Value}  (hn : news = (x, instObj 499 dx) :: (dx, dictOf [] 0) :: rest)
    (B : Below A₀ base outer h₀) (F : Fr h₀ L s.heap m) (X : (K w.params).In h₀) (N : News h₀ L s.heap news) (T : Top p loose mean mg mb h₀) (hf : env.frame = some L) (hke : env.scope.kind = .function) (hd : dep < 525) (hu : un < 1700)
    (h : ∀ h' tk u0 u1 u2 u3 u4 v_size v_most v_told_seq v_told_ack, Fr h₀ L h' m → News h₀ L h' ((x, instObj 499 dx) :: (dx, dictOf [dE w.params "ring" u0 (a0), dE w.params "size" u1 (v_size), dE w.params "most" u2 (v_most), dE w.params "told_seq" u3 (v_told_seq), dE w.params "told_ack" u4 (v_told_ack)] 5) :: rest) → R (.ok (.ret .none)) { s with heap := h', toks := tk }) :
    codeAny (model PySem.Challenge.rw_xw0352_01.prog w) ⟨hdl, dep, some (env :: outer), gd, un⟩ (.call (.ref 475) ⟨[.ref x, a0], []⟩) R s := by
  skip
  subst hn
  revert X; k_fill; intro X
  refine' code_def (binds := [("self", .ref x), ("ring", a0)]) ?k1 ?k2 ?k3 ?k4 ?k5 ?kA ?kF ?kK ?k6 ?k7 ?k8 ?k9 ?kB ?_ ?c2 ?c3 ?c4 ?c5
  case kA => exact rfl
  case kF => exact hf
  case kK => exact hke
  case k1 => exact B
  case k2 => exact F
  case k3 => exact X
  case k4 => exact N
  case k5 => exact T
  case k6 => k_is
  case k7 => k_is
  case k8 => exact Nat.lt_trans hd (by decide)
  case k9 => first | exact BindsTo.of_eq rfl | exact binds_K (by k_in) rfl (by k_is) rfl rfl rfl
  case c5 => decide
  case kB => exact locs rfl
  case c2 => exact rfl
  case c3 => exact rfl
  case c4 => exact rfl
  k_whole
  intro g' L' h' FG' F' N' B' X' T'
  clear F N B X T
  try dsimp only
  change wpAny _ _ _ _ _ _
  k_fold
  k_steps
  exact leaveK_ (by k_asm) (by k_asm) fun kF kN => h _ _ _ _ _ _ _ _ _ _ _ kF kN
theorem c_peer_new {a0 : Value} 
    (B : Below A₀ base outer h₀) (F : Fr h₀ L s.heap m) (X : (K w.params).In h₀) (N : News h₀ L s.heap news) (T : Top p loose mean mg mb h₀) (hf : env.frame = some L) (hke : env.scope.kind = .function) (hd : dep < 505) (hu : un < 1500)
    (h : ∀ x dx h' tk u0 u1 u2 u3 u4 v_size v_most v_told_seq v_told_ack, Fr h₀ L h' m → (∀ q ∈ news, q.1 < dx) → dx < x → News h₀ L h' ((x, instObj 499 dx) :: (dx, dictOf [dE w.params "ring" u0 (a0), dE w.params "size" u1 (v_size), dE w.params "most" u2 (v_most), dE w.params "told_seq" u3 (v_told_seq), dE w.params "told_ack" u4 (v_told_ack)] 5) :: news) → R (.ok (.ret (.ref x))) { s with heap := h', toks := tk }) :
    codeAny (model PySem.Challenge.rw_xw0352_01.prog w) ⟨hdl, dep, some (env :: outer), gd, un⟩ (.call (.ref 499) ⟨[a0], []⟩) R s := by
  revert X; k_fill; intro X
  refine make_K F N (X.keeps F.keep) (by k_is) (by k_is) (by k_is) (fun x dx h' F' N' l1 l2 => ?_)
  refine c_peer_init (A₀ := A₀) (base := base) (mg := mg) (mb := mb) (p := p) (loose := loose) (mean := mean) (fun q hq => Nat.ne_of_lt (l1 q hq)) (Nat.ne_of_gt l2)  rfl B F' X N' T hf hke (show dep + 1 < 525 from lin (k := 1) hd (by decide)) (show un + 1 < 1700 from lin (k := 1) hu (by decide)) ?_
  intro h2 tk2 u0 u1 u2 u3 u4 v_size v_most v_told_seq v_told_ack F2 N2
  exact ⟨rfl, h x dx h2 tk2 u0 u1 u2 u3 u4 v_size v_most v_told_seq v_told_ack F2 l1 l2 N2⟩
theorem c_queue_init {x dx : Addr} {rest : List (Addr × Obj)} (hr : ∀ q ∈ rest, q.1 ≠ dx) (hxd : @Ne Nat x dx) {r : Int} {tr : Tok} (hrm : 1 ≤ r) (hn : news = (x, instObj 457 dx) :: (dx, dictOf [] 0) :: rest)
    (B : Below A₀ base outer h₀) (F : Fr h₀ L s.heap m) (X : (K w.params).In h₀) (N : News h₀ L s.heap news) (T : Top p loose mean mg mb h₀) (hf : env.frame = some L) (hke : env.scope.kind = .function) (hd : dep < 525) (hu : un < 1700)
    (h : ∀ h' tk u0 u1  th, Fr h₀ L h' m → News h₀ L h' ((x, instObj 457 dx) :: (dx, dictOf [dE w.params "room" u0 (.int r tr), dE w.params "held" u1 (.bytes #[] th)] 2) :: rest) → R (.ok (.ret .none)) { s with heap := h', toks := tk }) :
    codeAny (model PySem.Challenge.rw_xw0352_01.prog w) ⟨hdl, dep, some (env :: outer), gd, un⟩ (.call (.ref 419) ⟨[.ref x, .int r tr], []⟩) R s := by
  skip
  subst hn
  revert X; k_fill; intro X
  refine' code_def (binds := [("self", .ref x), ("room", .int r tr)]) ?k1 ?k2 ?k3 ?k4 ?k5 ?kA ?kF ?kK ?k6 ?k7 ?k8 ?k9 ?kB ?_ ?c2 ?c3 ?c4 ?c5
  case kA => exact rfl
  case kF => exact hf
  case kK => exact hke
  case k1 => exact B
  case k2 => exact F
  case k3 => exact X
  case k4 => exact N
  case k5 => exact T
  case k6 => k_is
  case k7 => k_is
  case k8 => exact Nat.lt_trans hd (by decide)
  case k9 => first | exact BindsTo.of_eq rfl | exact binds_K (by k_in) rfl (by k_is) rfl rfl rfl
  case c5 => decide
  case kB => exact locs rfl
  case c2 => exact rfl
  case c3 => exact rfl
  case c4 => exact rfl
  k_whole
  intro g' L' h' FG' F' N' B' X' T'
  clear F N B X T
  try dsimp only
  change wpAny _ _ _ _ _ _
  k_fold
  k_steps
  exact leaveK_ (by k_asm) (by k_asm) fun kF kN => h _ _ _ _ _ kF kN
theorem c_queue_new {r : Int} {tr : Tok} (hrm : 1 ≤ r)
    (B : Below A₀ base outer h₀) (F : Fr h₀ L s.heap m) (X : (K w.params).In h₀) (N : News h₀ L s.heap news) (T : Top p loose mean mg mb h₀) (hf : env.frame = some L) (hke : env.scope.kind = .function) (hd : dep < 505) (hu : un < 1500)
    (h : ∀ x dx h' tk u0 u1  th, Fr h₀ L h' m → (∀ q ∈ news, q.1 < dx) → dx < x → News h₀ L h' ((x, instObj 457 dx) :: (dx, dictOf [dE w.params "room" u0 (.int r tr), dE w.params "held" u1 (.bytes #[] th)] 2) :: news) → R (.ok (.ret (.ref x))) { s with heap := h', toks := tk }) :
    codeAny (model PySem.Challenge.rw_xw0352_01.prog w) ⟨hdl, dep, some (env :: outer), gd, un⟩ (.call (.ref 457) ⟨[.int r tr], []⟩) R s := by
  revert X; k_fill; intro X
  refine make_K F N (X.keeps F.keep) (by k_is) (by k_is) (by k_is) (fun x dx h' F' N' l1 l2 => ?_)
  refine c_queue_init (A₀ := A₀) (base := base) (mg := mg) (mb := mb) (p := p) (loose := loose) (mean := mean) (fun q hq => Nat.ne_of_lt (l1 q hq)) (Nat.ne_of_gt l2) hrm rfl B F' X N' T hf hke (show dep + 1 < 525 from lin (k := 1) hd (by decide)) (show un + 1 < 1700 from lin (k := 1) hu (by decide)) ?_
  intro h2 tk2 u0 u1  th F2 N2
  exact ⟨rfl, h x dx h2 tk2 u0 u1  th F2 l1 l2 N2⟩
end
end Mine.Internal
end TCCtor
section TCRecv
open PySem PySem.W PyProof.Rows PySem.Calls
set_option Elab.async false
set_option maxRecDepth 100000
set_option maxHeartbeats 8000000
namespace Mine.Internal
section
variable {w : World} {A₀ : Around} {hdl : Option Value} {dep un : Nat} {gd : Option (List Code)} {E : Value → Shared → Prop} {s : Shared} {h₀ base : Heap} {L : Addr} {m mg mb : Str → Option Value} {news : List (Addr × Obj)} {p : Program} {loose : List Str} {mean : ExcName → Option Value}
  {env : Env} {outer : List Env} {R : Result → Shared → Prop}
theorem c_recv_init {x dx : Addr} {rest : List (Addr × Obj)} {t0 t1 t2 t3 : Tok} (hr : ∀ q ∈ rest, q.1 ≠ dx) (hxd : @Ne Nat x dx) (hn : news = (x, instObj 1241 dx) :: (dx, dictOf [] 0) :: rest)
    (B : Below A₀ base outer h₀) (F : Fr h₀ L s.heap m) (X : (K w.params).In h₀) (N : News h₀ L s.heap news) (T : Top p loose mean mg mb h₀) (hf : env.frame = some L) (hke : env.scope.kind = .function) (hd : dep < 485) (hu : un < 1400)
    (h : ∀ h' tk pl am da ba a0 a1 u0 u1 u2 u3 u4 u5 u6 u7 u8 u9 tn tt, Fr h₀ L h' m → x < ba → dx < ba → (∀ p ∈ rest, p.1 < ba) → ba < da → da < am → am < pl → News h₀ L h' ((pl, W.listOf #[] 0) :: (am, instObj 1107 da) :: (da, asmO w.params a0 a1 (.int 256 t1) (.ref pl)) :: (ba, baObj #[]) :: (x, instObj 1241 dx) :: (dx, recO w.params u0 u1 u2 u3 u4 u5 u6 u7 u8 u9 (.int 256 t1) (.int 16 t2) (.int 4 t3) (.int 251 tn) (.ref ba) (.ref am) (.int 11 tt) (.none) (.bool false) (.none)) :: rest) → R (.ok (.ret .none)) { s with heap := h', toks := tk }) :
    codeS (model PySem.Challenge.rw_xw0352_01.prog w) ⟨hdl, dep, some (env :: outer), gd, un⟩ (.call (.ref 1126) ⟨[.ref x, .int 250 t0, .int 256 t1, .int 16 t2, .int 4 t3], []⟩) R s := by
  subst hn
  revert X; k_fill; intro X
  refine' codeS_def (binds := [("self", .ref x), ("irs", .int 250 t0), ("ring", .int 256 t1), ("room", .int 16 t2), ("mss", .int 4 t3)]) ?k1 ?k2 ?k3 ?k4 ?k5 ?kA ?kF ?kK ?k6 ?k7 ?k8 ?k9 ?kB ?_ ?c2 ?c3 ?c4 ?c5
  case kA => exact rfl
  case kF => exact hf
  case kK => exact hke
  case k1 => exact B
  case k2 => exact F
  case k3 => exact X
  case k4 => exact N
  case k5 => exact T
  case k6 => k_is
  case k7 => k_is
  case k8 => exact Nat.lt_trans hd (by decide)
  case k9 => first | exact BindsTo.of_eq rfl | exact binds_K (by k_in) rfl (by k_is) rfl rfl rfl
  case c5 => decide
  case kB => exact locs rfl
  case c2 => exact rfl
  case c3 => exact rfl
  case c4 => exact rfl
  k_whole
  intro g' L' h' FG' F' N' B' X' T'
  clear F N B X T
  try dsimp only
  refine wpS_execs_any ?_
  k_fold
  k_steps
  refine wpS_execs_any ?_
  k_fold
  k_steps
  refine wpS_execs_any ?_
  k_fold
  k_steps
  refine wpS_execs_any ?_
  k_fold
  k_steps
  refine wpS_execs_cons (wpS_Assign_Attribute ?_)
  refine evalS_Call_Name rfl ?_
  k_fold
  k_steps
  refine callWithS_B0 rfl ?_
  dsimp only [List.nil_append]
  rename News _ _ _ _ => N9
  rename Fr _ _ _ _ => F9
  refine callS_ba_new F9 N9 ?_
  intro ba h9 F10 N10 l1
  clear F9 N9
  have e1 : @LT.lt Nat _ x ba := l1 _ (.head _)
  have e2 : @LT.lt Nat _ dx ba := l1 _ (.tail _ (.head _))
  change wpAny _ _ _ _ _ _
  k_fold
  k_steps
  refine wpS_any ?_
  k_fold
  k_steps
  rename _ ∧ _ => lP
  revert lP
  rename _ ∧ _ => lD
  intro lP
  refine leaveK_ (by k_asm) (by k_asm) ?_
  intro kF kN
  exact h _ _ _ _ _ _ _ _ _ _ _ _ _ _ _ _ _ _ _ _ kF e1 e2 (fun p hp => l1 p (.tail _ (.tail _ hp))) lD.1 (by assumption) lP.1 kN
theorem c_recv_new {t0 t1 t2 t3 : Tok}
    (B : Below A₀ base outer h₀) (F : Fr h₀ L s.heap m) (X : (K w.params).In h₀) (N : News h₀ L s.heap news) (T : Top p loose mean mg mb h₀) (hf : env.frame = some L) (hke : env.scope.kind = .function) (hd : dep < 465) (hu : un < 1200)
    (h : ∀ x dx h' tk pl am da ba a0 a1 u0 u1 u2 u3 u4 u5 u6 u7 u8 u9 tn tt, Fr h₀ L h' m → (∀ p ∈ news, p.1 < dx) → dx < x → x < ba → ba < da → da < am → am < pl → News h₀ L h' ((pl, W.listOf #[] 0) :: (am, instObj 1107 da) :: (da, asmO w.params a0 a1 (.int 256 t1) (.ref pl)) :: (ba, baObj #[]) :: (x, instObj 1241 dx) :: (dx, recO w.params u0 u1 u2 u3 u4 u5 u6 u7 u8 u9 (.int 256 t1) (.int 16 t2) (.int 4 t3) (.int 251 tn) (.ref ba) (.ref am) (.int 11 tt) (.none) (.bool false) (.none)) :: news) → R (.ok (.ret (.ref x))) { s with heap := h', toks := tk }) :
    codeS (model PySem.Challenge.rw_xw0352_01.prog w) ⟨hdl, dep, some (env :: outer), gd, un⟩ (.call (.ref 1241) ⟨[.int 250 t0, .int 256 t1, .int 16 t2, .int 4 t3], []⟩) R s := by
  revert X; k_fill; intro X
  refine makeS_K F N (X.keeps F.keep) (by k_is) (by k_is) (by k_is) (fun x dx h' F' N' l1 l2 => ?_)
  refine c_recv_init (A₀ := A₀) (base := base) (mg := mg) (mb := mb) (p := p) (loose := loose) (mean := mean) (fun q hq => Nat.ne_of_lt (l1 q hq)) (Nat.ne_of_gt l2) rfl B F' X N' T hf hke (show dep + 1 < 485 from lin (k := 1) hd (by decide)) (show un + 1 < 1400 from lin (k := 1) hu (by decide)) ?_
  intro h2 tk2 pl am da ba a0 a1 u0 u1 u2 u3 u4 u5 u6 u7 u8 u9 tn tt F2 q1 q2 q3 q4 q5 q6 N2
  exact ⟨rfl, h x dx h2 tk2 pl am da ba a0 a1 u0 u1 u2 u3 u4 u5 u6 u7 u8 u9 tn tt F2 l1 l2 q1 q4 q5 q6 N2⟩
end
end Mine.Internal
end TCRecv
section TCGath
open PySem PySem.W PyProof.Rows PySem.Calls
set_option Elab.async false
set_option maxRecDepth 100000
set_option maxHeartbeats 8000000
namespace Mine.Internal
section
variable {w : World} {A₀ : Around} {hdl : Option Value} {dep un : Nat} {gd : Option (List Code)} {E : Value → Shared → Prop} {s : Shared} {h₀ base : Heap} {L : Addr} {m mg mb : Str → Option Value} {news : List (Addr × Obj)} {p : Program} {loose : List Str} {mean : ExcName → Option Value}
  {env : Env} {outer : List Env} {R : Result → Shared → Prop}
theorem c_gather_nil {x dx pl am da ba : Addr} {a0 a1 t1 tn : Tok} {u0 u1 u2 u3 u4 u5 u6 u7 u8 u9 : Tok} {v_room v_mss v_told_edge v_urgent_at : Value} {rest : List (Addr × Obj)} (hba1 : @Ne Nat pl ba) (hba2 : @Ne Nat am ba) (hba3 : @Ne Nat da ba) (hba4 : @Ne Nat x ba) (hba5 : @Ne Nat dx ba) (hrb : ∀ q ∈ rest, q.1 ≠ ba) (hd1 : @Ne Nat pl dx) (hd2 : @Ne Nat am dx) (hd3 : @Ne Nat da dx) (hd4 : @Ne Nat x dx) (hrd : ∀ q ∈ rest, q.1 ≠ dx) (hh : hdl = none)
    (hn : news = (pl, W.listOf #[] 0) :: (am, instObj 1107 da) :: (da, asmO w.params a0 a1 (.int 256 t1) (.ref pl)) :: (ba, baObj #[]) :: (x, instObj 1241 dx) :: (dx, recO w.params u0 u1 u2 u3 u4 u5 u6 u7 u8 u9 (.int 256 t1) v_room v_mss (.int 251 tn) (.ref ba) (.ref am) v_told_edge (.none) (.bool false) v_urgent_at) :: rest)
    (B : Below A₀ base outer h₀) (F : Fr h₀ L s.heap m) (X : (K w.params).In h₀) (N : News h₀ L s.heap news) (T : Top p loose mean mg mb h₀) (hf : env.frame = some L) (hke : env.scope.kind = .function) (hd : dep < 465) (hu : un < 1200)
    (h : ∀ h' tk nx tr, Fr h₀ L h' m → News h₀ L h' ((ba, baObj #[]) :: (x, instObj 1241 dx) :: (dx, recO w.params u0 u1 u2 u3 u4 u5 u6 u7 u8 u9 (.int 256 t1) v_room v_mss nx (.ref ba) (.ref am) v_told_edge (.none) (.bool false) v_urgent_at) :: rest) → R (.ok (.ret (.int 0 tr))) { s with heap := h', toks := tk }) :
    codeS (model PySem.Challenge.rw_xw0352_01.prog w) ⟨hdl, dep, some (env :: outer), gd, un⟩ (.call (.ref 1189) ⟨[.ref x], []⟩) R s := by
  subst hh
  subst hn
  have hR := h
  clear h
  revert X; k_fill; intro X
  refine' codeS_def (binds := [("self", .ref x)]) ?k1 ?k2 ?k3 ?k4 ?k5 ?kA ?kF ?kK ?k6 ?k7 ?k8 ?k9 ?kB ?_ ?c2 ?c3 ?c4 ?c5
  case kA => exact rfl
  case kF => exact hf
  case kK => exact hke
  case k1 => exact B
  case k2 => exact F
  case k3 => exact X
  case k4 => exact N
  case k5 => exact T
  case k6 => k_is
  case k7 => k_is
  case k8 => exact Nat.lt_trans hd (by decide)
  case k9 => first | exact BindsTo.of_eq rfl | exact binds_K (by k_in) rfl (by k_is) rfl rfl rfl
  case c5 => decide
  case kB => exact locs rfl
  case c2 => exact rfl
  case c3 => exact rfl
  case c4 => exact rfl
  k_whole
  intro g' L' h' FG' F' N' B' X' T'
  clear F N B X T
  try dsimp only
  refine wpS_execs_any ?_
  k_fold
  k_steps
  refine wpS_execs_any ?_
  k_fold
  k_steps
  refine Stop.mk ?_
  rename News _ _ _ _ => N9
  rename Fr _ _ _ _ => F9
  refine' wpAny_call (c_take_nil (pl := pl) ?hp ?hx ?hdx rfl (hd := ?hd) (hu := ?hu) B' F9 X' N9 T' rfl rfl ?_)
  case hd => show dep + 1 < 505; exact lin (k := 1) hd (by decide)
  case hu => show un + 3 < 1500; exact lin (k := 3) hu (by decide)
  case hp => k_mem
  case hx => k_mem
  case hdx => k_mem
  intro h9 tk9 tb2 F10 N10
  clear F9 N9
  dsimp only
  k_steps
  refine wpS_execs_cons (wpS_Expr ?_)
  refine evalS_Call_Attr rfl rfl rfl ?_
  change wpAny _ _ (eval _ _) _ _ _
  k_fold
  k_steps
  rename News _ _ _ _ => N9
  refine' method_ba_extend (b := #[]) ?ho ?_
  case ho => exact (N9 (ba, _) (by k_mem)).1
  dsimp only
  refine callWithS_B rfl ?_
  k_fold
  k_steps
  dsimp only [List.cons_append, List.nil_append]
  rename Fr _ _ _ _ => F9
  refine callS_ba_extend (b := #[]) (x := #[]) F9 N9 (by k_upd) (by simp ) ?_
  intro h8 F11 N11
  rw [show #[] ++ (#[] : Array UInt8) = #[] from by simp] at N11
  clear F9 N9
  refine wpAny_dropValue ?_
  dsimp only
  refine wpS_any ?_
  k_fold
  k_steps
  refine leaveK_ (by k_asm) (by k_asm) ?_
  intro kF kN
  refine' hR _ _ _ _ kF (List.forall_mem_cons.mpr ⟨kN _ (by k_mem), List.forall_mem_cons.mpr ⟨kN _ (by k_mem), List.forall_mem_cons.mpr ⟨kN _ (by k_mem), fun z hz => kN z (by repeat' first | exact hz | apply List.Mem.tail)⟩⟩⟩)
theorem c_gather_one {x dx pl am da ba : Addr} {a0 a1 t1 tn : Tok} {u0 u1 u2 u3 u4 u5 u6 u7 u8 u9 : Tok} {v_room v_mss v_told_edge v_urgent_at : Value} {rest : List (Addr × Obj)} {tp : Addr} {t0 tb : Tok} {n : Nat} {b : Array UInt8} (hb : b.size ≤ 9) (hb0 : 1 ≤ b.size) (htp : @LT.lt Nat _ pl tp) (hxp : @Ne Nat x pl) (hdp : @Ne Nat dx pl) (hap : @Ne Nat am pl) (hdap : @Ne Nat da pl) (hbp : @Ne Nat ba pl) (hrp : ∀ q ∈ rest, q.1 ≠ pl) (hba1 : @Ne Nat pl ba) (hba2 : @Ne Nat am ba) (hba3 : @Ne Nat da ba) (hba4 : @Ne Nat x ba) (hba5 : @Ne Nat dx ba) (hrb : ∀ q ∈ rest, q.1 ≠ ba) (hd1 : @Ne Nat pl dx) (hd2 : @Ne Nat am dx) (hd3 : @Ne Nat da dx) (hd4 : @Ne Nat x dx) (hrd : ∀ q ∈ rest, q.1 ≠ dx) (htb : @Ne Nat tp ba) (htd : @Ne Nat tp dx) (hh : hdl = none)
    (hn : news = (tp, ({ cls := .type "tuple", data := .seq #[.int 251 t0, .bytes b tb] } : Obj)) :: (pl, W.listOf #[.ref tp] n) :: (am, instObj 1107 da) :: (da, asmO w.params a0 a1 (.int 256 t1) (.ref pl)) :: (ba, baObj #[]) :: (x, instObj 1241 dx) :: (dx, recO w.params u0 u1 u2 u3 u4 u5 u6 u7 u8 u9 (.int 256 t1) v_room v_mss (.int 251 tn) (.ref ba) (.ref am) v_told_edge (.none) (.bool false) v_urgent_at) :: rest)
    (B : Below A₀ base outer h₀) (F : Fr h₀ L s.heap m) (X : (K w.params).In h₀) (N : News h₀ L s.heap news) (T : Top p loose mean mg mb h₀) (hf : env.frame = some L) (hke : env.scope.kind = .function) (hd : dep < 465) (hu : un < 1200)
    (h : ∀ h' tk nx tr, Fr h₀ L h' m → News h₀ L h' ((ba, baObj b) :: (x, instObj 1241 dx) :: (dx, recO w.params u0 u1 u2 u3 u4 u5 u6 u7 u8 u9 (.int 256 t1) v_room v_mss nx (.ref ba) (.ref am) v_told_edge (.none) (.bool false) v_urgent_at) :: rest) → R (.ok (.ret (.int b.size tr))) { s with heap := h', toks := tk }) :
    codeS (model PySem.Challenge.rw_xw0352_01.prog w) ⟨hdl, dep, some (env :: outer), gd, un⟩ (.call (.ref 1189) ⟨[.ref x], []⟩) R s := by
  subst hh
  subst hn
  have hR := h
  clear h
  revert X; k_fill; intro X
  refine' codeS_def (binds := [("self", .ref x)]) ?k1 ?k2 ?k3 ?k4 ?k5 ?kA ?kF ?kK ?k6 ?k7 ?k8 ?k9 ?kB ?_ ?c2 ?c3 ?c4 ?c5
  case kA => exact rfl
  case kF => exact hf
  case kK => exact hke
  case k1 => exact B
  case k2 => exact F
  case k3 => exact X
  case k4 => exact N
  case k5 => exact T
  case k6 => k_is
  case k7 => k_is
  case k8 => exact Nat.lt_trans hd (by decide)
  case k9 => first | exact BindsTo.of_eq rfl | exact binds_K (by k_in) rfl (by k_is) rfl rfl rfl
  case c5 => decide
  case kB => exact locs rfl
  case c2 => exact rfl
  case c3 => exact rfl
  case c4 => exact rfl
  k_whole
  intro g' L' h' FG' F' N' B' X' T'
  clear F N B X T
  try dsimp only
  refine wpS_execs_any ?_
  k_fold
  k_steps
  refine wpS_execs_any ?_
  k_fold
  k_steps
  refine Stop.mk ?_
  rename News _ _ _ _ => N9
  rename Fr _ _ _ _ => F9
  refine' wpAny_call (c_take_one (pl := pl) hb hb0 ?hr hap hdap htp rfl rfl (hd := ?hd) (hu := ?hu) B' F9 X' N9 T' rfl rfl ?_)
  case hd => show dep + 1 < 505; exact lin (k := 1) hd (by decide)
  case hu => show un + 3 < 1500; exact lin (k := 3) hu (by decide)
  case hr => exact List.forall_mem_cons.mpr ⟨hbp, List.forall_mem_cons.mpr ⟨hxp, List.forall_mem_cons.mpr ⟨hdp, hrp⟩⟩⟩
  intro h9 tk9 tb2 n2 F10 N10
  clear F9 N9
  dsimp only
  k_steps
  refine wpS_execs_cons (wpS_Expr ?_)
  refine evalS_Call_Attr rfl rfl rfl ?_
  change wpAny _ _ (eval _ _) _ _ _
  k_fold
  k_steps
  rename News _ _ _ _ => N9
  refine' method_ba_extend (b := #[]) ?ho ?_
  case ho => exact (N9 (ba, _) (by k_mem)).1
  dsimp only
  refine callWithS_B rfl ?_
  k_fold
  k_steps
  dsimp only [List.cons_append, List.nil_append]
  rename Fr _ _ _ _ => F9
  refine callS_ba_extend (b := #[]) (x := b) F9 N9 (by k_upd) (by simp ; omega) ?_
  intro h8 F11 N11
  rw [show #[] ++ b = b from by simp] at N11
  clear F9 N9
  refine wpAny_dropValue ?_
  dsimp only
  refine wpS_any ?_
  k_fold
  k_steps
  refine leaveK_ (by k_asm) (by k_asm) ?_
  intro kF kN
  refine' hR _ _ _ _ kF (List.forall_mem_cons.mpr ⟨kN _ (by k_mem), List.forall_mem_cons.mpr ⟨kN _ (by k_mem), List.forall_mem_cons.mpr ⟨kN _ (by k_mem), fun z hz => kN z (by repeat' first | exact hz | apply List.Mem.tail)⟩⟩⟩)
end
end Mine.Internal
end TCGath
section TCLetIn
open PySem PySem.W PyProof.Rows PySem.Calls
set_option Elab.async false
set_option maxRecDepth 100000
set_option maxHeartbeats 8000000
namespace Mine.Internal
section
variable {w : World} {A₀ : Around} {hdl : Option Value} {dep un : Nat} {gd : Option (List Code)} {E : Value → Shared → Prop} {s : Shared} {h₀ base : Heap} {L : Addr} {m mg mb : Str → Option Value} {news : List (Addr × Obj)} {p : Program} {loose : List Str} {mean : ExcName → Option Value}
  {env : Env} {outer : List Env} {R : Result → Shared → Prop}
theorem c_let_in {x dx : Addr} {u0 u1 u2 u3 u4 u5 u6 u7 u8 u9 : Tok} {v_room v_mss v_next v_ready v_assembly v_fin_at v_has_fin v_urgent_at : Value} {t1 tt ts tb : Tok} {b : Array UInt8} (hb : b.size ≤ 9) (hx : (x, instObj 1241 dx) ∈ news) (hdx : (dx, recO w.params u0 u1 u2 u3 u4 u5 u6 u7 u8 u9 (.int 256 t1) v_room v_mss v_next v_ready v_assembly (.int 11 tt) v_fin_at v_has_fin v_urgent_at) ∈ news)
    (B : Below A₀ base outer h₀) (F : Fr h₀ L s.heap m) (X : (K w.params).In h₀) (N : News h₀ L s.heap news) (T : Top p loose mean mg mb h₀) (hf : env.frame = some L) (hke : env.scope.kind = .function) (hd : dep < 465) (hu : un < 1200)
    (h : ∀ h' tk tb', Fr h₀ L h' m → News h₀ L h' news → R (.ok (.ret (.bytes b tb'))) { s with heap := h', toks := tk }) :
    codeAny (model PySem.Challenge.rw_xw0352_01.prog w) ⟨hdl, dep, some (env :: outer), gd, un⟩ (.call (.ref 1168) ⟨[.ref x, .int 251 ts, .bytes b tb], []⟩) R s := by
  have hR := h
  clear h
  revert X; k_fill; intro X
  refine' code_def (binds := [("self", .ref x), ("seq", .int 251 ts), ("octets", .bytes b tb)]) ?k1 ?k2 ?k3 ?k4 ?k5 ?kA ?kF ?kK ?k6 ?k7 ?k8 ?k9 ?kB ?_ ?c2 ?c3 ?c4 ?c5
  case kA => exact rfl
  case kF => exact hf
  case kK => exact hke
  case k1 => exact B
  case k2 => exact F
  case k3 => exact X
  case k4 => exact N
  case k5 => exact T
  case k6 => k_is
  case k7 => k_is
  case k8 => exact Nat.lt_trans hd (by decide)
  case k9 => first | exact BindsTo.of_eq rfl | exact binds_K (by k_in) rfl (by k_is) rfl rfl rfl
  case c5 => decide
  case kB => exact locs rfl
  case c2 => exact rfl
  case c3 => exact rfl
  case c4 => exact rfl
  k_whole
  intro g' L' h' FG' F' N' B' X' T'
  clear F N B X T
  try dsimp only
  have N2 := news_more2 N' hx hdx
  clear N'
  change wpAny _ _ _ _ _ _
  k_fold
  k_steps
  rename News _ _ _ _ => N9
  rename Fr _ _ _ _ => F9
  refine KBc.slice_K (s := ⟨_, _, _, _, _⟩) F9 N9 rfl (by constructor) (by constructor) (by rw [KBw.ints_length]; omega) ?_
  intro h9 t9 k9 F10 N10 _
  rw [picked_all (show (b.size : Int) ≤ _ by (first | omega | (simp; omega)))]
  clear F9 N9
  k_steps
  refine call_bytes_bytes fun t' k => ?_
  k_steps
  exact leaveK_ (by k_asm) (by k_asm) fun kF kN => hR _ _ _ kF (fun p hp => kN p (by repeat' first | exact hp | apply List.Mem.tail))
end
end Mine.Internal
end TCLetIn
section TCMiss
open PySem PySem.W PyProof.Rows PySem.Calls
set_option Elab.async false
set_option maxRecDepth 100000
set_option maxHeartbeats 8000000
namespace Mine.Internal
section
variable {w : World} {A₀ : Around} {hdl : Option Value} {dep un : Nat} {gd : Option (List Code)} {E : Value → Shared → Prop} {s : Shared} {h₀ base : Heap} {L : Addr} {m mg mb : Str → Option Value} {news : List (Addr × Obj)} {p : Program} {loose : List Str} {mean : ExcName → Option Value}
  {env : Env} {outer : List Env} {R : Result → Shared → Prop}
theorem c_missing {x dx pl : Addr} {a0 a1 t1 ts tb tn : Tok} {b : Array UInt8} (hb : b.size ≤ 9) (hb0 : 1 ≤ b.size) (hp : (pl, W.listOf #[] 0) ∈ news) (hx : (x, instObj 1107 dx) ∈ news) (hdx : (dx, asmO w.params a0 a1 (.int 256 t1) (.ref pl)) ∈ news) (hh : hdl = none)
    (B : Below A₀ base outer h₀) (F : Fr h₀ L s.heap m) (X : (K w.params).In h₀) (N : News h₀ L s.heap news) (T : Top p loose mean mg mb h₀) (hf : env.frame = some L) (hke : env.scope.kind = .function) (hd : dep < 505) (hu : un < 1500)
    (h : ∀ h' tk r tp t0 tb2 n, Fr h₀ L h' m → (∀ q ∈ news, q.1 < r) → r < tp → News h₀ L h' ((tp, ({ cls := .type "tuple", data := .seq #[.int 0 t0, .bytes b tb2] } : Obj)) :: (r, W.listOf #[.ref tp] n) :: news) → R (.ok (.ret (.ref r))) { s with heap := h', toks := tk }) :
    codeAny (model PySem.Challenge.rw_xw0352_01.prog w) ⟨hdl, dep, some (env :: outer), gd, un⟩ (.call (.ref 1062) ⟨[.ref x, .int 0 ts, .bytes b tb, .int 251 tn], []⟩) R s := by
  subst hh
  have hR := h
  clear h
  revert X; k_fill; intro X
  refine' code_def (binds := [("self", .ref x), ("begin", .int 0 ts), ("octets", .bytes b tb), ("next", .int 251 tn)]) ?k1 ?k2 ?k3 ?k4 ?k5 ?kA ?kF ?kK ?k6 ?k7 ?k8 ?k9 ?kB ?_ ?c2 ?c3 ?c4 ?c5
  case kA => exact rfl
  case kF => exact hf
  case kK => exact hke
  case k1 => exact B
  case k2 => exact F
  case k3 => exact X
  case k4 => exact N
  case k5 => exact T
  case k6 => k_is
  case k7 => k_is
  case k8 => exact Nat.lt_trans hd (by decide)
  case k9 => first | exact BindsTo.of_eq rfl | exact binds_K (by k_in) rfl (by k_is) rfl rfl rfl
  case c5 => decide
  case kB => exact locs rfl
  case c2 => exact rfl
  case c3 => exact rfl
  case c4 => exact rfl
  k_whole
  intro g' L' h' FG' F' N' B' X' T'
  clear F N B X T
  try dsimp only
  have N2 := news_cons (news_more2 N' hx hdx) N' hp
  clear N'
  have hbi : (1 : Int) ≤ (b.size : Int) := by omega
  have hbj : (b.size : Int) ≤ 9 := by omega
  change wpAny _ _ _ _ _ _
  k_fold
  k_steps
  refine Stop.mk ?_
  refine wpAny_For ?_
  k_fold
  k_steps
  refine Stop.mk ?_
  rename News _ _ _ _ => N9
  rename Fr _ _ _ _ => F9
  refine for_empty rfl F9 N9 (by k_mem) ?_
  intro h9 F10 N10
  clear F9 N9
  change wpAny _ _ _ _ _ _
  k_steps
  rename News _ _ _ _ => N9
  rename Fr _ _ _ _ => F9
  refine KBc.slice_K (s := ⟨_, _, _, _, _⟩) F9 N9 rfl (by constructor) (by constructor) (by rw [KBw.ints_length]; omega) ?_
  intro h8 t8 k8 F11 N11 _
  rw [show KBy.picked b (some (0 - 0)) none = b from picked_zero]
  clear F9 N9
  k_steps
  rename _ ∧ _ => lD
  revert lD
  rename _ ∧ _ => lD2
  revert lD2
  rename _ ∧ _ => lR
  intro lD2 lD
  refine leaveK_ (by k_asm) (by k_asm) ?_
  intro kF kN
  exact hR _ _ _ _ _ _ _ kF (fun q hq => allLt_get lR.2.2.2 q hq) lD.2.1 (List.forall_mem_cons.mpr ⟨kN _ (.head _), List.forall_mem_cons.mpr ⟨kN _ (.tail _ (.tail _ (.head _))), fun z hz => kN z (by repeat' first | exact hz | apply List.Mem.tail)⟩⟩)
end
end Mine.Internal
end TCMiss
section TLoopP
open PySem PySem.W PySem.Calls PyProof.Rows
set_option Elab.async false
set_option maxRecDepth 100000
set_option maxHeartbeats 4000000
namespace Mine.Internal
open Sem (wp)
section
variable {prog : Program} {w : World} {A : Around} {E : Value → Shared → Prop} {s : Shared} {R : Result → Shared → Prop} {elts : List PySem.Expr} {x1 : Nat} {px : Pos} {body : List Stmt} {env : Env}
/-- a loop over a list in the heap, by an invariant over the heap at each turn -/
theorem forListP_any {it l : Addr} {items : Array Value} (hrefs : ∀ (i : Nat) (v : Value), items[i]? = some v → ∃ a, v = Value.ref a) (J : Nat → Shared → Prop) (hh : A.handled = none)
    (hJ : ∀ i s', J i s' → s'.heap.IsListIter it l i ∧ s'.heap.IsList l items)
    (turn : ∀ i v s' h₁, items[i]? = some v → J i s' → h₁.IsListIter it l (i + 1) → Heap.SameBut it s'.heap h₁ →
      wpAny (model prog w) A (assign (.Tuple elts x1 px) env v) (fun _ s₂ => wpAny (model prog w) A (execs body env) (fun f s₃ => match f with
          | .next | .cont => J (i + 1) s₃
          | .brk => R (.ok .next) s₃
          | .ret v => R (.ok (.ret v)) s₃) (notedBy (model prog w) A env fun e s' => R (.error e) s') s₂) (notedBy (model prog w) A env fun e s' => R (.error e) s') { s' with heap := h₁ })
    (done : ∀ s' h₁, J items.size s' → Heap.ExtBut it s'.heap h₁ → R (.ok .next) { s' with heap := h₁ }) (h0 : J 0 s) :
    codeAny (model prog w) A (.forLoop (.Tuple elts x1 px) (.ref it) body [] env) R s := by
  refine codeAny_forLoop_any (fun n s' => ∃ i, n = items.size + 1 - i ∧ i ≤ items.size ∧ J i s') ?_ (items.size + 1) ⟨0, rfl, Nat.zero_le _, h0⟩
  rintro n s' ⟨i, rfl, hi, hj⟩
  obtain ⟨h1, h2⟩ := hJ i s' hj
  by_cases hlt : i < items.size
  · obtain ⟨a, ha⟩ := hrefs i _ (show items[i]? = some items[i] by simp [hlt])
    have hv : items[i]? = some (.ref a) := by rw [← ha]; simp [hlt]
    refine wpAny_pyNext_list_item h1 h2 (x := .ref a) hv fun h₁ hit hs => ?_
    dsimp only
    refine wpAny_letOwnedTupleGo_listiter (s := { s' with heap := h₁ }) hit ?_
    refine (wpAny_mono (turn i _ s' h₁ hv hj hit hs) (fun _ s₂ q => wpAny_mono q (fun f s₃ q => ?_) fun _ _ q => q) fun _ _ q => q)
    cases f with
    | next => exact ⟨items.size + 1 - (i + 1), by omega, i + 1, rfl, hlt, q⟩
    | cont => exact ⟨items.size + 1 - (i + 1), by omega, i + 1, rfl, hlt, q⟩
    | brk => exact q
    | ret v => exact q
  · obtain rfl : i = items.size := by omega
    refine wpAny_pyNext_list_end hh h1 h2 (by simp) fun h₁ hx => ?_
    dsimp only
    exact wpAny_execs_nil (done s' h₁ hj hx)
end
section
variable {prog : Program} {w : World} {A : Around} {E : Value → Shared → Prop} {s : Shared} {R : Result → Shared → Prop} {elts : List PySem.Expr} {x1 : Nat} {px : Pos} {body : List Stmt} {env : Env} {g' : Heap} {L' l : Addr} {m' : Str → Option Value} {lst : List (Addr × Obj)} {items : Array Value} {n : Nat}
theorem for_turnsP (hrefs : ∀ (i : Nat) (v : Value), items[i]? = some v → ∃ a, v = Value.ref a) (J : Nat → Heap → (Str → Option Value) → List (Addr × Obj) → Prop) (hh : A.handled = none) (F : Fr g' L' s.heap m') (N : News g' L' s.heap ((l, W.listOf items n) :: lst))
    (turn : ∀ it itO i v g₁ m₁ led h tk, L' < it → l < it → (∀ q ∈ lst, q.1 < it) → items[i]? = some v → J i g₁ m₁ led → (∀ q ∈ led, q.1 ≠ it) → Fr g₁ L' h m₁ → News g₁ L' h ((it, itO) :: (l, W.listOf items n) :: led) →
      wpAny (model prog w) A (assign (.Tuple elts x1 px) env v) (fun _ s₂ => wpAny (model prog w) A (execs body env) (fun f s₃ => match f with
          | .next | .cont => TurnEnd (J (i + 1)) s L' (it, itO) (l, W.listOf items n) s₃
          | .brk => R (.ok .next) s₃
          | .ret v => R (.ok (.ret v)) s₃) (notedBy (model prog w) A env fun e s' => R (.error e) s') s₂) (notedBy (model prog w) A env fun e s' => R (.error e) s') { s with heap := h, toks := tk })
    (done : ∀ g₁ m₁ led h tk, J items.size g₁ m₁ led → Fr g₁ L' h m₁ → News g₁ L' h ((l, W.listOf items n) :: led) → R (.ok .next) { s with heap := h, toks := tk })
    (h0 : J 0 g' m' lst) :
    wpAny (model prog w) A (pyIter (.ref l)) (fun it s₂ => codeAny (model prog w) A (.forLoop (.Tuple elts x1 px) it body [] env) R s₂) E s := by
  have hl0 := N _ (.head _)
  have lts : ∀ q ∈ lst, q.1 < s.heap.objs.size := fun q hq => Heap.lt_size (N q (.tail _ hq)).1
  have ltl : l < s.heap.objs.size := Heap.lt_size hl0.1
  have ltL : L' < s.heap.objs.size := F.ns.lt
  refine wpAny_pyIter_list ⟨_, hl0.1, rfl, _, rfl⟩ ?_
  refine forListP_any (l := l) (items := items) hrefs (fun i s' => TurnMid (J i) s L' (l, W.listOf items n) (.type "list_iterator") (.fields #[.ref l, .int i 0]) s') hh ?_ ?_ ?_ ?_
  · rintro i s' ⟨h, tk, g₁, m₁, led, itO, rfl, hj, hne, F₁, N₁, hc, hd⟩
    exact ⟨⟨_, (N₁ _ (.head _)).1, hc, hd⟩, ⟨_, (N₁ _ (.tail _ (.head _))).1, rfl, _, rfl⟩⟩
  · rintro i v s' h₁ hv ⟨h, tk, g₁, m₁, led, itO, rfl, hj, hne, F₁, N₁, hc, hd⟩ ⟨o', ho', hc', hd'⟩ hs
    have hi := N₁ _ (.head _)
    have hall : ∀ q ∈ ((l, W.listOf items n) :: led), q.1 ≠ s.heap.objs.size := fun q hq => by
      rcases List.mem_cons.mp hq with rfl | hq
      · exact Nat.ne_of_lt ltl
      · exact hne q hq
    have N₂ : News g₁ L' h₁ ((s.heap.objs.size, o') :: (l, W.listOf items n) :: led) := fun q hq => by
      rcases List.mem_cons.mp hq with rfl | hq
      · exact ⟨ho', hi.2⟩
      · exact news_it N₁ hall hs q hq
    refine wpAny_mono (turn _ o' i v g₁ m₁ led h₁ tk ltL ltl lts hv hj hne (fr_it F₁ hi.2.2 hi.2.1 hs) N₂) (fun _ s₂ q => wpAny_mono q (fun f s₃ q => ?_) fun _ _ q => q) fun _ _ q => q
    have conv : (TurnEnd (J (i + 1)) s L' (s.heap.objs.size, o') (l, W.listOf items n) s₃) →
        TurnMid (J (i + 1)) s L' (l, W.listOf items n) (.type "list_iterator") (.fields #[.ref l, .int ((i + 1 : Nat) : Int) 0]) s₃ := by
      rintro ⟨g₂, m₂, led₂, h₂, tk₂, e, j, f, n', d⟩
      exact ⟨h₂, tk₂, g₂, m₂, led₂, o', e, j, d, f, n', hc', hd'⟩
    cases f with
    | next => exact conv q
    | cont => exact conv q
    | brk => exact q
    | ret v => exact q
  · rintro s' h₁ ⟨h, tk, g₁, m₁, led, itO, rfl, hj, hne, F₁, N₁, hc, hd⟩ hs
    have hi := N₁ _ (.head _)
    have hall : ∀ q ∈ ((l, W.listOf items n) :: led), q.1 ≠ s.heap.objs.size := fun q hq => by
      rcases List.mem_cons.mp hq with rfl | hq
      · exact Nat.ne_of_lt ltl
      · exact hne q hq
    exact done g₁ m₁ led h₁ tk hj (fr_ext F₁ hi.2.2 hi.2.1 hs) (news_ext N₁ hall hs)
  · have NN := N.push F (itObj l 0)
    exact ⟨_, s.toks, g', m', lst, itObj l 0, rfl, h0, fun q hq => Nat.ne_of_lt (lts q hq), F.push _, NN, rfl, rfl⟩
end
end Mine.Internal
end TLoopP
section TCMerg
open PySem PySem.W PyProof.Rows PySem.Calls
set_option Elab.async false
set_option maxRecDepth 100000
set_option maxHeartbeats 8000000
namespace Mine.Internal
section
variable {w : World} {A₀ : Around} {hdl : Option Value} {dep un : Nat} {gd : Option (List Code)} {E : Value → Shared → Prop} {s : Shared} {h₀ base : Heap} {L : Addr} {m mg mb : Str → Option Value} {news : List (Addr × Obj)} {p : Program} {loose : List Str} {mean : ExcName → Option Value}
  {env : Env} {outer : List Env} {R : Result → Shared → Prop}
theorem pick_j {g h : Heap} {L : Addr} {d f t p : Addr × Obj} {rest : List (Addr × Obj)} (N : News g L h (d :: f :: t :: p :: rest)) : News g L h (p :: f :: t :: rest) :=
  List.forall_mem_cons.mpr ⟨N _ (.tail _ (.tail _ (.tail _ (.head _)))), List.forall_mem_cons.mpr ⟨N _ (.tail _ (.head _)), List.forall_mem_cons.mpr ⟨N _ (.tail _ (.tail _ (.head _))), fun z hz => N z (.tail _ (.tail _ (.tail _ (.tail _ hz))))⟩⟩⟩
section
theorem c_merged {x dx pl fr tp : Addr} {a0 a1 t1 tn : Tok} {n : Nat} (hp : (pl, W.listOf #[] 0) ∈ news) (hx : (x, instObj 1107 dx) ∈ news) (hdx : (dx, asmO w.params a0 a1 (.int 256 t1) (.ref pl)) ∈ news) (hf9 : (fr, W.listOf #[.ref tp] n) ∈ news) (hh : hdl = none)
    (B : Below A₀ base outer h₀) (F : Fr h₀ L s.heap m) (X : (K w.params).In h₀) (N : News h₀ L s.heap news) (T : Top p loose mean mg mb h₀) (hf : env.frame = some L) (hke : env.scope.kind = .function) (hd : dep < 505) (hu : un < 1500)
    (h : ∀ h' tk r n', Fr h₀ L h' m → (∀ q ∈ news, q.1 < r) → News h₀ L h' ((r, W.listOf #[.ref tp] n') :: news) → R (.ok (.ret (.ref r))) { s with heap := h', toks := tk }) :
    codeAny (model PySem.Challenge.rw_xw0352_01.prog w) ⟨hdl, dep, some (env :: outer), gd, un⟩ (.call (.ref 1069) ⟨[.ref x, .ref fr, .int 251 tn], []⟩) R s := by
  subst hh
  have hR := h
  clear h
  revert X; k_fill; intro X
  refine' code_def (binds := [("self", .ref x), ("fresh", .ref fr), ("next", .int 251 tn)]) ?k1 ?k2 ?k3 ?k4 ?k5 ?kA ?kF ?kK ?k6 ?k7 ?k8 ?k9 ?kB ?_ ?c2 ?c3 ?c4 ?c5
  case kA => exact rfl
  case kF => exact hf
  case kK => exact hke
  case k1 => exact B
  case k2 => exact F
  case k3 => exact X
  case k4 => exact N
  case k5 => exact T
  case k6 => k_is
  case k7 => k_is
  case k8 => exact Nat.lt_trans hd (by decide)
  case k9 => first | exact BindsTo.of_eq rfl | exact binds_K (by k_in) rfl (by k_is) rfl rfl rfl
  case c5 => decide
  case kB => exact locs rfl
  case c2 => exact rfl
  case c3 => exact rfl
  case c4 => exact rfl
  k_whole
  intro g' L' h' FG' F' N' B' X' T'
  clear F N B X T
  try dsimp only
  have N2 := news_cons (news_cons (news_more2 N' hx hdx) N' hp) N' hf9
  clear N'
  change wpAny _ _ _ _ _ _
  k_fold
  k_steps
  refine Stop.mk ?_
  refine wpAny_For ?_
  k_fold
  k_steps
  refine Stop.mk ?_
  rename News _ _ _ _ => N9
  rename Fr _ _ _ _ => F9
  refine for_empty rfl F9 N9 (by k_mem) ?_
  intro h9 F10 N10
  clear F9 N9
  change wpAny _ _ _ _ _ _
  k_steps
  rename _ ∧ _ => lD
  refine leaveK_ (by k_asm) (by k_asm) ?_
  intro kF kN
  exact hR _ _ _ _ kF (fun q hq => allLt_get lD.2.2.2.2.2.2.2 q hq) (List.forall_mem_cons.mpr ⟨kN _ (.head _), fun z hz => kN z (by repeat' first | exact hz | apply List.Mem.tail)⟩)
/-- what holds between two turns of joined -/
inductive JoinJ (P : Prop) (m₁ : Str → Option Value) (news : List (Addr × Obj)) (tp pc x dx pl : Addr) (tn : Tok) (D0 : Addr → List (Addr × Obj)) (D1 : Addr → Addr → Tok → Tok → Nat → List (Addr × Obj)) (i : Nat) (led : List (Addr × Obj)) : Prop
  | zero (hg : P) (fnd : Addr) (z1 : ∀ q ∈ news, q.1 < fnd) (z2 : tp < fnd) (z3 : pc < fnd) (z4 : x < fnd) (z5 : dx < fnd) (z6 : pl < fnd) (hfd : m₁ "found" = some (.ref fnd)) (hi : i = 0) (m1 : m₁ "self" = some (.ref x)) (m2 : m₁ "next" = some (.int 251 tn)) (m3 : m₁ "end" = some .none) (hl : led = D0 fnd) : JoinJ P m₁ news tp pc x dx pl tn D0 D1 i led
  | one (hg : P) (fnd : Addr) (z1 : ∀ q ∈ news, q.1 < fnd) (z2 : tp < fnd) (z3 : pc < fnd) (z4 : x < fnd) (z5 : dx < fnd) (z6 : pl < fnd) (hfd : m₁ "found" = some (.ref fnd)) (hi : i = 1) (tp2 : Addr) (t2 tb2 : Tok) (n2 : Nat) (l2 : fnd < tp2) (hl : led = D1 fnd tp2 t2 tb2 n2) : JoinJ P m₁ news tp pc x dx pl tn D0 D1 i led
theorem c_joined {x dx pl pc tp : Addr} {a0 a1 t1 tn t0 tb : Tok} {b : Array UInt8} {n : Nat} (hb : b.size ≤ 9) (hp : (pl, W.listOf #[] 0) ∈ news) (hx : (x, instObj 1107 dx) ∈ news) (hdx : (dx, asmO w.params a0 a1 (.int 256 t1) (.ref pl)) ∈ news) (hf9 : (pc, W.listOf #[.ref tp] n) ∈ news) (hf8 : (tp, ({ cls := .type "tuple", data := .seq #[.int 0 t0, .bytes b tb] } : Obj)) ∈ news) (hh : hdl = none)
    (B : Below A₀ base outer h₀) (F : Fr h₀ L s.heap m) (X : (K w.params).In h₀) (N : News h₀ L s.heap news) (T : Top p loose mean mg mb h₀) (hf : env.frame = some L) (hke : env.scope.kind = .function) (hd : dep < 505) (hu : un < 1500)
    (h : ∀ h' tk r tp t0 tb n, Fr h₀ L h' m → (∀ q ∈ news, q.1 < r) → r < tp → News h₀ L h' ((tp, ({ cls := .type "tuple", data := .seq #[.int 251 t0, .bytes b tb] } : Obj)) :: (r, W.listOf #[.ref tp] n) :: news) → R (.ok (.ret (.ref r))) { s with heap := h', toks := tk }) :
    codeAny (model PySem.Challenge.rw_xw0352_01.prog w) ⟨hdl, dep, some (env :: outer), gd, un⟩ (.call (.ref 1076) ⟨[.ref x, .ref pc, .int 251 tn], []⟩) R s := by
  subst hh
  have hR := h
  clear h
  revert X; k_fill; intro X
  refine' code_def (binds := [("self", .ref x), ("pieces", .ref pc), ("next", .int 251 tn)]) ?k1 ?k2 ?k3 ?k4 ?k5 ?kA ?kF ?kK ?k6 ?k7 ?k8 ?k9 ?kB ?_ ?c2 ?c3 ?c4 ?c5
  case kA => exact rfl
  case kF => exact hf
  case kK => exact hke
  case k1 => exact B
  case k2 => exact F
  case k3 => exact X
  case k4 => exact N
  case k5 => exact T
  case k6 => k_is
  case k7 => k_is
  case k8 => exact Nat.lt_trans hd (by decide)
  case k9 => first | exact BindsTo.of_eq rfl | exact binds_K (by k_in) rfl (by k_is) rfl rfl rfl
  case c5 => decide
  case kB => exact locs rfl
  case c2 => exact rfl
  case c3 => exact rfl
  case c4 => exact rfl
  k_whole
  intro g' L' h' FG' F' N' B' X' T'
  clear F N B X T
  try dsimp only
  have N2 := news_cons (news_cons (news_cons (news_more2 N' hx hdx) N' hp) N' hf9) N' hf8
  clear N'
  change wpAny _ _ _ _ _ _
  k_fold
  k_steps
  refine Stop.mk ?_
  refine wpAny_For ?_
  k_fold
  k_steps
  refine Stop.mk ?_
  rename News _ _ _ _ => N9
  rename Fr _ _ _ _ => F9
  rename _ ∧ _ => lD
  clear lD
  rename _ ∧ _ => lF
  refine for_turnsP (x1 := _) ?_ (fun i g₁ m₁ led => JoinJ (g₁ = g') m₁ news tp pc x dx pl tn (fun fnd => (fnd, W.listOf #[] 0) :: (tp, ({ cls := .type "tuple", data := .seq #[.int 0 t0, .bytes b tb] } : Obj)) :: (pl, W.listOf #[] 0) :: (x, instObj 1107 dx) :: (dx, asmO w.params a0 a1 (.int 256 t1) (.ref pl)) :: news)
    (fun fnd tp2 t2 tb2 n2 => (tp2, ({ cls := .type "tuple", data := .seq #[.int 251 t2, .bytes b tb2] } : Obj)) :: (fnd, W.listOf #[.ref tp2] n2) :: (pl, W.listOf #[] 0) :: (x, instObj 1107 dx) :: (dx, asmO w.params a0 a1 (.int 256 t1) (.ref pl)) :: news) i led) rfl F9 (pick_j N9) ?_ ?_ ?_
  · intro i v hv
    have hi : i < 1 := (Array.getElem?_eq_some_iff.mp hv).1
    obtain rfl : i = 0 := Nat.lt_one_iff.mp hi
    simp at hv
    exact ⟨_, hv.symm⟩
  rotate_left 2
  · exact JoinJ.zero rfl _ (fun q hq => allLt_get lF.2.2.2.2.2 q hq) lF.1 lF.2.1 lF.2.2.2.1 lF.2.2.2.2.1 lF.2.2.1 rfl rfl rfl rfl rfl rfl
  · intro it itO i v g₁ m₁ led h₁ tk₁ hLit hlit hlst hv hJ hne F₁ N₁
    rcases hJ with ⟨hg, fnd, z1, z2, z3, z4, z5, z6, hfd, rfl, m1, m2, m3, hled⟩ | ⟨_, _, _, _, _, _, _, _, _, rfl, _⟩
    · subst hg
      subst hled
      simp at hv
      subst hv
      clear F9 N9 lF
      have e1 : @LT.lt Nat _ tp fnd := z2
      have e2 : @LT.lt Nat _ pc fnd := z3
      have e3 : @LT.lt Nat _ x fnd := z4
      have e4 : @LT.lt Nat _ dx fnd := z5
      have e5 : @LT.lt Nat _ pl fnd := z6
      have y1 : @Ne Nat tp fnd := Nat.ne_of_lt z2
      have y2 : @Ne Nat pc fnd := Nat.ne_of_lt z3
      have y3 : @Ne Nat x fnd := Nat.ne_of_lt z4
      have y4 : @Ne Nat dx fnd := Nat.ne_of_lt z5
      have y5 : @Ne Nat pl fnd := Nat.ne_of_lt z6
      have e6 : @Ne Nat it fnd := Ne.symm (hne (fnd, _) (.head _))
      have e7 : ∀ q ∈ news, q.1 ≠ fnd := fun q hq => Nat.ne_of_lt (z1 q hq)
      have F₂ := fr_map (x := "found") (fr_map (x := "end") (fr_map (x := "next") (fr_map (x := "self") F₁ m1) (by (repeat rw [if_neg (by decide)]); exact m2)) (by (repeat rw [if_neg (by decide)]); exact m3)) (by (repeat rw [if_neg (by decide)]); exact hfd)
      clear F₁
      change wpAny _ _ _ _ _ _
      k_fold
      k_steps
      rename News _ _ _ _ => N8
      rename Fr _ _ _ _ => F8
      rename _ ∧ _ => lN
      dsimp only
      exact turn_end F8 (JoinJ.one rfl fnd z1 z2 z3 z4 z5 z6 rfl rfl _ _ _ _ lN.2.2.1 rfl)
        (List.forall_mem_cons.mpr ⟨N8 _ (.tail _ (.head _)), List.forall_mem_cons.mpr ⟨N8 _ (.tail _ (.tail _ (.head _))), List.forall_mem_cons.mpr ⟨N8 _ (.head _), List.forall_mem_cons.mpr ⟨N8 _ (.tail _ (.tail _ (.tail _ (.head _)))), fun z hz => N8 z (.tail _ (.tail _ (.tail _ (.tail _ (.tail _ hz)))))⟩⟩⟩⟩)
        (List.forall_mem_cons.mpr ⟨Nat.ne_of_gt lN.1, List.forall_mem_cons.mpr ⟨Ne.symm e6, fun z hz => hne z (.tail _ (.tail _ hz))⟩⟩)
    · simp at hv
  · intro g₁ m₁ led h₁ tk₁ hJ F₁ N₁
    rcases hJ with ⟨_, _, _, _, _, _, _, _, _, h01, _⟩ | ⟨hg, fnd, z1, z2, z3, z4, z5, z6, hfd, _, tp2, t2, tb2, n2, l2, hled⟩
    · cases h01
    · subst hg
      subst hled
      clear F9 N9 lF
      have F₂ := fr_map (x := "found") F₁ hfd
      clear F₁
      change wpAny _ _ _ _ _ _
      k_steps
      rename News _ _ _ _ => N8
      rename Fr _ _ _ _ => F8
      refine leaveK_ F8 N8 ?_
      intro kF kN
      exact hR _ _ _ _ _ _ _ kF z1 l2 (List.forall_mem_cons.mpr ⟨kN _ (.tail _ (.head _)), List.forall_mem_cons.mpr ⟨kN _ (.tail _ (.tail _ (.head _))), fun z hz => kN z (.tail _ (.tail _ (.tail _ (.tail _ (.tail _ (.tail _ hz))))))⟩⟩)
end
end
end Mine.Internal
end TCMerg
section TCPut
open PySem PySem.W PyProof.Rows PySem.Calls
set_option Elab.async false
set_option maxRecDepth 100000
set_option maxHeartbeats 8000000
namespace Mine.Internal
section
variable {w : World} {A₀ : Around} {hdl : Option Value} {dep un : Nat} {gd : Option (List Code)} {E : Value → Shared → Prop} {s : Shared} {h₀ base : Heap} {L : Addr} {m mg mb : Str → Option Value} {news : List (Addr × Obj)} {p : Program} {loose : List Str} {mean : ExcName → Option Value}
  {env : Env} {outer : List Env} {R : Result → Shared → Prop}
theorem c_put {x dx pl : Addr} {a0 a1 t1 ts tb tn : Tok} {b : Array UInt8} {rest : List (Addr × Obj)} (hb : b.size ≤ 9) (hb0 : 1 ≤ b.size) (hxd : @Ne Nat x dx) (hpd : @Ne Nat pl dx) (hr : ∀ q ∈ rest, q.1 ≠ dx) (hh : hdl = none)
    (hn : news = (pl, W.listOf #[] 0) :: (x, instObj 1107 dx) :: (dx, asmO w.params a0 a1 (.int 256 t1) (.ref pl)) :: rest)
    (B : Below A₀ base outer h₀) (F : Fr h₀ L s.heap m) (X : (K w.params).In h₀) (N : News h₀ L s.heap news) (T : Top p loose mean mg mb h₀) (hf : env.frame = some L) (hke : env.scope.kind = .function) (hd : dep < 485) (hu : un < 1400)
    (h : ∀ h' tk r tp t0 tb n, Fr h₀ L h' m → x < r → dx < r → (∀ q ∈ rest, q.1 < r) → r < tp → News h₀ L h' ((tp, ({ cls := .type "tuple", data := .seq #[.int 251 t0, .bytes b tb] } : Obj)) :: (r, W.listOf #[.ref tp] n) :: (x, instObj 1107 dx) :: (dx, asmO w.params a0 a1 (.int 256 t1) (.ref r)) :: rest) → R (.ok (.ret .none)) { s with heap := h', toks := tk }) :
    codeAny (model PySem.Challenge.rw_xw0352_01.prog w) ⟨hdl, dep, some (env :: outer), gd, un⟩ (.call (.ref 1055) ⟨[.ref x, .int 251 ts, .bytes b tb, .int 251 tn], []⟩) R s := by
  subst hh
  subst hn
  have hR := h
  clear h
  revert X; k_fill; intro X
  refine' code_def (binds := [("self", .ref x), ("seq", .int 251 ts), ("octets", .bytes b tb), ("next", .int 251 tn)]) ?k1 ?k2 ?k3 ?k4 ?k5 ?kA ?kF ?kK ?k6 ?k7 ?k8 ?k9 ?kB ?_ ?c2 ?c3 ?c4 ?c5
  case kA => exact rfl
  case kF => exact hf
  case kK => exact hke
  case k1 => exact B
  case k2 => exact F
  case k3 => exact X
  case k4 => exact N
  case k5 => exact T
  case k6 => k_is
  case k7 => k_is
  case k8 => exact Nat.lt_trans hd (by decide)
  case k9 => first | exact BindsTo.of_eq rfl | exact binds_K (by k_in) rfl (by k_is) rfl rfl rfl
  case c5 => decide
  case kB => exact locs rfl
  case c2 => exact rfl
  case c3 => exact rfl
  case c4 => exact rfl
  k_whole
  intro g' L' h' FG' F' N' B' X' T'
  clear F N B X T
  try dsimp only
  change wpAny _ _ _ _ _ _
  k_fold
  k_steps
  refine Stop.mk ?_
  rename News _ _ _ _ => N9
  rename Fr _ _ _ _ => F9
  refine' wpAny_call (c_missing (pl := pl) hb hb0 ?hp ?hx ?hdx rfl (hd := ?hd) (hu := ?hu) B' F9 X' N9 T' rfl rfl ?_)
  case hd => show dep + 1 < 505; exact lin (k := 1) hd (by decide)
  case hu => show un + 3 < 1500; exact lin (k := 3) hu (by decide)
  case hp => k_mem
  case hx => k_mem
  case hdx => k_mem
  intro h9 tk9 r tp t0 tb2 n F10 q1 q2 N10
  have e1 : @LT.lt Nat _ dx r := q1 (dx, _) (by k_mem)
  have e2 : @LT.lt Nat _ r tp := q2
  clear F9 N9
  dsimp only
  k_steps
  rename News _ _ _ _ => N9
  refine ne_len (N9 (r, _) (by k_mem)).1 (N9 _ (.head _)).1 (by rfl) (by show un + 3 < cLine; exact Nat.lt_trans (show un + 3 < 2000 from lin (k := 3) hu (by decide)) (by decide)) ?_
  k_steps
  refine Stop.mk ?_
  rename News _ _ _ _ => N9
  rename Fr _ _ _ _ => F9
  refine' wpAny_call (c_merged (pl := pl) ?hp ?hx ?hdx ?hf rfl (hd := ?hd) (hu := ?hu) B' F9 X' N9 T' rfl rfl ?_)
  case hd => show dep + 1 < 505; exact lin (k := 1) hd (by decide)
  case hu => show un + 3 < 1500; exact lin (k := 3) hu (by decide)
  case hp => k_mem
  case hx => k_mem
  case hdx => k_mem
  case hf => k_mem
  intro h8 tk8 r2 n2 F11 q3 N11
  have e3 : @LT.lt Nat _ dx r2 := q3 (dx, _) (by k_mem)
  clear F9 N9
  dsimp only
  k_steps
  refine Stop.mk ?_
  rename News _ _ _ _ => N9
  rename Fr _ _ _ _ => F9
  refine' wpAny_call (c_joined (pl := pl) hb ?hp ?hx ?hdx ?hf ?hf2 rfl (hd := ?hd) (hu := ?hu) B' F9 X' N9 T' rfl rfl ?_)
  case hd => show dep + 1 < 505; exact lin (k := 1) hd (by decide)
  case hu => show un + 3 < 1500; exact lin (k := 3) hu (by decide)
  case hp => k_mem
  case hx => k_mem
  case hdx => k_mem
  case hf => k_mem
  case hf2 => k_mem
  intro h7 tk7 r3 tp3 t3 tb3 n3 F12 q4 q5 N12
  have e4 : @LT.lt Nat _ dx r3 := q4 (dx, _) (by k_mem)
  have e5 : @LT.lt Nat _ r3 tp3 := q5
  have e6 : @LT.lt Nat _ x r3 := q4 (x, _) (by k_mem)
  have e7 : ∀ q ∈ rest, q.1 < r3 := fun q hq => q4 q (by repeat' first | exact hq | apply List.Mem.tail)
  clear F9 N9
  dsimp only
  k_steps
  rename News _ _ _ _ => N9
  rename Fr _ _ _ _ => F9
  refine leaveK_ F9 N9 ?_
  intro kF kN
  refine' hR _ _ r3 tp3 _ _ _ kF e6 e4 e7 e5 (List.forall_mem_cons.mpr ⟨kN _ (by k_mem), List.forall_mem_cons.mpr ⟨kN _ (by k_mem), List.forall_mem_cons.mpr ⟨kN _ (by k_mem), List.forall_mem_cons.mpr ⟨kN _ (by k_mem), fun z hz => kN z (by repeat' first | exact hz | apply List.Mem.tail)⟩⟩⟩⟩)
end
end Mine.Internal
end TCPut
section TCArr
open PySem PySem.W PyProof.Rows PySem.Calls
set_option Elab.async false
set_option maxRecDepth 100000
set_option maxHeartbeats 8000000
namespace Mine.Internal
section
variable {w : World} {A₀ : Around} {hdl : Option Value} {dep un : Nat} {gd : Option (List Code)} {E : Value → Shared → Prop} {s : Shared} {h₀ base : Heap} {L : Addr} {m mg mb : Str → Option Value} {news : List (Addr × Obj)} {p : Program} {loose : List Str} {mean : ExcName → Option Value}
  {env : Env} {outer : List Env} {R : Result → Shared → Prop}
theorem c_arrive_nil {x dx pl am da ba : Addr} {a0 a1 t1 tn tt ts tb : Tok} {u0 u1 u2 u3 u4 u5 u6 u7 u8 u9 : Tok} {v_room v_mss v_urgent_at : Value} {rest : List (Addr × Obj)} (hrest : ∀ q ∈ rest, q.1 < dx) (o1 : @LT.lt Nat _ dx x) (o2 : @LT.lt Nat _ x ba) (o3 : @LT.lt Nat _ ba da) (o4 : @LT.lt Nat _ da am) (o5 : @LT.lt Nat _ am pl) (hh : hdl = none)
    (hn : news = (pl, W.listOf #[] 0) :: (am, instObj 1107 da) :: (da, asmO w.params a0 a1 (.int 256 t1) (.ref pl)) :: (ba, baObj #[]) :: (x, instObj 1241 dx) :: (dx, recO w.params u0 u1 u2 u3 u4 u5 u6 u7 u8 u9 (.int 256 t1) v_room v_mss (.int 251 tn) (.ref ba) (.ref am) (.int 11 tt) (.none) (.bool false) v_urgent_at) :: rest)
    (B : Below A₀ base outer h₀) (F : Fr h₀ L s.heap m) (X : (K w.params).In h₀) (N : News h₀ L s.heap news) (T : Top p loose mean mg mb h₀) (hf : env.frame = some L) (hke : env.scope.kind = .function) (hd : dep < 445) (hu : un < 1100)
    (h : ∀ h' tk nx ra, Fr h₀ L h' m → News h₀ L h' ((ba, baObj #[]) :: (x, instObj 1241 dx) :: (dx, recO w.params u0 u1 u2 u3 u4 u5 u6 u7 u8 u9 (.int 256 t1) v_room v_mss nx (.ref ba) (.ref am) (.int 11 tt) (.none) (.bool false) v_urgent_at) :: rest) → R (.ok (.ret (.ref ra))) { s with heap := h', toks := tk }) :
    codeS (model PySem.Challenge.rw_xw0352_01.prog w) ⟨hdl, dep, some (env :: outer), gd, un⟩ (.call (.ref 1161) ⟨[.ref x, .int 251 ts, .bytes #[] tb, .bool false], []⟩) R s := by
  subst hh
  subst hn
  have hR := h
  clear h
  have z1 : @LT.lt Nat _ dx ba := Nat.lt_trans o1 o2
  have n1 : @Ne Nat x dx := Nat.ne_of_gt o1
  have n2 : @Ne Nat x ba := Nat.ne_of_lt o2
  have n3 : @Ne Nat dx ba := Nat.ne_of_lt z1
  have z2 : @LT.lt Nat _ ba am := Nat.lt_trans o3 o4
  have n4 : @Ne Nat da ba := Nat.ne_of_gt o3
  have n5 : @Ne Nat am ba := Nat.ne_of_gt z2
  have n7 : @Ne Nat da dx := Nat.ne_of_gt (Nat.lt_trans z1 o3)
  have n8 : @Ne Nat am dx := Nat.ne_of_gt (Nat.lt_trans z1 z2)
  have n6 : @Ne Nat pl ba := Nat.ne_of_gt (Nat.lt_trans z2 o5)
  have n9 : @Ne Nat pl dx := Nat.ne_of_gt (Nat.lt_trans z1 (Nat.lt_trans z2 o5))
  revert X; k_fill; intro X
  refine' codeS_def (binds := [("self", .ref x), ("seq", .int 251 ts), ("octets", .bytes #[] tb), ("has_fin", .bool false)]) ?k1 ?k2 ?k3 ?k4 ?k5 ?kA ?kF ?kK ?k6 ?k7 ?k8 ?k9 ?kB ?_ ?c2 ?c3 ?c4 ?c5
  case kA => exact rfl
  case kF => exact hf
  case kK => exact hke
  case k1 => exact B
  case k2 => exact F
  case k3 => exact X
  case k4 => exact N
  case k5 => exact T
  case k6 => k_is
  case k7 => k_is
  case k8 => exact Nat.lt_trans hd (by decide)
  case k9 => first | exact BindsTo.of_eq rfl | exact binds_K (by k_in) rfl (by k_is) rfl rfl rfl
  case c5 => decide
  case kB => exact locs rfl
  case c2 => exact rfl
  case c3 => exact rfl
  case c4 => exact rfl
  k_whole
  intro g' L' h' FG' F' N' B' X' T'
  clear F N B X T
  try dsimp only
  refine wpS_execs_any ?_
  k_fold
  k_steps
  refine wpS_execs_any ?_
  k_fold
  k_steps
  refine Stop.mk ?_
  rename News _ _ _ _ => N9
  rename Fr _ _ _ _ => F9
  refine' wpAny_call (c_let_in ?hb ?hx ?hdx (hd := ?hd) (hu := ?hu) B' F9 X' N9 T' rfl rfl ?_)
  case hb => decide
  case hd => show dep + 1 < 465; exact lin (k := 1) hd (by decide)
  case hu => show un + 3 < 1200; exact lin (k := 3) hu (by decide)
  case hx => k_mem
  case hdx => k_mem
  intro h9 tk9 tb2 F10 N10
  clear F9 N9
  dsimp only
  k_steps
  refine wpS_execs_any ?_
  k_fold
  k_steps
  refine wpS_execs_any ?_
  k_fold
  k_steps
  refine wpS_execs_any ?_
  k_fold
  k_steps
  refine wpS_execs_cons (wpS_Assign_Name ?_)
  refine evalS_Call_Attr rfl rfl rfl ?_
  change wpAny _ _ (eval _ _) _ _ _
  k_fold
  k_steps
  rename Fr _ _ _ _ => F8
  refine' callWithS_K0 (K := K w.params) ?kx ?kk ?_
  case kx => exact X'.keeps F8.keep
  case kk => k_is
  dsimp only [List.cons_append, List.nil_append, List.append_nil]
  rename News _ _ _ _ => N9
  rename Fr _ _ _ _ => F9
  refine' wpS_call (c_gather_nil (pl := pl) (am := am) (da := da) (ba := ba) ?p1 ?p2 ?p3 ?p4 ?p5 ?p6 ?p7 ?p8 ?p9 ?p10 ?p11 rfl rfl (hd := ?hd) (hu := ?hu) B' F9 X' N9 T' rfl rfl ?_)
  case hd => show dep + 1 < 465; exact lin (k := 1) hd (by decide)
  case hu => show un + 3 < 1200; exact lin (k := 3) hu (by decide)
  case p1 => k_ne
  case p2 => k_ne
  case p3 => k_ne
  case p4 => k_ne
  case p5 => k_ne
  case p7 => k_ne
  case p8 => k_ne
  case p9 => k_ne
  case p10 => k_ne
  case p6 => exact fun q hq => Nat.ne_of_lt (Nat.lt_trans (hrest q hq) (Nat.lt_trans o1 o2))
  case p11 => exact fun q hq => Nat.ne_of_lt (hrest q hq)
  intro h7 tk7 nx tr F12 N12
  clear F9 N9
  dsimp only
  change wpAny _ _ _ _ _ _
  k_fold
  k_steps
  refine wpS_any ?_
  k_fold
  k_steps
  refine leaveK_ (by k_asm) (by k_asm) ?_
  intro kF kN
  refine' hR _ _ _ _ kF (List.forall_mem_cons.mpr ⟨kN _ (by k_mem), List.forall_mem_cons.mpr ⟨kN _ (by k_mem), List.forall_mem_cons.mpr ⟨kN _ (by k_mem), fun z hz => kN z (by repeat' first | exact hz | apply List.Mem.tail)⟩⟩⟩)
theorem c_arrive_one {x dx pl am da ba : Addr} {a0 a1 t1 tn tt ts tb : Tok} {u0 u1 u2 u3 u4 u5 u6 u7 u8 u9 : Tok} {v_room v_mss v_urgent_at : Value} {rest : List (Addr × Obj)} {b : Array UInt8} (hb : b.size ≤ 9) (hb0 : 1 ≤ b.size) (hrest : ∀ q ∈ rest, q.1 < dx) (o1 : @LT.lt Nat _ dx x) (o2 : @LT.lt Nat _ x ba) (o3 : @LT.lt Nat _ ba da) (o4 : @LT.lt Nat _ da am) (o5 : @LT.lt Nat _ am pl) (hh : hdl = none)
    (hn : news = (pl, W.listOf #[] 0) :: (am, instObj 1107 da) :: (da, asmO w.params a0 a1 (.int 256 t1) (.ref pl)) :: (ba, baObj #[]) :: (x, instObj 1241 dx) :: (dx, recO w.params u0 u1 u2 u3 u4 u5 u6 u7 u8 u9 (.int 256 t1) v_room v_mss (.int 251 tn) (.ref ba) (.ref am) (.int 11 tt) (.none) (.bool false) v_urgent_at) :: rest)
    (B : Below A₀ base outer h₀) (F : Fr h₀ L s.heap m) (X : (K w.params).In h₀) (N : News h₀ L s.heap news) (T : Top p loose mean mg mb h₀) (hf : env.frame = some L) (hke : env.scope.kind = .function) (hd : dep < 445) (hu : un < 1100)
    (h : ∀ h' tk nx ra, Fr h₀ L h' m → News h₀ L h' ((ba, baObj b) :: (x, instObj 1241 dx) :: (dx, recO w.params u0 u1 u2 u3 u4 u5 u6 u7 u8 u9 (.int 256 t1) v_room v_mss nx (.ref ba) (.ref am) (.int 11 tt) (.none) (.bool false) v_urgent_at) :: rest) → R (.ok (.ret (.ref ra))) { s with heap := h', toks := tk }) :
    codeS (model PySem.Challenge.rw_xw0352_01.prog w) ⟨hdl, dep, some (env :: outer), gd, un⟩ (.call (.ref 1161) ⟨[.ref x, .int 251 ts, .bytes b tb, .bool false], []⟩) R s := by
  subst hh
  subst hn
  have hR := h
  clear h
  have hbl : (b.toList != (#[] : Array UInt8).toList) = true := by
    obtain ⟨l⟩ := b
    cases l with
    | nil => exact absurd hb0 (by decide)
    | cons c l => rfl
  have z1 : @LT.lt Nat _ dx ba := Nat.lt_trans o1 o2
  have n1 : @Ne Nat x dx := Nat.ne_of_gt o1
  have n2 : @Ne Nat x ba := Nat.ne_of_lt o2
  have n3 : @Ne Nat dx ba := Nat.ne_of_lt z1
  have z2 : @LT.lt Nat _ ba am := Nat.lt_trans o3 o4
  have n4 : @Ne Nat da ba := Nat.ne_of_gt o3
  have n5 : @Ne Nat am ba := Nat.ne_of_gt z2
  have n7 : @Ne Nat da dx := Nat.ne_of_gt (Nat.lt_trans z1 o3)
  have n8 : @Ne Nat am dx := Nat.ne_of_gt (Nat.lt_trans z1 z2)
  revert X; k_fill; intro X
  refine' codeS_def (binds := [("self", .ref x), ("seq", .int 251 ts), ("octets", .bytes b tb), ("has_fin", .bool false)]) ?k1 ?k2 ?k3 ?k4 ?k5 ?kA ?kF ?kK ?k6 ?k7 ?k8 ?k9 ?kB ?_ ?c2 ?c3 ?c4 ?c5
  case kA => exact rfl
  case kF => exact hf
  case kK => exact hke
  case k1 => exact B
  case k2 => exact F
  case k3 => exact X
  case k4 => exact N
  case k5 => exact T
  case k6 => k_is
  case k7 => k_is
  case k8 => exact Nat.lt_trans hd (by decide)
  case k9 => first | exact BindsTo.of_eq rfl | exact binds_K (by k_in) rfl (by k_is) rfl rfl rfl
  case c5 => decide
  case kB => exact locs rfl
  case c2 => exact rfl
  case c3 => exact rfl
  case c4 => exact rfl
  k_whole
  intro g' L' h' FG' F' N' B' X' T'
  clear F N B X T
  try dsimp only
  refine wpS_execs_any ?_
  k_fold
  k_steps
  refine wpS_execs_any ?_
  k_fold
  k_steps
  refine Stop.mk ?_
  rename News _ _ _ _ => N9
  rename Fr _ _ _ _ => F9
  refine' wpAny_call (c_let_in ?hb ?hx ?hdx (hd := ?hd) (hu := ?hu) B' F9 X' N9 T' rfl rfl ?_)
  case hb => exact hb
  case hd => show dep + 1 < 465; exact lin (k := 1) hd (by decide)
  case hu => show un + 3 < 1200; exact lin (k := 3) hu (by decide)
  case hx => k_mem
  case hdx => k_mem
  intro h9 tk9 tb2 F10 N10
  clear F9 N9
  dsimp only
  k_steps
  refine wpS_execs_any ?_
  k_fold
  k_steps
  refine wpS_execs_any ?_
  k_fold
  k_steps
  refine wpS_execs_any ?_
  k_fold
  k_steps
  refine Stop.mk ?_
  rename News _ _ _ _ => N9
  rename Fr _ _ _ _ => F9
  refine' wpAny_call (c_put (pl := pl) hb hb0 (Nat.ne_of_gt o4) (Nat.ne_of_gt (Nat.lt_trans o4 o5)) ?hr rfl rfl (hd := ?hd) (hu := ?hu) B' F9 X' N9 T' rfl rfl ?_)
  case hd => show dep + 1 < 485; exact lin (k := 1) hd (by decide)
  case hu => show un + 3 < 1400; exact lin (k := 3) hu (by decide)
  case hr => exact List.forall_mem_cons.mpr ⟨Nat.ne_of_lt o3, List.forall_mem_cons.mpr ⟨Nat.ne_of_lt (Nat.lt_trans o2 o3), List.forall_mem_cons.mpr ⟨Nat.ne_of_lt (Nat.lt_trans o1 (Nat.lt_trans o2 o3)), fun q hq => Nat.ne_of_lt (Nat.lt_trans (hrest q hq) (Nat.lt_trans o1 (Nat.lt_trans o2 o3)))⟩⟩⟩
  intro h8 tk8 r tp t0 tb3 n F11 q1 q2 q3 q4 N11
  have e1 : @LT.lt Nat _ am r := q1
  have e2 : @LT.lt Nat _ r tp := q4
  have y1 : @LT.lt Nat _ ba r := Nat.lt_trans z2 e1
  have y2 : @LT.lt Nat _ dx r := Nat.lt_trans z1 y1
  have r1 : @Ne Nat r dx := Nat.ne_of_gt y2
  have r2 : @Ne Nat r ba := Nat.ne_of_gt y1
  have r3 : @Ne Nat tp dx := Nat.ne_of_gt (Nat.lt_trans y2 e2)
  have r4 : @Ne Nat tp ba := Nat.ne_of_gt (Nat.lt_trans y1 e2)
  have r5 : @Ne Nat am r := Nat.ne_of_lt e1
  have r6 : @Ne Nat da r := Nat.ne_of_lt (Nat.lt_trans o4 e1)
  have r7 : @Ne Nat ba r := Nat.ne_of_lt y1
  have r8 : @Ne Nat dx r := Nat.ne_of_lt y2
  have r9 : @Ne Nat x r := Nat.ne_of_lt (Nat.lt_trans o2 y1)
  clear F9 N9
  dsimp only
  k_steps
  refine wpS_execs_cons (wpS_Assign_Name ?_)
  refine evalS_Call_Attr rfl rfl rfl ?_
  change wpAny _ _ (eval _ _) _ _ _
  k_fold
  k_steps
  rename Fr _ _ _ _ => F8
  refine' callWithS_K0 (K := K w.params) ?kx ?kk ?_
  case kx => exact X'.keeps F8.keep
  case kk => k_is
  dsimp only [List.cons_append, List.nil_append, List.append_nil]
  rename News _ _ _ _ => N9
  rename Fr _ _ _ _ => F9
  refine' wpS_call (c_gather_one (pl := r) (am := am) (da := da) (ba := ba) hb hb0 e2 ?n1 ?n2 ?n3 ?n4 ?n5 ?n6 ?p1 ?p2 ?p3 ?p4 ?p5 ?p6 ?p7 ?p8 ?p9 ?p10 ?p11 ?p12 ?p13 rfl rfl (hd := ?hd) (hu := ?hu) B' F9 X' N9 T' rfl rfl ?_)
  case hd => show dep + 1 < 465; exact lin (k := 1) hd (by decide)
  case hu => show un + 3 < 1200; exact lin (k := 3) hu (by decide)
  case n1 => k_ne
  case n2 => k_ne
  case n3 => k_ne
  case n4 => k_ne
  case n5 => k_ne
  case p12 => k_ne
  case p13 => k_ne
  case n6 => exact fun q hq => Nat.ne_of_lt (q3 q (by repeat' first | exact hq | apply List.Mem.tail))
  case p1 => k_ne
  case p2 => k_ne
  case p3 => k_ne
  case p4 => k_ne
  case p5 => k_ne
  case p7 => k_ne
  case p8 => k_ne
  case p9 => k_ne
  case p10 => k_ne
  case p6 => exact fun q hq => Nat.ne_of_lt (Nat.lt_trans (hrest q hq) (Nat.lt_trans o1 o2))
  case p11 => exact fun q hq => Nat.ne_of_lt (hrest q hq)
  intro h7 tk7 nx tr F12 N12
  clear F9 N9
  dsimp only
  change wpAny _ _ _ _ _ _
  k_fold
  k_steps
  refine wpS_any ?_
  k_fold
  k_steps
  refine leaveK_ (by k_asm) (by k_asm) ?_
  intro kF kN
  refine' hR _ _ _ _ kF (List.forall_mem_cons.mpr ⟨kN _ (by k_mem), List.forall_mem_cons.mpr ⟨kN _ (by k_mem), List.forall_mem_cons.mpr ⟨kN _ (by k_mem), fun z hz => kN z (by repeat' first | exact hz | apply List.Mem.tail)⟩⟩⟩)
end
end Mine.Internal
end TCArr
section TCCtor2
open PySem PySem.W PyProof.Rows PySem.Calls
set_option Elab.async false
set_option maxRecDepth 100000
set_option maxHeartbeats 8000000
namespace Mine.Internal
section
variable {w : World} {A₀ : Around} {hdl : Option Value} {dep un : Nat} {gd : Option (List Code)} {E : Value → Shared → Prop} {s : Shared} {h₀ base : Heap} {L : Addr} {m mg mb : Str → Option Value} {news : List (Addr × Obj)} {p : Program} {loose : List Str} {mean : ExcName → Option Value}
  {env : Env} {outer : List Env} {R : Result → Shared → Prop}
theorem c_cong_init {x dx : Addr} {rest : List (Addr × Obj)} (hr : ∀ q ∈ rest, q.1 ≠ dx) (hxd : @Ne Nat x dx) {a0 a1 a2 : Value}  (hn : news = (x, instObj 268 dx) :: (dx, dictOf [] 0) :: rest)
    (B : Below A₀ base outer h₀) (F : Fr h₀ L s.heap m) (X : (K w.params).In h₀) (N : News h₀ L s.heap news) (T : Top p loose mean mg mb h₀) (hf : env.frame = some L) (hke : env.scope.kind = .function) (hd : dep < 525) (hu : un < 1700)
    (h : ∀ h' tk u0 u1 u2 u3 u4 u5 u6 u7 v_most v_size v_threshold v_gathered v_duplicates v_is_recovering v_is_cautious, Fr h₀ L h' m → News h₀ L h' ((x, instObj 268 dx) :: (dx, dictOf [dE w.params "mss" u0 (a0), dE w.params "most" u1 (v_most), dE w.params "size" u2 (v_size), dE w.params "threshold" u3 (v_threshold), dE w.params "gathered" u4 (v_gathered), dE w.params "duplicates" u5 (v_duplicates), dE w.params "is_recovering" u6 (v_is_recovering), dE w.params "is_cautious" u7 (v_is_cautious)] 8) :: rest) → R (.ok (.ret .none)) { s with heap := h', toks := tk }) :
    codeAny (model PySem.Challenge.rw_xw0352_01.prog w) ⟨hdl, dep, some (env :: outer), gd, un⟩ (.call (.ref 195) ⟨[.ref x, a0, a1, a2], []⟩) R s := by
  skip
  subst hn
  revert X; k_fill; intro X
  refine' code_def (binds := [("self", .ref x), ("mss", a0), ("first", a1), ("most", a2)]) ?k1 ?k2 ?k3 ?k4 ?k5 ?kA ?kF ?kK ?k6 ?k7 ?k8 ?k9 ?kB ?_ ?c2 ?c3 ?c4 ?c5
  case kA => exact rfl
  case kF => exact hf
  case kK => exact hke
  case k1 => exact B
  case k2 => exact F
  case k3 => exact X
  case k4 => exact N
  case k5 => exact T
  case k6 => k_is
  case k7 => k_is
  case k8 => exact Nat.lt_trans hd (by decide)
  case k9 => first | exact BindsTo.of_eq rfl | exact binds_K (by k_in) rfl (by k_is) rfl rfl rfl
  case c5 => decide
  case kB => exact locs rfl
  case c2 => exact rfl
  case c3 => exact rfl
  case c4 => exact rfl
  k_whole
  intro g' L' h' FG' F' N' B' X' T'
  clear F N B X T
  try dsimp only
  change wpAny _ _ _ _ _ _
  k_fold
  k_steps
  exact leaveK_ (by k_asm) (by k_asm) fun kF kN => h _ _ _ _ _ _ _ _ _ _ _ _ _ _ _ _ _ kF kN
theorem c_cong_new {a0 a1 a2 : Value} 
    (B : Below A₀ base outer h₀) (F : Fr h₀ L s.heap m) (X : (K w.params).In h₀) (N : News h₀ L s.heap news) (T : Top p loose mean mg mb h₀) (hf : env.frame = some L) (hke : env.scope.kind = .function) (hd : dep < 505) (hu : un < 1500)
    (h : ∀ x dx h' tk u0 u1 u2 u3 u4 u5 u6 u7 v_most v_size v_threshold v_gathered v_duplicates v_is_recovering v_is_cautious, Fr h₀ L h' m → (∀ q ∈ news, q.1 < dx) → dx < x → News h₀ L h' ((x, instObj 268 dx) :: (dx, dictOf [dE w.params "mss" u0 (a0), dE w.params "most" u1 (v_most), dE w.params "size" u2 (v_size), dE w.params "threshold" u3 (v_threshold), dE w.params "gathered" u4 (v_gathered), dE w.params "duplicates" u5 (v_duplicates), dE w.params "is_recovering" u6 (v_is_recovering), dE w.params "is_cautious" u7 (v_is_cautious)] 8) :: news) → R (.ok (.ret (.ref x))) { s with heap := h', toks := tk }) :
    codeAny (model PySem.Challenge.rw_xw0352_01.prog w) ⟨hdl, dep, some (env :: outer), gd, un⟩ (.call (.ref 268) ⟨[a0, a1, a2], []⟩) R s := by
  revert X; k_fill; intro X
  refine make_K F N (X.keeps F.keep) (by k_is) (by k_is) (by k_is) (fun x dx h' F' N' l1 l2 => ?_)
  refine c_cong_init (A₀ := A₀) (base := base) (mg := mg) (mb := mb) (p := p) (loose := loose) (mean := mean) (fun q hq => Nat.ne_of_lt (l1 q hq)) (Nat.ne_of_gt l2)  rfl B F' X N' T hf hke (show dep + 1 < 525 from lin (k := 1) hd (by decide)) (show un + 1 < 1700 from lin (k := 1) hu (by decide)) ?_
  intro h2 tk2 u0 u1 u2 u3 u4 u5 u6 u7 v_most v_size v_threshold v_gathered v_duplicates v_is_recovering v_is_cautious F2 N2
  exact ⟨rfl, h x dx h2 tk2 u0 u1 u2 u3 u4 u5 u6 u7 v_most v_size v_threshold v_gathered v_duplicates v_is_recovering v_is_cautious F2 l1 l2 N2⟩
theorem c_acks_init {x dx : Addr} {rest : List (Addr × Obj)} (hr : ∀ q ∈ rest, q.1 ≠ dx) (hxd : @Ne Nat x dx) {a0 : Value}  (hn : news = (x, instObj 177 dx) :: (dx, dictOf [] 0) :: rest)
    (B : Below A₀ base outer h₀) (F : Fr h₀ L s.heap m) (X : (K w.params).In h₀) (N : News h₀ L s.heap news) (T : Top p loose mean mg mb h₀) (hf : env.frame = some L) (hke : env.scope.kind = .function) (hd : dep < 525) (hu : un < 1700)
    (h : ∀ h' tk u0 u1 u2 u3 v_waiting v_due v_has_gap, Fr h₀ L h' m → News h₀ L h' ((x, instObj 177 dx) :: (dx, dictOf [dE w.params "delay" u0 (a0), dE w.params "waiting" u1 (v_waiting), dE w.params "due" u2 (v_due), dE w.params "has_gap" u3 (v_has_gap)] 4) :: rest) → R (.ok (.ret .none)) { s with heap := h', toks := tk }) :
    codeAny (model PySem.Challenge.rw_xw0352_01.prog w) ⟨hdl, dep, some (env :: outer), gd, un⟩ (.call (.ref 138) ⟨[.ref x, a0], []⟩) R s := by
  skip
  subst hn
  revert X; k_fill; intro X
  refine' code_def (binds := [("self", .ref x), ("delay", a0)]) ?k1 ?k2 ?k3 ?k4 ?k5 ?kA ?kF ?kK ?k6 ?k7 ?k8 ?k9 ?kB ?_ ?c2 ?c3 ?c4 ?c5
  case kA => exact rfl
  case kF => exact hf
  case kK => exact hke
  case k1 => exact B
  case k2 => exact F
  case k3 => exact X
  case k4 => exact N
  case k5 => exact T
  case k6 => k_is
  case k7 => k_is
  case k8 => exact Nat.lt_trans hd (by decide)
  case k9 => first | exact BindsTo.of_eq rfl | exact binds_K (by k_in) rfl (by k_is) rfl rfl rfl
  case c5 => decide
  case kB => exact locs rfl
  case c2 => exact rfl
  case c3 => exact rfl
  case c4 => exact rfl
  k_whole
  intro g' L' h' FG' F' N' B' X' T'
  clear F N B X T
  try dsimp only
  change wpAny _ _ _ _ _ _
  k_fold
  k_steps
  exact leaveK_ (by k_asm) (by k_asm) fun kF kN => h _ _ _ _ _ _ _ _ _ kF kN
theorem c_acks_new {a0 : Value} 
    (B : Below A₀ base outer h₀) (F : Fr h₀ L s.heap m) (X : (K w.params).In h₀) (N : News h₀ L s.heap news) (T : Top p loose mean mg mb h₀) (hf : env.frame = some L) (hke : env.scope.kind = .function) (hd : dep < 505) (hu : un < 1500)
    (h : ∀ x dx h' tk u0 u1 u2 u3 v_waiting v_due v_has_gap, Fr h₀ L h' m → (∀ q ∈ news, q.1 < dx) → dx < x → News h₀ L h' ((x, instObj 177 dx) :: (dx, dictOf [dE w.params "delay" u0 (a0), dE w.params "waiting" u1 (v_waiting), dE w.params "due" u2 (v_due), dE w.params "has_gap" u3 (v_has_gap)] 4) :: news) → R (.ok (.ret (.ref x))) { s with heap := h', toks := tk }) :
    codeAny (model PySem.Challenge.rw_xw0352_01.prog w) ⟨hdl, dep, some (env :: outer), gd, un⟩ (.call (.ref 177) ⟨[a0], []⟩) R s := by
  revert X; k_fill; intro X
  refine make_K F N (X.keeps F.keep) (by k_is) (by k_is) (by k_is) (fun x dx h' F' N' l1 l2 => ?_)
  refine c_acks_init (A₀ := A₀) (base := base) (mg := mg) (mb := mb) (p := p) (loose := loose) (mean := mean) (fun q hq => Nat.ne_of_lt (l1 q hq)) (Nat.ne_of_gt l2)  rfl B F' X N' T hf hke (show dep + 1 < 525 from lin (k := 1) hd (by decide)) (show un + 1 < 1700 from lin (k := 1) hu (by decide)) ?_
  intro h2 tk2 u0 u1 u2 u3 v_waiting v_due v_has_gap F2 N2
  exact ⟨rfl, h x dx h2 tk2 u0 u1 u2 u3 v_waiting v_due v_has_gap F2 l1 l2 N2⟩
theorem c_clock {x dx : Addr} {z0 z1 z2 z3 z4 z5 z6 z7 z8 z9 : Int} {y0 y1 y2 y3 y4 y5 y6 y7 y8 y9 : Tok} {u0 u1 u2 u3 u4 u5 u6 u7 u8 u9 : Tok} (hx : (x, instObj 884 dx) ∈ news) (hdx : (dx, limO w.params u0 u1 u2 u3 u4 u5 u6 u7 u8 u9 (.int z0 y0) (.int z1 y1) (.int z2 y2) (.int z3 y3) (.int z4 y4) (.int z5 y5) (.int z6 y6) (.int z7 y7) (.int z8 y8) (.int z9 y9)) ∈ news)
    (B : Below A₀ base outer h₀) (F : Fr h₀ L s.heap m) (X : (K w.params).In h₀) (N : News h₀ L s.heap news) (T : Top p loose mean mg mb h₀) (hf : env.frame = some L) (hke : env.scope.kind = .function) (hd : dep < 465) (hu : un < 1200)
    (h : ∀ h' tk c, Fr h₀ L h' m → News h₀ L h' news → R (.ok (.ret (.ref c))) { s with heap := h', toks := tk }) :
    codeAny (model PySem.Challenge.rw_xw0352_01.prog w) ⟨hdl, dep, some (env :: outer), gd, un⟩ (.call (.ref 895) ⟨[.ref x], []⟩) R s := by
  revert X; k_fill; intro X
  refine' code_def (binds := [("limits", .ref x)]) ?k1 ?k2 ?k3 ?k4 ?k5 ?kA ?kF ?kK ?k6 ?k7 ?k8 ?k9 ?kB ?_ ?c2 ?c3 ?c4 ?c5
  case kA => exact rfl
  case kF => exact hf
  case kK => exact hke
  case k1 => exact B
  case k2 => exact F
  case k3 => exact X
  case k4 => exact N
  case k5 => exact T
  case k6 => k_is
  case k7 => k_is
  case k8 => exact Nat.lt_trans hd (by decide)
  case k9 => first | exact BindsTo.of_eq rfl | exact binds_K (by k_in) rfl (by k_is) rfl rfl rfl
  case c5 => decide
  case kB => exact locs rfl
  case c2 => exact rfl
  case c3 => exact rfl
  case c4 => exact rfl
  k_whole
  intro g' L' h' FG' F' N' B' X' T'
  clear F N B X T
  try dsimp only
  have N2 := news_more2 N' hx hdx
  clear N'
  change wpAny _ _ _ _ _ _
  k_fold
  k_steps
  refine leaveK_ (by k_asm) (by k_asm) ?_
  intro kF kN
  exact h _ _ _ kF (fun p hp => kN p (by repeat' first | exact hp | apply List.Mem.tail))
end
end Mine.Internal
end TCCtor2
section TCSender
open PySem PySem.W PyProof.Rows PySem.Calls
set_option Elab.async false
set_option maxRecDepth 100000
set_option maxHeartbeats 8000000
namespace Mine.Internal
section
variable {w : World} {A₀ : Around} {hdl : Option Value} {dep un : Nat} {gd : Option (List Code)} {E : Value → Shared → Prop} {s : Shared} {h₀ base : Heap} {L : Addr} {m mg mb : Str → Option Value} {news : List (Addr × Obj)} {p : Program} {loose : List Str} {mean : ExcName → Option Value}
  {env : Env} {outer : List Env} {R : Result → Shared → Prop}
theorem c_sender_init {x dx : Addr} {rest : List (Addr × Obj)} {iss ring mss r : Int} {ti tg tm tr : Tok} (hr : ∀ q ∈ rest, q.1 ≠ dx) (hxd : @Ne Nat x dx) (hrm : 1 ≤ r) (hn : news = (x, instObj 690 dx) :: (dx, dictOf [] 0) :: rest)
    (B : Below A₀ base outer h₀) (F : Fr h₀ L s.heap m) (X : (K w.params).In h₀) (N : News h₀ L s.heap news) (T : Top p loose mean mg mb h₀) (hf : env.frame = some L) (hke : env.scope.kind = .function) (hd : dep < 485) (hu : un < 1400)
    (h : ∀ h' tk q dq w0 w1 th u0 u1 u2 u3 u4 u5 u6 u7 u8 u9 u10 v_iss v_ring v_mss v_una v_next v_greatest v_peer v_syn_pending v_fin_sent, Fr h₀ L h' m → (∀ p ∈ rest, p.1 < dq) → dq < q → dx < dq → x < dq → News h₀ L h' ((q, instObj 457 dq) :: (dq, dictOf [dE w.params "room" w0 (.int r tr), dE w.params "held" w1 (.bytes #[] th)] 2) :: (x, instObj 690 dx) :: (dx, sndO w.params u0 u1 u2 u3 u4 u5 u6 u7 u8 u9 u10 v_iss v_ring v_mss v_una v_next v_greatest v_peer (.ref q) v_syn_pending (.bool false) v_fin_sent) :: rest) → R (.ok (.ret .none)) { s with heap := h', toks := tk }) :
    codeAny (model PySem.Challenge.rw_xw0352_01.prog w) ⟨hdl, dep, some (env :: outer), gd, un⟩ (.call (.ref 517) ⟨[.ref x, .int iss ti, .int ring tg, .int mss tm, .int r tr], []⟩) R s := by
  subst hn
  revert X; k_fill; intro X
  refine' code_def (binds := [("self", .ref x), ("iss", .int iss ti), ("ring", .int ring tg), ("mss", .int mss tm), ("room", .int r tr)]) ?k1 ?k2 ?k3 ?k4 ?k5 ?kA ?kF ?kK ?k6 ?k7 ?k8 ?k9 ?kB ?_ ?c2 ?c3 ?c4 ?c5
  case kA => exact rfl
  case kF => exact hf
  case kK => exact hke
  case k1 => exact B
  case k2 => exact F
  case k3 => exact X
  case k4 => exact N
  case k5 => exact T
  case k6 => k_is
  case k7 => k_is
  case k8 => exact Nat.lt_trans hd (by decide)
  case k9 => first | exact BindsTo.of_eq rfl | exact binds_K (by k_in) rfl (by k_is) rfl rfl rfl
  case c5 => decide
  case kB => exact locs rfl
  case c2 => exact rfl
  case c3 => exact rfl
  case c4 => exact rfl
  k_whole
  intro g' L' h' FG' F' N' B' X' T'
  clear F N B X T
  try dsimp only
  change wpAny _ _ _ _ _ _
  k_fold
  k_steps
  refine Stop.mk ?_
  rename News _ _ _ _ => N9
  rename Fr _ _ _ _ => F9
  refine wpAny_call (c_peer_new (hd := ?hd) (hu := ?hu) B' F9 X' N9 T' rfl rfl ?_)
  case hd => show dep + 1 < 505; exact lin (k := 1) hd (by decide)
  case hu => show un + 3 < 1500; exact lin (k := 3) hu (by decide)
  intro xp dp h2 tk2 _ _ _ _ _ _ _ _ _ F10 _ _ N10
  replace N10 := news_tail2 N10
  clear F9 N9
  dsimp only
  k_steps
  refine Stop.mk ?_
  rename News _ _ _ _ => N9
  rename Fr _ _ _ _ => F9
  refine wpAny_call (c_queue_new (hd := ?hd) (hu := ?hu) hrm B' F9 X' N9 T' rfl rfl ?_)
  case hd => show dep + 1 < 505; exact lin (k := 1) hd (by decide)
  case hu => show un + 3 < 1500; exact lin (k := 3) hu (by decide)
  intro q dq h3 tk3 w0 w1 th F11 q1 q2 N11
  clear F9 N9
  have q3 : @LT.lt Nat _ x dq := q1 (x, _) (.head _)
  have q4 : @LT.lt Nat _ dx dq := q1 (dx, _) (.tail _ (.head _))
  have q5 : @LT.lt Nat _ dq q := q2
  dsimp only
  k_steps
  refine leaveK_ (by k_asm) (by k_asm) ?_
  intro kF kN
  exact h _ _ _ _ _ _ _ _ _ _ _ _ _ _ _ _ _ _ _ _ _ _ _ _ _ _ _ kF (fun p hp => q1 p (.tail _ (.tail _ hp))) q2 q4 q3 kN
theorem c_sender_new {iss ring mss r : Int} {ti tg tm tr : Tok} (hrm : 1 ≤ r)
    (B : Below A₀ base outer h₀) (F : Fr h₀ L s.heap m) (X : (K w.params).In h₀) (N : News h₀ L s.heap news) (T : Top p loose mean mg mb h₀) (hf : env.frame = some L) (hke : env.scope.kind = .function) (hd : dep < 465) (hu : un < 1200)
    (h : ∀ x dx h' tk q dq w0 w1 th u0 u1 u2 u3 u4 u5 u6 u7 u8 u9 u10 v_iss v_ring v_mss v_una v_next v_greatest v_peer v_syn_pending v_fin_sent, Fr h₀ L h' m → (∀ p ∈ news, p.1 < dx) → dx < x → x < dq → dq < q → News h₀ L h' ((q, instObj 457 dq) :: (dq, dictOf [dE w.params "room" w0 (.int r tr), dE w.params "held" w1 (.bytes #[] th)] 2) :: (x, instObj 690 dx) :: (dx, sndO w.params u0 u1 u2 u3 u4 u5 u6 u7 u8 u9 u10 v_iss v_ring v_mss v_una v_next v_greatest v_peer (.ref q) v_syn_pending (.bool false) v_fin_sent) :: news) → R (.ok (.ret (.ref x))) { s with heap := h', toks := tk }) :
    codeAny (model PySem.Challenge.rw_xw0352_01.prog w) ⟨hdl, dep, some (env :: outer), gd, un⟩ (.call (.ref 690) ⟨[.int iss ti, .int ring tg, .int mss tm, .int r tr], []⟩) R s := by
  revert X; k_fill; intro X
  refine make_K F N (X.keeps F.keep) (by k_is) (by k_is) (by k_is) (fun x dx h' F' N' l1 l2 => ?_)
  refine c_sender_init (A₀ := A₀) (base := base) (mg := mg) (mb := mb) (p := p) (loose := loose) (mean := mean) (fun q hq => Nat.ne_of_lt (l1 q hq)) (Nat.ne_of_gt l2) hrm rfl B F' X N' T hf hke (show dep + 1 < 485 from lin (k := 1) hd (by decide)) (show un + 1 < 1400 from lin (k := 1) hu (by decide)) ?_
  intro h2 tk2 q dq w0 w1 th u0 u1 u2 u3 u4 u5 u6 u7 u8 u9 u10 v_iss v_ring v_mss v_una v_next v_greatest v_peer v_syn_pending v_fin_sent F2 q1 q2 q3 q4 N2
  exact ⟨rfl, h x dx h2 tk2 q dq w0 w1 th u0 u1 u2 u3 u4 u5 u6 u7 u8 u9 u10 v_iss v_ring v_mss v_una v_next v_greatest v_peer v_syn_pending v_fin_sent F2 l1 l2 q4 q2 N2⟩
end
end Mine.Internal
end TCSender
section TEmpt
open PySem PySem.W PySem.Calls PyProof.Rows
set_option Elab.async false
set_option maxRecDepth 100000
set_option maxHeartbeats 4000000
namespace Mine.Internal
section
variable {prog : Program} {w : World} {A : Around} {E : Value → Shared → Prop} {s : Shared} {env : Env} {h₀ : Heap} {L : Addr} {m : Str → Option Value} {news : List (Addr × Obj)} {Q : Value → Shared → Prop} {scope : Scope} {x : Str} {pos : Pos}
/-- a comprehension of sixteen empty lists -/
theorem comp_empties {r : Addr} {t u v : Tok} (hr : IsRange s.heap r 0 16 1 t u v) (hh : A.handled = none) (F : Fr h₀ L s.heap m) (N : News h₀ L s.heap news)
    (hQ : ∀ D h' tk, Fr h₀ L h' m → News h₀ L h' news → Q (.ref D) { s with heap := h', toks := tk }) :
    wpAny (model prog w) A (pyIter (.ref r)) (CompPost prog w A env scope x [] (.List [] pos) Q) E s := by
  refine wpAny_pyIter_range hr (by decide) ?_
  refine ⟨fun _ => true, fun _ _ => True, s.heap.objs.size, _, [s.heap.objs.size], 16, _, _, rfl, Walks.range hh s.heap.objs.size 0 1 16, by size_fits, ?_, ?_, ⟨?_, ?_⟩, ?_⟩
  · exact Heap.get?_push_size _ rfl
  · intro b hb
    rw [List.mem_singleton.mp hb]
    show _ < (s.heap.push _).objs.size
    rw [Heap.size_push]; exact Nat.lt_succ_self _
  · intro C i v s₃ m₃ E' _ _ _ _ _
    simp only [List.forIn_nil]
    exact wpAny_pure ⟨rfl, s₃.heap, s₃.toks, rfl, fun _ _ e => e⟩
  · intro C i v s₃ m₃ E' _ _ _ _ _ _
    rw [arm_eval_List]
    refine wpAny_bind (wpAny_standAt (wpAny_bind (m := spliced _) (wpAny_mono (M := model prog w) (Q := fun vs s' => vs = [] ∧ s' = s₃) (E := E') (wpAny_pure ⟨rfl, rfl⟩) (fun vs s' q => ?_) fun _ _ q => q)))
    obtain ⟨rfl, hs⟩ := q; subst hs
    exact wpAny_newList ⟨trivial, _, _, rfl, fun b o e => Heap.get?_push_of_some _ e⟩
  · intro D h' tk ys vs hnew hlD hplD hlen hP hF hk
    have up : ∀ b o', s.heap.get? b = some o' → h'.get? b = some o' := fun b o' e => hk b o' (not_iter_of_old e) (Heap.get?_push_of_some _ e)
    exact hQ D h' tk (F.keeps up) (N.grown up)
end
end Mine.Internal
end TEmpt
section TCWheel
open PySem PySem.W PyProof.Rows PySem.Calls
set_option Elab.async false
set_option maxRecDepth 100000
set_option maxHeartbeats 8000000
namespace Mine.Internal
section
variable {w : World} {A₀ : Around} {hdl : Option Value} {dep un : Nat} {gd : Option (List Code)} {E : Value → Shared → Prop} {s : Shared} {h₀ base : Heap} {L : Addr} {m mg mb : Str → Option Value} {news : List (Addr × Obj)} {p : Program} {loose : List Str} {mean : ExcName → Option Value}
  {env : Env} {outer : List Env} {R : Result → Shared → Prop}
theorem c_wheel_init {x dx : Addr} {rest : List (Addr × Obj)} (hr : ∀ q ∈ rest, q.1 ≠ dx) (hxd : @Ne Nat x dx) (hh : hdl = none) (hn : news = (x, instObj 863 dx) :: (dx, dictOf [] 0) :: rest)
    (B : Below A₀ base outer h₀) (F : Fr h₀ L s.heap m) (X : (K w.params).In h₀) (N : News h₀ L s.heap news) (T : Top p loose mean mg mb h₀) (hf : env.frame = some L) (hke : env.scope.kind = .function) (hd : dep < 625) (hu : un < 2200)
    (h : ∀ h' tk e eo u0 u1 u2 u3 u4 u5 v_size v_slots v_late v_reached v_given, Fr h₀ L h' m → Obj.IsDictOf (intKind PySem.Challenge.rw_xw0352_01.prog w) eo [] → (e == sysModules) = false →  (∀ q ∈ rest, q.1 < e) → x < e → dx < e → News h₀ L h' ((e, eo) :: (x, instObj 863 dx) :: (dx, whlO w.params u0 u1 u2 u3 u4 u5 v_size v_slots v_late (.ref e) v_reached v_given) :: rest) → R (.ok (.ret .none)) { s with heap := h', toks := tk }) :
    codeAny (model PySem.Challenge.rw_xw0352_01.prog w) ⟨hdl, dep, some (env :: outer), gd, un⟩ (.call (.ref 813) ⟨[.ref x], []⟩) R s := by
  subst hh
  subst hn
  revert X; k_fill; intro X
  refine' code_def ?k1 ?k2 ?k3 ?k4 ?k5 ?kA ?kF ?kK ?k6 ?k7 ?k8 ?k9 ?kB ?_ ?c2 ?c3 ?c4 ?c5
  case kA => exact rfl
  case kF => exact hf
  case kK => exact hke
  case k1 => exact B
  case k2 => exact F
  case k3 => exact X
  case k4 => exact N
  case k5 => exact T
  case k6 => k_is
  case k7 => k_is
  case k8 => exact Nat.lt_trans hd (by decide)
  case k9 => first | exact BindsTo.of_eq rfl | exact binds_K (by k_in) rfl (by k_is) rfl rfl rfl
  case c5 => decide
  case kB => exact locs rfl
  case c2 => exact rfl
  case c3 => exact rfl
  case c4 => exact rfl
  k_whole
  intro g' L' h' FG' F' N' B' X' T'
  clear F N B X T
  try dsimp only
  change wpAny _ _ _ _ _ _
  k_fold
  k_steps
  refine Stop.mk ?_
  refine ListComp_rowsP (by decide) (by decide) rfl (by decide) rfl ?_
  k_fold
  k_steps
  refine Stop.mk ?_
  rename IsRange _ _ _ _ _ _ _ _ => hrng
  rename News _ _ _ _ => N9
  rename Fr _ _ _ _ => F9
  refine comp_empties hrng rfl F9 N9 ?_
  intro D h9 tk9 F10 N10
  clear F9 N9 hrng
  k_steps
  rename Obj.IsDictOf _ _ _ => hid
  rename (_ == sysModules) = false => hsm
  rename _ ∧ _ => hlt
  refine leaveK_ (by k_asm) (by k_asm) ?_
  intro kF kN
  refine h _ _ _ _ _ _ _ _ _ _ _ _ _ _ _ kF hid hsm (fun q hq => allLt_get hlt.2.2.2 q hq) hlt.2.1 hlt.2.2.1 (List.forall_mem_cons.mpr ⟨kN _ (.head _), List.forall_mem_cons.mpr ⟨kN _ (.tail _ (.tail _ (.head _))), List.forall_mem_cons.mpr ⟨kN _ (.tail _ (.tail _ (.tail _ (.head _)))), fun q hq => kN q (.tail _ (.tail _ (.tail _ (.tail _ hq))))⟩⟩⟩)
theorem c_wheel_new (hh : hdl = none)
    (B : Below A₀ base outer h₀) (F : Fr h₀ L s.heap m) (X : (K w.params).In h₀) (N : News h₀ L s.heap news) (T : Top p loose mean mg mb h₀) (hf : env.frame = some L) (hke : env.scope.kind = .function) (hd : dep < 605) (hu : un < 2000)
    (h : ∀ x dx h' tk e eo u0 u1 u2 u3 u4 u5 v_size v_slots v_late v_reached v_given, Fr h₀ L h' m → Obj.IsDictOf (intKind PySem.Challenge.rw_xw0352_01.prog w) eo [] → (e == sysModules) = false →  (∀ q ∈ news, q.1 < dx) → dx < x → x < e → News h₀ L h' ((e, eo) :: (x, instObj 863 dx) :: (dx, whlO w.params u0 u1 u2 u3 u4 u5 v_size v_slots v_late (.ref e) v_reached v_given) :: news) → R (.ok (.ret (.ref x))) { s with heap := h', toks := tk }) :
    codeAny (model PySem.Challenge.rw_xw0352_01.prog w) ⟨hdl, dep, some (env :: outer), gd, un⟩ (.call (.ref 863) ⟨[], []⟩) R s := by
  revert X; k_fill; intro X
  refine make_K F N (X.keeps F.keep) (by k_is) (by k_is) (by k_is) (fun x dx h' F' N' l1 l2 => ?_)
  refine c_wheel_init (A₀ := A₀) (base := base) (mg := mg) (mb := mb) (p := p) (loose := loose) (mean := mean) (fun q hq => Nat.ne_of_lt (l1 q hq)) (Nat.ne_of_gt l2) hh rfl B F' X N' T hf hke (show dep + 1 < 625 from lin (k := 1) hd (by decide)) (show un + 1 < 2200 from lin (k := 1) hu (by decide)) ?_
  intro h2 tk2 e eo u0 u1 u2 u3 u4 u5 v_size v_slots v_late v_reached v_given F2 q1 q2 q3 q4 q5 N2
  exact ⟨rfl, h x dx h2 tk2 e eo u0 u1 u2 u3 u4 u5 v_size v_slots v_late v_reached v_given F2 q1 q2 l1 l2 q4 N2⟩
end
end Mine.Internal
end TCWheel
section TCTcb
open PySem PySem.W PyProof.Rows PySem.Calls
set_option Elab.async false
set_option maxRecDepth 100000
set_option maxHeartbeats 8000000
namespace Mine.Internal
section
variable {w : World} {A₀ : Around} {hdl : Option Value} {dep un : Nat} {gd : Option (List Code)} {E : Value → Shared → Prop} {s : Shared} {h₀ base : Heap} {L : Addr} {m mg mb : Str → Option Value} {news : List (Addr × Obj)} {p : Program} {loose : List Str} {mean : ExcName → Option Value}
  {env : Env} {outer : List Env} {R : Result → Shared → Prop}
theorem news_sub {h : Heap} {g : Heap} {l l' : List (Addr × Obj)} (N : News g L h l) (hs : ∀ p ∈ l', p ∈ l) : News g L h l' := fun p hp => N p (hs p hp)
theorem c_tcb_init {x dx xl dl : Addr} {rest : List (Addr × Obj)} {z0 z1 z2 z3 z4 z5 z6 z7 z8 z9 : Int} {y0 y1 y2 y3 y4 y5 y6 y7 y8 y9 : Tok} {l0 l1 l2 l3 l4 l5 l6 l7 l8 l9 : Tok} {lo re : Value} {is : Int} {ti : Tok} (hr : ∀ q ∈ rest, q.1 ≠ dx) (hxd : @Ne Nat x dx) (hld : @Ne Nat xl dx) (hld2 : @Ne Nat dl dx) (hrm : 1 ≤ z2) (hh : hdl = none)
    (hn : news = (x, instObj 927 dx) :: (dx, dictOf [] 0) :: (xl, instObj 884 dl) :: (dl, limO w.params l0 l1 l2 l3 l4 l5 l6 l7 l8 l9 (.int z0 y0) (.int z1 y1) (.int z2 y2) (.int z3 y3) (.int z4 y4) (.int z5 y5) (.int z6 y6) (.int z7 y7) (.int z8 y8) (.int z9 y9)) :: rest)
    (B : Below A₀ base outer h₀) (F : Fr h₀ L s.heap m) (X : (K w.params).In h₀) (N : News h₀ L s.heap news) (T : Top p loose mean mg mb h₀) (hf : env.frame = some L) (hke : env.scope.kind = .function) (hd : dep < 445) (hu : un < 1000)
    (h : ∀ h' tk ts u0 u1 u2 u3 u4 u5 u6 u7 u8 u9 u10 u11 u12 u13 v_limits v_local v_remote v_clock v_congestion v_acks v_probes v_unanswered v_is_nagle e eo xw dw a0 a1 a2 a3 a4 a5 vw_size vw_slots vw_late vw_reached vw_given q dq w0 w1 vq_room th xs ds s0 s1 s2 s3 s4 s5 s6 s7 s8 s9 s10 vs_iss vs_ring vs_mss vs_una vs_next vs_greatest vs_peer vs_syn_pending vs_fin_sent, Fr h₀ L h' m → Obj.IsDictOf (intKind PySem.Challenge.rw_xw0352_01.prog w) eo [] → (e == sysModules) = false →  dx < ds → ds < xs → xs < dq → dq < q → q < dw → dw < xw → xw < e → (∀ p ∈ rest, p.1 < ds) → x < ds → News h₀ L h' ((e, eo) :: (xw, instObj 863 dw) :: (dw, whlO w.params a0 a1 a2 a3 a4 a5 vw_size vw_slots vw_late (.ref e) vw_reached vw_given) :: (q, instObj 457 dq) :: (dq, dictOf [dE w.params "room" w0 (vq_room), dE w.params "held" w1 (.bytes #[] th)] 2) :: (xs, instObj 690 ds) :: (ds, sndO w.params s0 s1 s2 s3 s4 s5 s6 s7 s8 s9 s10 vs_iss vs_ring vs_mss vs_una vs_next vs_greatest vs_peer (.ref q) vs_syn_pending (.bool false) vs_fin_sent) :: (x, instObj 927 dx) :: (dx, tcbO w.params u0 u1 u2 u3 u4 u5 u6 u7 u8 u9 u10 u11 u12 u13 v_limits v_local v_remote (.str "closed" ts) (.ref xs) (.none) v_clock v_congestion v_acks (.ref xw) (.none) v_probes v_unanswered v_is_nagle) :: rest) → R (.ok (.ret .none)) { s with heap := h', toks := tk }) :
    codeAny (model PySem.Challenge.rw_xw0352_01.prog w) ⟨hdl, dep, some (env :: outer), gd, un⟩ (.call (.ref 909) ⟨[.ref x, .ref xl, lo, re, .int is ti], []⟩) R s := by
  subst hh
  subst hn
  revert X; k_fill; intro X
  refine' code_def (binds := [("self", .ref x), ("limits", .ref xl), ("local", lo), ("remote", re), ("iss", .int is ti)]) ?k1 ?k2 ?k3 ?k4 ?k5 ?kA ?kF ?kK ?k6 ?k7 ?k8 ?k9 ?kB ?_ ?c2 ?c3 ?c4 ?c5
  case kA => exact rfl
  case kF => exact hf
  case kK => exact hke
  case k1 => exact B
  case k2 => exact F
  case k3 => exact X
  case k4 => exact N
  case k5 => exact T
  case k6 => k_is
  case k7 => k_is
  case k8 => exact Nat.lt_trans hd (by decide)
  case k9 => first | exact BindsTo.of_eq rfl | exact binds_K (by k_in) rfl (by k_is) rfl rfl rfl
  case c5 => decide
  case kB => exact locs rfl
  case c2 => exact rfl
  case c3 => exact rfl
  case c4 => exact rfl
  k_whole
  intro g' L' h' FG' F' N' B' X' T'
  clear F N B X T
  try dsimp only
  change wpAny _ _ _ _ _ _
  k_fold
  k_steps
  refine Stop.mk ?_
  rename News _ _ _ _ => N9
  rename Fr _ _ _ _ => F9
  refine wpAny_call (c_sender_new hrm (hd := ?hd) (hu := ?hu) B' F9 X' N9 T' rfl rfl ?_)
  case hd => show dep + 1 < 465; exact lin (k := 1) hd (by decide)
  case hu => show un + 3 < 1200; exact lin (k := 3) hu (by decide)
  intro xs ds h2 tk2 q dq w0 w1 th s0 s1 s2 s3 s4 s5 s6 s7 s8 s9 s10 vs_iss vs_ring vs_mss vs_una vs_next vs_greatest vs_peer vs_syn_pending vs_fin_sent F10 hs1 hs2 hs3 hs4 N10
  clear F9 N9
  have e1 : @LT.lt Nat _ dx ds := hs1 _ (.tail _ (.head _))
  have e2 : @LT.lt Nat _ x ds := hs1 _ (.head _)
  have e3 : @LT.lt Nat _ ds xs := hs2
  have e4 : @LT.lt Nat _ xs dq := hs3
  have e5 : @LT.lt Nat _ dq q := hs4
  have z1 : @LT.lt Nat _ dx xs := Nat.lt_trans e1 e3
  have z2 : @LT.lt Nat _ dx dq := Nat.lt_trans z1 e4
  have n1 : @Ne Nat ds dx := Nat.ne_of_gt e1
  have n2 : @Ne Nat xs dx := Nat.ne_of_gt z1
  have n3 : @Ne Nat dq dx := Nat.ne_of_gt z2
  have n4 : @Ne Nat q dx := Nat.ne_of_gt (Nat.lt_trans z2 e5)
  dsimp only
  k_steps
  refine Stop.mk ?_
  rename News _ _ _ _ => N9
  rename Fr _ _ _ _ => F9
  refine wpAny_call (c_clock (by k_mem) (by k_mem) (hd := ?hd) (hu := ?hu) B' F9 X' N9 T' rfl rfl ?_)
  case hd => show dep + 1 < 465; exact lin (k := 1) hd (by decide)
  case hu => show un + 3 < 1200; exact lin (k := 3) hu (by decide)
  intro h3 tk3 cc F11 N11
  clear F9 N9
  dsimp only
  k_steps
  refine Stop.mk ?_
  rename News _ _ _ _ => N9
  rename Fr _ _ _ _ => F9
  refine wpAny_call (c_cong_new (hd := ?hd) (hu := ?hu) B' F9 X' N9 T' rfl rfl ?_)
  case hd => show dep + 1 < 505; exact lin (k := 1) hd (by decide)
  case hu => show un + 3 < 1500; exact lin (k := 3) hu (by decide)
  intro xg dg h4 tk4 _ _ _ _ _ _ _ _ _ _ _ _ _ _ _ F12 _ _ N12
  replace N12 := news_tail2 N12
  clear F9 N9
  dsimp only
  k_steps
  refine Stop.mk ?_
  rename News _ _ _ _ => N9
  rename Fr _ _ _ _ => F9
  refine wpAny_call (c_acks_new (hd := ?hd) (hu := ?hu) B' F9 X' N9 T' rfl rfl ?_)
  case hd => show dep + 1 < 505; exact lin (k := 1) hd (by decide)
  case hu => show un + 3 < 1500; exact lin (k := 3) hu (by decide)
  intro xa da h5 tk5 _ _ _ _ _ _ _ F13 _ _ N13
  replace N13 := news_tail2 N13
  clear F9 N9
  dsimp only
  k_steps
  refine Stop.mk ?_
  rename News _ _ _ _ => N9
  rename Fr _ _ _ _ => F9
  refine wpAny_call (c_wheel_new rfl (hd := ?hd) (hu := ?hu) B' F9 X' N9 T' rfl rfl ?_)
  case hd => show dep + 1 < 605; exact lin (k := 1) hd (by decide)
  case hu => show un + 3 < 2000; exact lin (k := 3) hu (by decide)
  intro xw dw h6 tk6 e eo a0 a1 a2 a3 a4 a5 vw_size vw_slots vw_late vw_reached vw_given F14 hid hsm hw1 hw2 hw3 N14
  clear F9 N9
  have e6 : @LT.lt Nat _ dx dw := hw1 (dx, _) (by k_mem)
  have e7 : @LT.lt Nat _ q dw := hw1 (q, _) (by k_mem)
  have e8 : @LT.lt Nat _ dw xw := hw2
  have e9 : @LT.lt Nat _ xw e := hw3
  have z3 : @LT.lt Nat _ dx xw := Nat.lt_trans e6 e8
  have n5 : @Ne Nat dw dx := Nat.ne_of_gt e6
  have n6 : @Ne Nat xw dx := Nat.ne_of_gt z3
  have n7 : @Ne Nat e dx := Nat.ne_of_gt (Nat.lt_trans z3 e9)
  dsimp only
  k_steps
  refine leaveK_ (by k_asm) (by k_asm) ?_
  intro kF kN
  refine' h _ _ _ _ _ _ _ _ _ _ _ _ _ _ _ _ _ _ _ _ _ _ _ _ _ _ e eo xw dw a0 a1 a2 a3 a4 a5 vw_size vw_slots vw_late vw_reached vw_given q dq w0 w1 _ th xs ds s0 s1 s2 s3 s4 s5 s6 s7 s8 s9 s10 vs_iss vs_ring vs_mss vs_una vs_next vs_greatest vs_peer vs_syn_pending vs_fin_sent kF hid hsm e1 e3 e4 e5 e7 e8 e9 (fun p hp => hs1 p (by repeat' first | exact hp | apply List.Mem.tail)) e2 ?hN
  case hN => refine List.forall_mem_cons.mpr ⟨kN _ (.head _), List.forall_mem_cons.mpr ⟨kN _ (.tail _ (.head _)), List.forall_mem_cons.mpr ⟨kN _ (.tail _ (.tail _ (.head _))), List.forall_mem_cons.mpr ⟨kN _ (by k_mem), List.forall_mem_cons.mpr ⟨kN _ (by k_mem), List.forall_mem_cons.mpr ⟨kN _ (by k_mem), List.forall_mem_cons.mpr ⟨kN _ (by k_mem), List.forall_mem_cons.mpr ⟨kN _ (by k_mem), List.forall_mem_cons.mpr ⟨kN _ (by k_mem), fun z hz => kN z (by repeat' first | exact hz | apply List.Mem.tail)⟩⟩⟩⟩⟩⟩⟩⟩⟩
theorem c_tcb_new {xl dl : Addr} {rest : List (Addr × Obj)} {z0 z1 z2 z3 z4 z5 z6 z7 z8 z9 : Int} {y0 y1 y2 y3 y4 y5 y6 y7 y8 y9 : Tok} {l0 l1 l2 l3 l4 l5 l6 l7 l8 l9 : Tok} {lo re : Value} {is : Int} {ti : Tok} (hrm : 1 ≤ z2) (hh : hdl = none)
    (hn : news = (xl, instObj 884 dl) :: (dl, limO w.params l0 l1 l2 l3 l4 l5 l6 l7 l8 l9 (.int z0 y0) (.int z1 y1) (.int z2 y2) (.int z3 y3) (.int z4 y4) (.int z5 y5) (.int z6 y6) (.int z7 y7) (.int z8 y8) (.int z9 y9)) :: rest)
    (B : Below A₀ base outer h₀) (F : Fr h₀ L s.heap m) (X : (K w.params).In h₀) (N : News h₀ L s.heap news) (T : Top p loose mean mg mb h₀) (hf : env.frame = some L) (hke : env.scope.kind = .function) (hd : dep < 425) (hu : un < 900)
    (h : ∀ x dx h' tk ts u0 u1 u2 u3 u4 u5 u6 u7 u8 u9 u10 u11 u12 u13 v_limits v_local v_remote v_clock v_congestion v_acks v_probes v_unanswered v_is_nagle e eo xw dw a0 a1 a2 a3 a4 a5 vw_size vw_slots vw_late vw_reached vw_given q dq w0 w1 vq_room th xs ds s0 s1 s2 s3 s4 s5 s6 s7 s8 s9 s10 vs_iss vs_ring vs_mss vs_una vs_next vs_greatest vs_peer vs_syn_pending vs_fin_sent, Fr h₀ L h' m → Obj.IsDictOf (intKind PySem.Challenge.rw_xw0352_01.prog w) eo [] → (e == sysModules) = false →  dx < x → x < ds → ds < xs → xs < dq → dq < q → q < dw → dw < xw → xw < e → (∀ p ∈ rest, p.1 < dx) → News h₀ L h' ((e, eo) :: (xw, instObj 863 dw) :: (dw, whlO w.params a0 a1 a2 a3 a4 a5 vw_size vw_slots vw_late (.ref e) vw_reached vw_given) :: (q, instObj 457 dq) :: (dq, dictOf [dE w.params "room" w0 (vq_room), dE w.params "held" w1 (.bytes #[] th)] 2) :: (xs, instObj 690 ds) :: (ds, sndO w.params s0 s1 s2 s3 s4 s5 s6 s7 s8 s9 s10 vs_iss vs_ring vs_mss vs_una vs_next vs_greatest vs_peer (.ref q) vs_syn_pending (.bool false) vs_fin_sent) :: (x, instObj 927 dx) :: (dx, tcbO w.params u0 u1 u2 u3 u4 u5 u6 u7 u8 u9 u10 u11 u12 u13 v_limits v_local v_remote (.str "closed" ts) (.ref xs) (.none) v_clock v_congestion v_acks (.ref xw) (.none) v_probes v_unanswered v_is_nagle) :: rest) → R (.ok (.ret (.ref x))) { s with heap := h', toks := tk }) :
    codeAny (model PySem.Challenge.rw_xw0352_01.prog w) ⟨hdl, dep, some (env :: outer), gd, un⟩ (.call (.ref 927) ⟨[.ref xl, lo, re, .int is ti], []⟩) R s := by
  subst hn
  revert X; k_fill; intro X
  refine make_K F N (X.keeps F.keep) (by k_is) (by k_is) (by k_is) (fun x dx h' F' N' l1 l2 => ?_)
  refine c_tcb_init (A₀ := A₀) (base := base) (mg := mg) (mb := mb) (p := p) (loose := loose) (mean := mean) (fun q hq => Nat.ne_of_lt (l1 q (.tail _ (.tail _ hq)))) (Nat.ne_of_gt l2) (Nat.ne_of_lt (l1 (xl, _) (.head _))) (Nat.ne_of_lt (l1 (dl, _) (.tail _ (.head _)))) hrm hh rfl B F' X N' T hf hke (show dep + 1 < 445 from lin (k := 1) hd (by decide)) (show un + 1 < 1000 from lin (k := 1) hu (by decide)) ?_
  intro h2 tk2 ts u0 u1 u2 u3 u4 u5 u6 u7 u8 u9 u10 u11 u12 u13 v_limits v_local v_remote v_clock v_congestion v_acks v_probes v_unanswered v_is_nagle e eo xw dw a0 a1 a2 a3 a4 a5 vw_size vw_slots vw_late vw_reached vw_given q dq w0 w1 vq_room th xs ds s0 s1 s2 s3 s4 s5 s6 s7 s8 s9 s10 vs_iss vs_ring vs_mss vs_una vs_next vs_greatest vs_peer vs_syn_pending vs_fin_sent F2 f1 f2 q1 q2 q3 q4 q5 q6 q7 q8 q9 N2
  exact ⟨rfl, h x dx h2 tk2 ts u0 u1 u2 u3 u4 u5 u6 u7 u8 u9 u10 u11 u12 u13 v_limits v_local v_remote v_clock v_congestion v_acks v_probes v_unanswered v_is_nagle e eo xw dw a0 a1 a2 a3 a4 a5 vw_size vw_slots vw_late vw_reached vw_given q dq w0 w1 vq_room th xs ds s0 s1 s2 s3 s4 s5 s6 s7 s8 s9 s10 vs_iss vs_ring vs_mss vs_una vs_next vs_greatest vs_peer vs_syn_pending vs_fin_sent F2 f1 f2 l2 q9 q2 q3 q4 q5 q6 q7 (fun p hp => l1 p (.tail _ (.tail _ hp))) N2⟩
end
end Mine.Internal
end TCTcb
section TLoopT
open PySem PySem.W PySem.Calls PyProof.Rows
set_option Elab.async false
set_option maxRecDepth 100000
set_option maxHeartbeats 4000000
namespace Mine.Internal
open Sem (wp)
section
variable {prog : Program} {w : World} {A : Around} {E : Value → Shared → Prop} {s : Shared} {R : Result → Shared → Prop} {x : Str} {px : Pos} {body : List Stmt} {env : Env}
/-- a loop over a list in the heap, by an invariant over the heap at each turn -/
theorem forTup_any {it l : Addr} {items : Array Value} (J : Nat → Shared → Prop) (hh : A.handled = none)
    (hJ : ∀ i s', J i s' → s'.heap.IsTupleIter it l i ∧ s'.heap.IsTuple l items)
    (turn : ∀ i v s' h₁, items[i]? = some v → J i s' → h₁.IsTupleIter it l (i + 1) → Heap.SameBut it s'.heap h₁ →
      wpAny (model prog w) A (storeName env x v) (fun _ s₂ => wpAny (model prog w) A (execs body env) (fun f s₃ => match f with
          | .next | .cont => J (i + 1) s₃
          | .brk => R (.ok .next) s₃
          | .ret v => R (.ok (.ret v)) s₃) (notedBy (model prog w) A env fun e s' => R (.error e) s') s₂) (notedBy (model prog w) A env fun e s' => R (.error e) s') { s' with heap := h₁ })
    (done : ∀ s' h₁, J items.size s' → Heap.ExtBut it s'.heap h₁ → R (.ok .next) { s' with heap := h₁ }) (h0 : J 0 s) :
    codeAny (model prog w) A (.forLoop (.Name x px) (.ref it) body [] env) R s := by
  refine codeAny_forLoop (fun n s' => ∃ i, n = items.size + 1 - i ∧ i ≤ items.size ∧ J i s') ?_ (items.size + 1) ⟨0, rfl, Nat.zero_le _, h0⟩
  rintro n s' ⟨i, rfl, hi, hj⟩
  obtain ⟨h1, h2⟩ := hJ i s' hj
  by_cases hlt : i < items.size
  · refine wpAny_pyNext_tuple_item h1 h2 (x := items[i]) (by simp [hlt]) fun h₁ hit hs => ?_
    dsimp only
    refine wpAny_assign_Name (wpAny_mono (turn i _ s' h₁ (by simp [hlt]) hj hit hs) (fun _ s₂ q => wpAny_mono q (fun f s₃ q => ?_) fun _ _ q => q) fun _ _ q => q)
    cases f with
    | next => exact ⟨items.size + 1 - (i + 1), by omega, i + 1, rfl, hlt, q⟩
    | cont => exact ⟨items.size + 1 - (i + 1), by omega, i + 1, rfl, hlt, q⟩
    | brk => exact q
    | ret v => exact q
  · obtain rfl : i = items.size := by omega
    refine wpAny_pyNext_tuple_end hh h1 h2 (by simp) fun h₁ hx => ?_
    dsimp only
    exact wpAny_execs_nil (done s' h₁ hj hx)
end
section
variable {h₀ h h₁ : Heap} {L it l : Addr} {m : Str → Option Value} {news : List (Addr × Obj)} {i : Nat}
noncomputable abbrev tupO (items : Array Value) (n : Nat) : Obj := { cls := .type "tuple", data := .seq items n }
noncomputable abbrev itObjT (l : Addr) (i : Nat) : Obj := { cls := .type "tuple_iterator", data := .fields #[.ref l, .int i 0] }
end
section
variable {prog : Program} {w : World} {A : Around} {E : Value → Shared → Prop} {s : Shared} {R : Result → Shared → Prop} {x : Str} {px : Pos} {body : List Stmt} {env : Env} {g' : Heap} {L' l : Addr} {m' : Str → Option Value} {lst : List (Addr × Obj)} {items : Array Value} {n : Nat}
theorem for_turnsT (J : Nat → Heap → (Str → Option Value) → List (Addr × Obj) → Prop) (hh : A.handled = none) (F : Fr g' L' s.heap m') (N : News g' L' s.heap ((l, tupO items n) :: lst))
    (turn : ∀ it itO i v g₁ m₁ led h tk, L' < it → l < it → (∀ q ∈ lst, q.1 < it) → items[i]? = some v → J i g₁ m₁ led → (∀ q ∈ led, q.1 ≠ it) → Fr g₁ L' h m₁ → News g₁ L' h ((it, itO) :: (l, tupO items n) :: led) →
      wpAny (model prog w) A (storeName env x v) (fun _ s₂ => wpAny (model prog w) A (execs body env) (fun f s₃ => match f with
          | .next | .cont => TurnEnd (J (i + 1)) s L' (it, itO) (l, tupO items n) s₃
          | .brk => R (.ok .next) s₃
          | .ret v => R (.ok (.ret v)) s₃) (notedBy (model prog w) A env fun e s' => R (.error e) s') s₂) (notedBy (model prog w) A env fun e s' => R (.error e) s') { s with heap := h, toks := tk })
    (done : ∀ g₁ m₁ led h tk, J items.size g₁ m₁ led → Fr g₁ L' h m₁ → News g₁ L' h ((l, tupO items n) :: led) → R (.ok .next) { s with heap := h, toks := tk })
    (h0 : J 0 g' m' lst) :
    wpAny (model prog w) A (pyIter (.ref l)) (fun it s₂ => codeAny (model prog w) A (.forLoop (.Name x px) it body [] env) R s₂) E s := by
  have hl0 := N _ (.head _)
  have lts : ∀ q ∈ lst, q.1 < s.heap.objs.size := fun q hq => Heap.lt_size (N q (.tail _ hq)).1
  have ltl : l < s.heap.objs.size := Heap.lt_size hl0.1
  have ltL : L' < s.heap.objs.size := F.ns.lt
  refine wpAny_pyIter_tuple ⟨_, hl0.1, rfl, _, rfl⟩ ?_
  refine forTup_any (l := l) (items := items) (fun i s' => TurnMid (J i) s L' (l, tupO items n) (.type "tuple_iterator") (.fields #[.ref l, .int i 0]) s') hh ?_ ?_ ?_ ?_
  · rintro i s' ⟨h, tk, g₁, m₁, led, itO, rfl, hj, hne, F₁, N₁, hc, hd⟩
    exact ⟨⟨_, (N₁ _ (.head _)).1, hc, hd⟩, ⟨_, (N₁ _ (.tail _ (.head _))).1, rfl, _, rfl⟩⟩
  · rintro i v s' h₁ hv ⟨h, tk, g₁, m₁, led, itO, rfl, hj, hne, F₁, N₁, hc, hd⟩ ⟨o', ho', hc', hd'⟩ hs
    have hi := N₁ _ (.head _)
    have hall : ∀ q ∈ ((l, tupO items n) :: led), q.1 ≠ s.heap.objs.size := fun q hq => by
      rcases List.mem_cons.mp hq with rfl | hq
      · exact Nat.ne_of_lt ltl
      · exact hne q hq
    have N₂ : News g₁ L' h₁ ((s.heap.objs.size, o') :: (l, tupO items n) :: led) := fun q hq => by
      rcases List.mem_cons.mp hq with rfl | hq
      · exact ⟨ho', hi.2⟩
      · exact news_it N₁ hall hs q hq
    refine wpAny_mono (turn _ o' i v g₁ m₁ led h₁ tk ltL ltl lts hv hj hne (fr_it F₁ hi.2.2 hi.2.1 hs) N₂) (fun _ s₂ q => wpAny_mono q (fun f s₃ q => ?_) fun _ _ q => q) fun _ _ q => q
    have conv : (TurnEnd (J (i + 1)) s L' (s.heap.objs.size, o') (l, tupO items n) s₃) →
        TurnMid (J (i + 1)) s L' (l, tupO items n) (.type "tuple_iterator") (.fields #[.ref l, .int ((i + 1 : Nat) : Int) 0]) s₃ := by
      rintro ⟨g₂, m₂, led₂, h₂, tk₂, e, j, f, n', d⟩
      exact ⟨h₂, tk₂, g₂, m₂, led₂, o', e, j, d, f, n', hc', hd'⟩
    cases f with
    | next => exact conv q
    | cont => exact conv q
    | brk => exact q
    | ret v => exact q
  · rintro s' h₁ ⟨h, tk, g₁, m₁, led, itO, rfl, hj, hne, F₁, N₁, hc, hd⟩ hs
    have hi := N₁ _ (.head _)
    have hall : ∀ q ∈ ((l, tupO items n) :: led), q.1 ≠ s.heap.objs.size := fun q hq => by
      rcases List.mem_cons.mp hq with rfl | hq
      · exact Nat.ne_of_lt ltl
      · exact hne q hq
    exact done g₁ m₁ led h₁ tk hj (fr_ext F₁ hi.2.2 hi.2.1 hs) (news_ext N₁ hall hs)
  · have NN := N.push F (itObjT l 0)
    exact ⟨_, s.toks, g', m', lst, itObjT l 0, rfl, h0, fun q hq => Nat.ne_of_lt (lts q hq), F.push _, NN, rfl, rfl⟩
end
end Mine.Internal
end TLoopT
section TCClosed
open PySem PySem.W PyProof.Rows PySem.Calls
set_option Elab.async false
set_option maxRecDepth 100000
set_option maxHeartbeats 8000000
namespace Mine.Internal
section
variable {w : World} {A₀ : Around} {hdl : Option Value} {dep un : Nat} {gd : Option (List Code)} {E : Value → Shared → Prop} {s : Shared} {h₀ base : Heap} {L : Addr} {m mg mb : Str → Option Value} {news : List (Addr × Obj)} {p : Program} {loose : List Str} {mean : ExcName → Option Value}
  {env : Env} {outer : List Env} {R : Result → Shared → Prop}
theorem ints_at {a0 a1 a2 a3 : Int} {t0 t1 t2 t3 : Tok} {i : Nat} {v : Value} (h : (#[Value.int a0 t0, .int a1 t1, .int a2 t2, .int a3 t3] : Array Value)[i]? = some v) : ∃ k t, v = .int k t := by
  match i with
  | 0 | 1 | 2 | 3 => exact ⟨_, _, (Option.some.inj h).symm⟩
  | n + 4 => exact nomatch (show (none : Option Value) = some v from h)
theorem c_closed_none {x dx : Addr} {u0 u1 u2 u3 u4 u5 u6 u7 u8 u9 u10 u11 u12 u13 : Tok} {v_limits v_local v_remote v_state v_sender v_receiver v_clock v_congestion v_acks v_probes v_unanswered v_is_nagle : Value} {e xw dw : Addr} {eo : Obj} {a0 a1 a2 a3 a4 a5 : Tok} {vw_size vw_slots vw_late vw_reached vw_given : Value} {rest : List (Addr × Obj)} (hr : ∀ q ∈ rest, q.1 ≠ dx) (hxd : @Ne Nat x dx) (h1 : @Ne Nat e dx) (h2 : @Ne Nat xw dx) (h3 : @Ne Nat dw dx) (hh : hdl = none)
    (hid : Obj.IsDictOf (intKind PySem.Challenge.rw_xw0352_01.prog w) eo []) (hsm : (e == sysModules) = false) (hn : news = (e, eo) :: (xw, instObj 863 dw) :: (dw, whlO w.params a0 a1 a2 a3 a4 a5 vw_size vw_slots vw_late (.ref e) vw_reached vw_given) :: (x, instObj 927 dx) :: (dx, tcbO w.params u0 u1 u2 u3 u4 u5 u6 u7 u8 u9 u10 u11 u12 u13 v_limits v_local v_remote v_state v_sender v_receiver v_clock v_congestion v_acks (.ref xw) (.none) v_probes v_unanswered v_is_nagle) :: rest)
    (B : Below A₀ base outer h₀) (F : Fr h₀ L s.heap m) (X : (K w.params).In h₀) (N : News h₀ L s.heap news) (T : Top p loose mean mg mb h₀) (hf : env.frame = some L) (hke : env.scope.kind = .function) (hd : dep < 605) (hu : un < 2000)
    (h : ∀ h' tk ts, Fr h₀ L h' m → News h₀ L h' ((e, eo) :: (xw, instObj 863 dw) :: (dw, whlO w.params a0 a1 a2 a3 a4 a5 vw_size vw_slots vw_late (.ref e) vw_reached vw_given) :: (x, instObj 927 dx) :: (dx, tcbO w.params u0 u1 u2 u3 u4 u5 u6 u7 u8 u9 u10 u11 u12 u13 v_limits v_local v_remote (.str "closed" ts) v_sender v_receiver v_clock v_congestion v_acks (.ref xw) (.none) v_probes v_unanswered v_is_nagle) :: rest) → R (.ok (.ret .none)) { s with heap := h', toks := tk }) :
    codeAny (model PySem.Challenge.rw_xw0352_01.prog w) ⟨hdl, dep, some (env :: outer), gd, un⟩ (.call (.ref 938) ⟨[.ref x, .none], []⟩) R s := by
  subst hh
  subst hn
  have hfl : PyProof.V.FlatPairs PyData.int [] [] := by constructor
  revert X; k_fill; intro X
  refine' code_def (binds := [("tcb", .ref x), ("error", .none)]) ?k1 ?k2 ?k3 ?k4 ?k5 ?kA ?kF ?kK ?k6 ?k7 ?k8 ?k9 ?kB ?_ ?c2 ?c3 ?c4 ?c5
  case kA => exact rfl
  case kF => exact hf
  case kK => exact hke
  case k1 => exact B
  case k2 => exact F
  case k3 => exact X
  case k4 => exact N
  case k5 => exact T
  case k6 => k_is
  case k7 => k_is
  case k8 => exact Nat.lt_trans hd (by decide)
  case k9 => first | exact BindsTo.of_eq rfl | exact binds_K (by k_in) rfl (by k_is) rfl rfl rfl
  case c5 => decide
  case kB => exact locs rfl
  case c2 => exact rfl
  case c3 => exact rfl
  case c4 => exact rfl
  k_whole
  intro g' L' h' FG' F' N' B' X' T'
  clear F N B X T
  try dsimp only
  change wpAny _ _ _ _ _ _
  k_fold
  k_steps
  refine Stop.mk ?_
  refine wpAny_For ?_
  k_fold
  k_steps
  refine Stop.mk ?_
  rename News _ _ _ _ => N9
  rename Fr _ _ _ _ => F9
  refine for_turnsT (fun i g₁ m₁ led => g₁ = g' ∧ m₁ "tcb" = some (.ref x) ∧ led = (e, eo) :: (xw, instObj 863 dw) :: (dw, whlO w.params a0 a1 a2 a3 a4 a5 vw_size vw_slots vw_late (.ref e) vw_reached vw_given) :: (x, instObj 927 dx) :: (dx, tcbO w.params u0 u1 u2 u3 u4 u5 u6 u7 u8 u9 u10 u11 u12 u13 v_limits v_local v_remote (.str "closed" 1191) v_sender v_receiver v_clock v_congestion v_acks (.ref xw) (.none) v_probes v_unanswered v_is_nagle) :: rest) rfl F9 N9 ?_ ?_ ⟨rfl, rfl, rfl⟩
  · intro it itO i v g₁ m₁ led h₁ tk₁ hLit hlit hlst hv hJ hne F₁ N₁
    obtain ⟨hg, hme, hled⟩ := hJ
    subst hg
    subst hled
    clear F9 N9
    obtain ⟨k, t, rfl⟩ := ints_at hv
    refine storeX_L (fr_map F₁ hme) N₁ ?_
    intro h₂ F₂ N₂
    clear F₁ N₁
    change wpAny _ _ _ _ _ _
    k_fold
    k_steps
    rename News _ _ _ _ => N8
    rename Fr _ _ _ _ => F8
    exact ⟨_, _, _, _, _, rfl, ⟨rfl, rfl, rfl⟩, F8, N8, hne⟩
  · intro g₁ m₁ led h₁ tk₁ hJ F₁ N₁
    obtain ⟨hg, hme, hled⟩ := hJ
    subst hg
    subst hled
    clear F9 N9
    change wpAny _ _ _ _ _ _
    k_steps
    refine leaveK_ F₁ N₁ ?_
    intro kF kN
    exact h _ _ _ kF (news_tail kN)
theorem c_closed_err (er : Er) {te : Tok} {x dx : Addr} {u0 u1 u2 u3 u4 u5 u6 u7 u8 u9 u10 u11 u12 u13 : Tok} {v_limits v_local v_remote v_state v_sender v_receiver v_clock v_congestion v_acks v_probes v_unanswered v_is_nagle : Value} {e xw dw : Addr} {eo : Obj} {a0 a1 a2 a3 a4 a5 : Tok} {vw_size vw_slots vw_late vw_reached vw_given : Value} {rest : List (Addr × Obj)} (hr : ∀ q ∈ rest, q.1 ≠ dx) (hxd : @Ne Nat x dx) (h1 : @Ne Nat e dx) (h2 : @Ne Nat xw dx) (h3 : @Ne Nat dw dx) (hh : hdl = none)
    (hid : Obj.IsDictOf (intKind PySem.Challenge.rw_xw0352_01.prog w) eo []) (hsm : (e == sysModules) = false) (hn : news = (e, eo) :: (xw, instObj 863 dw) :: (dw, whlO w.params a0 a1 a2 a3 a4 a5 vw_size vw_slots vw_late (.ref e) vw_reached vw_given) :: (x, instObj 927 dx) :: (dx, tcbO w.params u0 u1 u2 u3 u4 u5 u6 u7 u8 u9 u10 u11 u12 u13 v_limits v_local v_remote v_state v_sender v_receiver v_clock v_congestion v_acks (.ref xw) (.none) v_probes v_unanswered v_is_nagle) :: rest)
    (B : Below A₀ base outer h₀) (F : Fr h₀ L s.heap m) (X : (K w.params).In h₀) (N : News h₀ L s.heap news) (T : Top p loose mean mg mb h₀) (hf : env.frame = some L) (hke : env.scope.kind = .function) (hd : dep < 605) (hu : un < 2000)
    (h : ∀ h' tk ts, Fr h₀ L h' m → News h₀ L h' ((e, eo) :: (xw, instObj 863 dw) :: (dw, whlO w.params a0 a1 a2 a3 a4 a5 vw_size vw_slots vw_late (.ref e) vw_reached vw_given) :: (x, instObj 927 dx) :: (dx, tcbO w.params u0 u1 u2 u3 u4 u5 u6 u7 u8 u9 u10 u11 u12 u13 v_limits v_local v_remote (.str "closed" ts) v_sender v_receiver v_clock v_congestion v_acks (.ref xw) (.str er.text te) v_probes v_unanswered v_is_nagle) :: rest) → R (.ok (.ret .none)) { s with heap := h', toks := tk }) :
    codeAny (model PySem.Challenge.rw_xw0352_01.prog w) ⟨hdl, dep, some (env :: outer), gd, un⟩ (.call (.ref 938) ⟨[.ref x, .str er.text te], []⟩) R s := by
  subst hh
  subst hn
  have hfl : PyProof.V.FlatPairs PyData.int [] [] := by constructor
  revert X; k_fill; intro X
  refine' code_def (binds := [("tcb", .ref x), ("error", .str er.text te)]) ?k1 ?k2 ?k3 ?k4 ?k5 ?kA ?kF ?kK ?k6 ?k7 ?k8 ?k9 ?kB ?_ ?c2 ?c3 ?c4 ?c5
  case kA => exact rfl
  case kF => exact hf
  case kK => exact hke
  case k1 => exact B
  case k2 => exact F
  case k3 => exact X
  case k4 => exact N
  case k5 => exact T
  case k6 => k_is
  case k7 => k_is
  case k8 => exact Nat.lt_trans hd (by decide)
  case k9 => first | exact BindsTo.of_eq rfl | exact binds_K (by k_in) rfl (by k_is) rfl rfl rfl
  case c5 => decide
  case kB => exact locs rfl
  case c2 => exact rfl
  case c3 => exact rfl
  case c4 => exact rfl
  k_whole
  intro g' L' h' FG' F' N' B' X' T'
  clear F N B X T
  try dsimp only
  change wpAny _ _ _ _ _ _
  k_fold
  k_steps
  refine Stop.mk ?_
  refine wpAny_For ?_
  k_fold
  k_steps
  refine Stop.mk ?_
  rename News _ _ _ _ => N9
  rename Fr _ _ _ _ => F9
  refine for_turnsT (fun i g₁ m₁ led => g₁ = g' ∧ m₁ "tcb" = some (.ref x) ∧ led = (e, eo) :: (xw, instObj 863 dw) :: (dw, whlO w.params a0 a1 a2 a3 a4 a5 vw_size vw_slots vw_late (.ref e) vw_reached vw_given) :: (x, instObj 927 dx) :: (dx, tcbO w.params u0 u1 u2 u3 u4 u5 u6 u7 u8 u9 u10 u11 u12 u13 v_limits v_local v_remote (.str "closed" 1191) v_sender v_receiver v_clock v_congestion v_acks (.ref xw) (.str er.text te) v_probes v_unanswered v_is_nagle) :: rest) rfl F9 N9 ?_ ?_ ⟨rfl, rfl, rfl⟩
  · intro it itO i v g₁ m₁ led h₁ tk₁ hLit hlit hlst hv hJ hne F₁ N₁
    obtain ⟨hg, hme, hled⟩ := hJ
    subst hg
    subst hled
    clear F9 N9
    obtain ⟨k, t, rfl⟩ := ints_at hv
    refine storeX_L (fr_map F₁ hme) N₁ ?_
    intro h₂ F₂ N₂
    clear F₁ N₁
    change wpAny _ _ _ _ _ _
    k_fold
    k_steps
    rename News _ _ _ _ => N8
    rename Fr _ _ _ _ => F8
    exact ⟨_, _, _, _, _, rfl, ⟨rfl, rfl, rfl⟩, F8, N8, hne⟩
  · intro g₁ m₁ led h₁ tk₁ hJ F₁ N₁
    obtain ⟨hg, hme, hled⟩ := hJ
    subst hg
    subst hled
    clear F9 N9
    change wpAny _ _ _ _ _ _
    k_steps
    refine leaveK_ F₁ N₁ ?_
    intro kF kN
    exact h _ _ _ kF (news_tail kN)
end
end Mine.Internal
end TCClosed
section TCStates
open PySem PySem.W PyProof.Rows PySem.Calls
set_option Elab.async false
set_option maxRecDepth 100000
set_option maxHeartbeats 8000000
namespace Mine.Internal
section
variable {w : World} {A₀ : Around} {hdl : Option Value} {dep un : Nat} {gd : Option (List Code)} {E : Value → Shared → Prop} {s : Shared} {h₀ base : Heap} {L : Addr} {m mg mb : Str → Option Value} {news : List (Addr × Obj)} {p : Program} {loose : List Str} {mean : ExcName → Option Value}
  {env : Env} {outer : List Env} {R : Result → Shared → Prop}
theorem strs_at {a0 a1 a2 a3 a4 a5 a6 a7 a8 a9 a10 : Str} {t0 t1 t2 t3 t4 t5 t6 t7 t8 t9 t10 : Tok} {i : Nat} {v : Value}
    (h : (#[Value.str a0 t0, .str a1 t1, .str a2 t2, .str a3 t3, .str a4 t4, .str a5 t5, .str a6 t6, .str a7 t7, .str a8 t8, .str a9 t9, .str a10 t10] : Array Value)[i]? = some v) : ∃ a t, v = .str a t ∧ (i = 10 → a = a10) := by
  match i with
  | 0 | 1 | 2 | 3 | 4 | 5 | 6 | 7 | 8 | 9 => exact ⟨_, _, (Option.some.inj h).symm, fun q => nomatch q⟩
  | 10 => exact ⟨_, _, (Option.some.inj h).symm, fun _ => rfl⟩
  | n + 11 => exact nomatch (show (none : Option Value) = some v from h)
noncomputable def lamQ : Str := "_law_states_right.<locals>.<lambda>"
def Made1 (ps : Array Value) (rest : List (Addr × Obj)) : Prop := ∃ c' oc vs t, ps = #[rawInt 882, rawInt 22, .ref c'] ∧ (c', oc) ∈ rest ∧ oc.data = .fields vs ∧ vs[1]? = some (.str lamQ t)
def Tab1 (ps : Array Value) (rest : List (Addr × Obj)) : Prop := ps = #[] ∨ Made1 ps rest
/-- what holds between two turns over the states -/
inductive StJ (P1 P2 P3 : Prop) (rest : List (Addr × Obj)) (L' : Addr) (D : Array Value → Value → List (Addr × Obj) → List (Addr × Obj)) (i : Nat) (led : List (Addr × Obj)) : Prop
  | mk (h1 : P1) (h2 : P2) (h3 : P3) (own : List (Addr × Obj)) (ps : Array Value) (stv : Value) (t1 : Tab1 ps (own ++ rest)) (t2 : i ≠ 0 → Made1 ps (own ++ rest)) (fr : ∀ q ∈ own, @LT.lt Nat _ L' q.1 ∧ ∀ r ∈ rest, r.1 < q.1)
    (e : i = 11 → ∃ ts, stv = .str "closed" ts) (hl : led = D ps stv (own ++ rest)) : StJ P1 P2 P3 rest L' D i led
theorem Made1.mono {ps : Array Value} {l l' : List (Addr × Obj)} (h : Made1 ps l) (hs : ∀ z ∈ l, z ∈ l') : Made1 ps l' := let ⟨c, oc, vs, t, e, hm, r⟩ := h; ⟨c, oc, vs, t, e, hs _ hm, r⟩
theorem tab1_lam {ps : Array Value} {l : List (Addr × Obj)} {pos : Pos} (h1 : pos.line = 882) (h2 : pos.col = 22) (h : Tab1 ps l) : TriplesOk ps.toList ∧ (codeAmong pos ps.toList = none ∨ ∃ c' oc vs t, codeAmong pos ps.toList = some (.ref c') ∧ (c', oc) ∈ l ∧ oc.data = .fields vs ∧ vs[1]? = some (.str lamQ t)) := by
  obtain ⟨a, b, c, d⟩ := pos
  cases h1; cases h2
  rcases h with rfl | ⟨c, oc, vs, t, rfl, hm, e1, e2⟩
  · exact ⟨by kn_triples, .inl rfl⟩
  · exact ⟨by kn_triples, .inr ⟨c, oc, vs, t, by kn_hit, hm, e1, e2⟩⟩
theorem tab1_after {ps ps' : Array Value} {l own : List (Addr × Obj)} {pos : Pos} {c' : Addr} {oc : Obj} {vs : Array Value} {t : Tok} {news : List (Addr × Obj)} (h1 : pos.line = 882) (h2 : pos.col = 22) (h : Tab1 ps l) (e1 : oc.data = .fields vs) (e2 : vs[1]? = some (.str lamQ t))
    (hc : (ps' = ps ∧ own = [] ∧ codeAmong pos ps.toList = some (.ref c')) ∨ (codeAmong pos ps.toList = none ∧ ps' = ps ++ #[rawInt pos.line, rawInt pos.col, .ref c'] ∧ own = [(c', oc)] ∧ ∀ q ∈ news, q.1 < c')) :
    Made1 ps' (own ++ l) ∧ ∀ q ∈ own, ∀ z ∈ news, z.1 < q.1 := by
  obtain ⟨a, b, c, d⟩ := pos
  cases h1; cases h2
  rcases hc with ⟨rfl, rfl, hs⟩ | ⟨hn, rfl, rfl, hl⟩
  · refine ⟨?_, fun _ q => nomatch q⟩
    rcases h with rfl | h
    · cases hs
    · exact h
  · refine ⟨?_, fun q hq => by obtain rfl := List.mem_singleton.mp hq; exact hl⟩
    rcases h with rfl | ⟨c, oc, vs, t, rfl, _⟩
    · exact ⟨c', oc, vs, t, rfl, .head _, e1, e2⟩
    · rw [show codeAmong _ _ = some (Value.ref c) by kn_hit] at hn; cases hn
/-- what is known of the news that a lambda brings -/
theorem own_more {own own2 rest rest' news : List (Addr × Obj)} {L' it : Addr} {itO : Obj} {cO : Addr × Obj} (hlr : own ++ rest = rest') (hfr : ∀ q ∈ own, @LT.lt Nat _ L' q.1 ∧ ∀ r ∈ rest, r.1 < q.1) (hw : ∀ q ∈ own2, ∀ z ∈ news, z.1 < q.1) (h1 : (it, itO) ∈ news) (h2 : cO ∈ news) (hc : @LT.lt Nat _ L' cO.1) (h3 : ∀ z ∈ rest', z ∈ news) (hne : ∀ z ∈ rest', z.1 ≠ it) :
    (∀ q ∈ own2 ++ own, @LT.lt Nat _ L' q.1 ∧ ∀ r ∈ rest, r.1 < q.1) ∧ (∀ z ∈ (own2 ++ own) ++ rest, z.1 ≠ it) ∧ ∀ z ∈ (own2 ++ own) ++ rest, z ∈ rest' ++ own2 := by
  subst hlr
  refine ⟨fun q hq => ?_, fun z hz => ?_, fun z hz => ?_⟩
  · rcases List.mem_append.mp hq with hq | hq
    · exact ⟨Nat.lt_trans hc (hw q hq _ h2), fun r hr => hw q hq r (h3 r (List.mem_append_right _ hr))⟩
    · exact hfr q hq
  · rw [List.append_assoc] at hz
    exact (List.mem_append.mp hz).elim (fun h => Nat.ne_of_gt (hw z h _ h1)) (hne z)
  · rw [List.append_assoc] at hz
    exact List.mem_append.mpr (List.mem_append.mp hz).symm
theorem c_states_err (er : Er) {te : Tok} {x dx : Addr} {u0 u1 u2 u3 u4 u5 u6 u7 u8 u9 u10 u11 u12 u13 : Tok} {v_limits v_local v_remote v_sender v_receiver v_clock v_congestion v_acks v_wheel v_probes v_unanswered v_is_nagle : Value} {st : Value} {rest : List (Addr × Obj)} {ps : Array Value} (hr : ∀ q ∈ rest, q.1 ≠ dx) (hr2 : ∀ q ∈ rest, q.1 ≠ 1275) (hxd : x ≠ dx) (hx5 : x ≠ 1275) (hd5 : dx ≠ 1275) (htab : Tab1 ps rest)
    (hn : news = (1275, tabObj ps) :: (x, instObj 927 dx) :: (dx, tcbO w.params u0 u1 u2 u3 u4 u5 u6 u7 u8 u9 u10 u11 u12 u13 v_limits v_local v_remote (st) v_sender v_receiver v_clock v_congestion v_acks v_wheel (.str er.text te) v_probes v_unanswered v_is_nagle) :: rest) (hh : hdl = none)
    (B : Below A₀ base outer h₀) (F : Fr h₀ L s.heap m) (X : (K w.params).In h₀) (N : News h₀ L s.heap news) (T : Top p loose mean mg mb h₀) (hf : env.frame = some L) (hke : env.scope.kind = .function) (hd : dep < 605) (hu : un < 2000) (XB : (K w.params).In base) (TB : Top p loose mean mg mb base) (CB : CodeHd base 1279 1275)
    (h : ∀ h' tk ts h₀' own ps', KtsTurn (frs outer) h₀ h₀' → Made1 ps' (own ++ rest) → (∀ q ∈ own, dx < q.1 ∧ x < q.1 ∧ L < q.1 ∧ 1275 < q.1 ∧ ∀ r ∈ rest, r.1 < q.1) → Fr h₀' L h' m → News h₀' L h' ((1275, tabObj ps') :: (x, instObj 927 dx) :: (dx, tcbO w.params u0 u1 u2 u3 u4 u5 u6 u7 u8 u9 u10 u11 u12 u13 v_limits v_local v_remote (.str "closed" ts) v_sender v_receiver v_clock v_congestion v_acks v_wheel (.str er.text te) v_probes v_unanswered v_is_nagle) :: own ++ rest) → Below A₀ base outer h₀' → R (.ok (.ret (.bool true))) { s with heap := h', toks := tk }) :
    codeAny (model PySem.Challenge.rw_xw0352_01.prog w) ⟨hdl, dep, some (env :: outer), gd, un⟩ (.call (.ref 1280) ⟨[.ref x, .str er.text te], []⟩) R s := by
  subst hh
  subst hn
  revert X; k_fill; intro X
  refine' code_defTC (binds := [("tcb", .ref x), ("error", .str er.text te)]) ?k1 ?k2 ?k3 ?k4 ?k5 ?kA ?kF ?kK ?k6 ?k7 ?k8 ?k9 ?kB ?kD ?_ ?c2 ?c3 ?c4
  case kA => exact rfl
  case kF => exact hf
  case kK => exact hke
  case k1 => exact B
  case k2 => exact F
  case k3 => exact X
  case k4 => exact N
  case k5 => exact T
  case k6 => k_is
  case k7 => k_is
  case k8 => exact Nat.lt_trans hd (by decide)
  case k9 => first | exact BindsTo.of_eq rfl | exact binds_K (by k_in) rfl (by k_is) rfl rfl rfl
  case kB => exact rfl
  case kD => decide +kernel
  case c2 => exact rfl
  case c3 => exact rfl
  case c4 => exact rfl
  k_whole
  intro g' L' h' tk' cells' FG' F' N' Y' B' X' T' l1
  k_cells Y'
  simp only [List.cons_append, List.nil_append] at N'
  clear F N B X T
  try dsimp only
  rename_i cO d1
  replace d1 : cO.data = .cell (some (.ref x)) := d1
  have h5l : 1275 < L' := l1 _ (.head _)
  have hxl : x < L' := l1 _ (.tail _ (.head _))
  have hdl : dx < L' := l1 _ (.tail _ (.tail _ (.head _)))
  have hLL : L < L' := Nat.lt_of_lt_of_le FG'.ns.lt (by have := F'.above; exact this)
  clear l1
  change wpAny _ _ _ _ _ _
  k_fold
  k_steps
  refine Stop.mk ?_
  refine wpAny_For ?_
  k_fold
  k_steps
  refine Stop.mk ?_
  rename News _ _ _ _ => N9
  rename Fr _ _ _ _ => F9
  refine for_turns (fun i g₁ m₁ led => StJ (KtsTurn (frs (env :: outer)) g' g₁) (Below ⟨none, dep, some (env :: outer), gd, un⟩ base (env :: outer) g₁) (m₁ "error" = some (.str er.text te)) rest L' (fun ps stv r => (L' + 1, cO) :: (1275, tabObj ps) :: (x, instObj 927 dx) :: (dx, tcbO w.params u0 u1 u2 u3 u4 u5 u6 u7 u8 u9 u10 u11 u12 u13 v_limits v_local v_remote (stv) v_sender v_receiver v_clock v_congestion v_acks v_wheel (.str er.text te) v_probes v_unanswered v_is_nagle) :: r) i led) rfl F9 (news_drop23 N9) ?_ ?_ ?_
  rotate_left 2
  · exact ⟨.refl, B', rfl, [], ps, st, htab, fun q => absurd rfl q, (fun _ q => nomatch q), (fun q => nomatch q), rfl⟩
  rotate_left 1
  · intro g₁ m₁ led h₁ tk₁ hJ F₁ N₁
    obtain ⟨hT, hB, hme, own, ps', stv, _, hmd, hfr, hst, hled⟩ := hJ
    subst hled
    dsimp only
    have hB2 := hB
    have X₂ : (K w.params).In g₁ := XB.keeps hB2.stays
    have P₂ : Top p loose mean mg mb g₁ := TB.keeps hB2.stays
    obtain ⟨ts, rfl⟩ := hst rfl
    have hmd' := hmd (by intro q; cases q)
    change wpAny _ _ _ _ _ _
    k_steps
    refine leaveT_ F₁ N₁ hT ?_
    intro h₀' Tt kF kN kB
    refine h _ _ ts _ own _ Tt hmd' ?_ kF ?_ kB
    · intro q hq
      obtain ⟨z1, z2⟩ := hfr q hq
      exact ⟨Nat.lt_trans hdl z1, Nat.lt_trans hxl z1, Nat.lt_trans hLL z1, Nat.lt_trans h5l z1, z2⟩
    · exact news_tail2 kN
  clear F9 N9
  rename_i l _ _
  intro it itO i v g₁ m₁ led h₁ tk₁ hLit hlit hlst hv hJ hne F₁ N₁
  obtain ⟨hT, hB, hme, own, ps', stv, htab', _, hfr, _, hled⟩ := hJ
  subst hled
  obtain ⟨a, ta, rfl, ha⟩ := strs_at hv
  have X₁ : (K w.params).In g₁ := XB.keeps hB.stays
  have P₁ : Top p loose mean mg mb g₁ := TB.keeps hB.stays
  have C₁ : CodeHd g₁ 1279 1275 := CB.keeps hB.stays
  have e1 : @Ne Nat it dx := Ne.symm (hne (dx, _) (.tail _ (.tail _ (.tail _ (.head _)))))
  have e2 : @Ne Nat it 1275 := Ne.symm (hne (1275, _) (.tail _ (.head _)))
  have e3 : @Ne Nat l dx := news_ne (a := (l, _)) (b := (dx, _)) N₁ (.tail _ (.head _)) (.tail _ (.tail _ (.tail _ (.tail _ (.tail _ (.head _)))))) (show Value.type "list" ≠ Value.type "dict" by simp)
  have e4 : @Ne Nat l 1275 := news_ne (a := (l, _)) (b := (1275, _)) N₁ (.tail _ (.head _)) (.tail _ (.tail _ (.tail _ (.head _)))) (by simp)
  have e5 : @Ne Nat x dx := hxd
  have e9 : @Ne Nat (L' + 1) 1275 := Nat.ne_of_gt (Nat.lt_succ_of_lt h5l)
  have e10 : @Ne Nat (L' + 1) dx := Nat.ne_of_gt (Nat.lt_succ_of_lt hdl)
  have e11 : @Ne Nat 1275 dx := Ne.symm hd5
  have hneR : ∀ z ∈ own ++ rest, z.1 ≠ it := fun q hq => hne q (.tail _ (.tail _ (.tail _ (.tail _ hq))))
  have hro : ∀ q ∈ own ++ rest, q.1 ≠ dx := fun q hq => (List.mem_append.mp hq).elim (fun hq => Nat.ne_of_gt (Nat.lt_trans hdl (hfr q hq).1)) (hr q)
  have hro2 : ∀ q ∈ own ++ rest, q.1 ≠ 1275 := fun q hq => (List.mem_append.mp hq).elim (fun hq => Nat.ne_of_gt (Nat.lt_trans h5l (hfr q hq).1)) (hr2 q)
  have e6 : @Ne Nat x 1275 := hx5
  have e7 : @Ne Nat dx 1275 := hd5
  generalize hlr : own ++ rest = rest' at *
  refine storeX_L (fr_map F₁ hme) N₁ ?_
  intro h₂ F₂ N₂
  change wpAny _ _ _ _ _ _
  k_fold
  k_steps
  refine Stop.mk ?_
  rename News _ _ _ _ => NL
  refine kla_eval rfl ?_
  refine' kla_any (l := rest') ?F ?N ?T ?C ?cd ?U ?ht ?cl ?hc ?_
  case F => k_asm
  case N => k_asm
  case T => k_asm
  case cd => exact rfl
  case C => kn_code
  case U => k_updF
  case cl => exact rfl
  case ht => exact (tab1_lam (pos := ⟨882, 22, 0, 0⟩) rfl rfl htab').1
  case hc => exact (tab1_lam rfl rfl htab').2
  intro fA cA ocA vsA tA ctA hA tkA ps2 own2 F3 N3 dC1 dC2 hmA hcA _
  obtain ⟨hmd, hw⟩ := tab1_after rfl rfl htab' dC1 dC2 hcA
  dsimp only [List.cons_append] at N3
  obtain ⟨hfrF, hneF, hback⟩ := own_more (cO := (L' + 1, cO)) hlr hfr hw (by k_mem) (by k_mem) (Nat.lt_succ_self _) (fun z hz => by repeat' first | exact hz | apply List.Mem.tail) hneR
  replace hmd : Made1 ps2 ((own2 ++ own) ++ rest) := by rw [List.append_assoc, hlr]; exact hmd
  have hro' : ∀ q ∈ rest' ++ own2, q.1 ≠ dx := fun q hq => (List.mem_append.mp hq).elim (hro q) fun h => Nat.ne_of_gt (hw q h (dx, _) (by k_mem))
  clear hcA hw NL htab' hfr hneR hro hro2
  generalize rest' ++ own2 = rest2 at N3 hmA hback hro'
  k_whole
  k_steps
  refine Stop.mk ?_
  refine wpAny_call (c_heard_er er _ (hd := ?hd) (hu := ?hu) rfl (.head _) rfl hB F3 X₁ N3 P₁ rfl rfl XB TB ?_ ?_)
  case hd => show dep + 1 < 705; exact lin (k := 1) hd (by decide)
  case hu => show un + 3 < 3000; exact lin (k := 3) hu (by decide)
  · intro g3 L3 h3 m3 tk3 cu FG3 B3 F3' N3' X3 T3 hcf hck R3 hR3
    refine kla_code B3 F3' X3 N3' T3 rfl hcf hck (by k_mem) (codeRec_news N3' (show (cA, ocA) ∈ _ by repeat' first | exact hmA | apply List.Mem.tail) dC1 dC2) ?room rfl (locs rfl) ?_ rfl rfl rfl (by decide)
    case room => show dep + 1 + 1 < recursionLimit; exact lin (k := 2) hd (by decide)
    intro g4 L4 h4 FG4 F4 N4 B4 X4 T4
    change wpAny _ _ _ _ _ _
    k_fold
    k_steps
    refine Stop.mk ?_
    rename News _ _ _ _ => N5
    rename Fr _ _ _ _ => F5
    refine' wpAny_call (c_ce_raise er (hd := ?hd) (hu := ?hu) ?hx ?hdx rfl B4 F5 X4 N5 T4 rfl rfl ?_)
    case hx => k_mem
    case hdx => k_mem
    case hd => show dep + 1 + 1 + 1 < 805; exact lin (k := 3) hd (by decide)
    case hu => show un + 3 + 3 + 3 < 4000; exact lin (k := 9) hu (by decide)
    intro e t d tm od h5 tk5 g5 q1 q2 q3 q4
    dsimp only
    k_unfold
    exact raise_on hR3 FG4 rfl rfl (fun p hp => hp) q1 q2 q3 q4
  · intro h3 tk3 tw g2 hT2 F4 N4 hB2
    clear F3 N3 X₁ P₁ C₁
    have X₂ : (K w.params).In g2 := XB.keeps hB2.stays
    have P₂ : Top p loose mean mg mb g2 := TB.keeps hB2.stays
    change wpAny _ _ _ _ _ _
    k_steps
    refine Stop.mk ?_
    rename News _ _ _ _ => N5
    rename Fr _ _ _ _ => F5
    refine wpAny_call (c_word_err er (hd := ?hd) (hu := ?hu) hB2 F5 X₂ N5 P₂ rfl rfl ?_)
    case hd => show dep + 1 < 805; exact lin (k := 1) hd (by decide)
    case hu => show un + 3 < 4000; exact lin (k := 3) hu (by decide)
    intro h4 tk4 tw2 F6 N6
    clear F5 N5
    change wpAny _ _ _ _ _ _
    have p1 : (er.word != er.word) = false := by simp
    have p2 : (a != a) = false := by simp
    k_steps
    refine' turn_end (led₂ := (L' + 1, cO) :: (1275, tabObj ps2) :: (x, instObj 927 dx) :: (dx, tcbO w.params u0 u1 u2 u3 u4 u5 u6 u7 u8 u9 u10 u11 u12 u13 v_limits v_local v_remote (.str a ta) v_sender v_receiver v_clock v_congestion v_acks v_wheel (.str er.text te) v_probes v_unanswered v_is_nagle) :: ((own2 ++ own) ++ rest)) F6 ?J ?Nw ?ne
    case J => exact ⟨hT.trans hT2, hB2, rfl, own2 ++ own, ps2, .str a ta, .inr hmd, fun _ => hmd, hfrF, fun e => ⟨ta, by rw [ha (Nat.succ.inj e)]⟩, rfl⟩
    case Nw =>
      repeat (refine List.forall_mem_cons.mpr ⟨N6 _ (by k_mem), ?_⟩)
      exact fun z hz => N6 z (by repeat' first | exact hback z hz | apply List.Mem.tail)
    case ne => exact List.forall_mem_cons.mpr ⟨hne (L' + 1, _) (.head _), List.forall_mem_cons.mpr ⟨Ne.symm e2, List.forall_mem_cons.mpr ⟨hne (x, _) (.tail _ (.tail _ (.head _))), List.forall_mem_cons.mpr ⟨Ne.symm e1, hneF⟩⟩⟩⟩
end
end Mine.Internal
end TCStates
section TCStates2
open PySem PySem.W PyProof.Rows PySem.Calls
set_option Elab.async false
set_option maxRecDepth 100000
set_option maxHeartbeats 8000000
namespace Mine.Internal
section
variable {w : World} {A₀ : Around} {hdl : Option Value} {dep un : Nat} {gd : Option (List Code)} {E : Value → Shared → Prop} {s : Shared} {h₀ base : Heap} {L : Addr} {m mg mb : Str → Option Value} {news : List (Addr × Obj)} {p : Program} {loose : List Str} {mean : ExcName → Option Value}
  {env : Env} {outer : List Env} {R : Result → Shared → Prop}
theorem c_states_none {x dx : Addr} {u0 u1 u2 u3 u4 u5 u6 u7 u8 u9 u10 u11 u12 u13 : Tok} {v_limits v_local v_remote v_sender v_receiver v_clock v_congestion v_acks v_wheel v_probes v_unanswered v_is_nagle : Value} {st : Value} {rest : List (Addr × Obj)} {ps : Array Value} (hr : ∀ q ∈ rest, q.1 ≠ dx) (hr2 : ∀ q ∈ rest, q.1 ≠ 1275) (hxd : x ≠ dx) (hx5 : x ≠ 1275) (hd5 : dx ≠ 1275) (htab : Tab1 ps rest)
    (hn : news = (1275, tabObj ps) :: (x, instObj 927 dx) :: (dx, tcbO w.params u0 u1 u2 u3 u4 u5 u6 u7 u8 u9 u10 u11 u12 u13 v_limits v_local v_remote (st) v_sender v_receiver v_clock v_congestion v_acks v_wheel (.none) v_probes v_unanswered v_is_nagle) :: rest) (hh : hdl = none)
    (B : Below A₀ base outer h₀) (F : Fr h₀ L s.heap m) (X : (K w.params).In h₀) (N : News h₀ L s.heap news) (T : Top p loose mean mg mb h₀) (hf : env.frame = some L) (hke : env.scope.kind = .function) (hd : dep < 605) (hu : un < 2000) (XB : (K w.params).In base) (TB : Top p loose mean mg mb base) (CB : CodeHd base 1279 1275)
    (h : ∀ h' tk ts h₀' own ps', KtsTurn (frs outer) h₀ h₀' → Made1 ps' (own ++ rest) → (∀ q ∈ own, dx < q.1 ∧ x < q.1 ∧ L < q.1 ∧ 1275 < q.1 ∧ ∀ r ∈ rest, r.1 < q.1) → Fr h₀' L h' m → News h₀' L h' ((1275, tabObj ps') :: (x, instObj 927 dx) :: (dx, tcbO w.params u0 u1 u2 u3 u4 u5 u6 u7 u8 u9 u10 u11 u12 u13 v_limits v_local v_remote (.str "closed" ts) v_sender v_receiver v_clock v_congestion v_acks v_wheel (.none) v_probes v_unanswered v_is_nagle) :: own ++ rest) → Below A₀ base outer h₀' → R (.ok (.ret (.bool true))) { s with heap := h', toks := tk }) :
    codeAny (model PySem.Challenge.rw_xw0352_01.prog w) ⟨hdl, dep, some (env :: outer), gd, un⟩ (.call (.ref 1280) ⟨[.ref x, .none], []⟩) R s := by
  subst hh
  subst hn
  revert X; k_fill; intro X
  refine' code_defTC (binds := [("tcb", .ref x), ("error", .none)]) ?k1 ?k2 ?k3 ?k4 ?k5 ?kA ?kF ?kK ?k6 ?k7 ?k8 ?k9 ?kB ?kD ?_ ?c2 ?c3 ?c4
  case kA => exact rfl
  case kF => exact hf
  case kK => exact hke
  case k1 => exact B
  case k2 => exact F
  case k3 => exact X
  case k4 => exact N
  case k5 => exact T
  case k6 => k_is
  case k7 => k_is
  case k8 => exact Nat.lt_trans hd (by decide)
  case k9 => first | exact BindsTo.of_eq rfl | exact binds_K (by k_in) rfl (by k_is) rfl rfl rfl
  case kB => exact rfl
  case kD => decide +kernel
  case c2 => exact rfl
  case c3 => exact rfl
  case c4 => exact rfl
  k_whole
  intro g' L' h' tk' cells' FG' F' N' Y' B' X' T' l1
  k_cells Y'
  simp only [List.cons_append, List.nil_append] at N'
  clear F N B X T
  try dsimp only
  rename_i cO d1
  replace d1 : cO.data = .cell (some (.ref x)) := d1
  have h5l : 1275 < L' := l1 _ (.head _)
  have hxl : x < L' := l1 _ (.tail _ (.head _))
  have hdl : dx < L' := l1 _ (.tail _ (.tail _ (.head _)))
  have hLL : L < L' := Nat.lt_of_lt_of_le FG'.ns.lt (by have := F'.above; exact this)
  clear l1
  change wpAny _ _ _ _ _ _
  k_fold
  k_steps
  refine Stop.mk ?_
  refine wpAny_For ?_
  k_fold
  k_steps
  refine Stop.mk ?_
  rename News _ _ _ _ => N9
  rename Fr _ _ _ _ => F9
  refine for_turns (fun i g₁ m₁ led => StJ (KtsTurn (frs (env :: outer)) g' g₁) (Below ⟨none, dep, some (env :: outer), gd, un⟩ base (env :: outer) g₁) (m₁ "error" = some (.none)) rest L' (fun ps stv r => (L' + 1, cO) :: (1275, tabObj ps) :: (x, instObj 927 dx) :: (dx, tcbO w.params u0 u1 u2 u3 u4 u5 u6 u7 u8 u9 u10 u11 u12 u13 v_limits v_local v_remote (stv) v_sender v_receiver v_clock v_congestion v_acks v_wheel (.none) v_probes v_unanswered v_is_nagle) :: r) i led) rfl F9 (news_drop23 N9) ?_ ?_ ?_
  rotate_left 2
  · exact ⟨.refl, B', rfl, [], ps, st, htab, fun q => absurd rfl q, (fun _ q => nomatch q), (fun q => nomatch q), rfl⟩
  rotate_left 1
  · intro g₁ m₁ led h₁ tk₁ hJ F₁ N₁
    obtain ⟨hT, hB, hme, own, ps', stv, _, hmd, hfr, hst, hled⟩ := hJ
    subst hled
    dsimp only
    have hB2 := hB
    have X₂ : (K w.params).In g₁ := XB.keeps hB2.stays
    have P₂ : Top p loose mean mg mb g₁ := TB.keeps hB2.stays
    obtain ⟨ts, rfl⟩ := hst rfl
    have hmd' := hmd (by intro q; cases q)
    change wpAny _ _ _ _ _ _
    k_steps
    refine leaveT_ F₁ N₁ hT ?_
    intro h₀' Tt kF kN kB
    refine h _ _ ts _ own _ Tt hmd' ?_ kF ?_ kB
    · intro q hq
      obtain ⟨z1, z2⟩ := hfr q hq
      exact ⟨Nat.lt_trans hdl z1, Nat.lt_trans hxl z1, Nat.lt_trans hLL z1, Nat.lt_trans h5l z1, z2⟩
    · exact news_tail2 kN
  clear F9 N9
  rename_i l _ _
  intro it itO i v g₁ m₁ led h₁ tk₁ hLit hlit hlst hv hJ hne F₁ N₁
  obtain ⟨hT, hB, hme, own, ps', stv, htab', _, hfr, _, hled⟩ := hJ
  subst hled
  obtain ⟨a, ta, rfl, ha⟩ := strs_at hv
  have X₁ : (K w.params).In g₁ := XB.keeps hB.stays
  have P₁ : Top p loose mean mg mb g₁ := TB.keeps hB.stays
  have C₁ : CodeHd g₁ 1279 1275 := CB.keeps hB.stays
  have e1 : @Ne Nat it dx := Ne.symm (hne (dx, _) (.tail _ (.tail _ (.tail _ (.head _)))))
  have e2 : @Ne Nat it 1275 := Ne.symm (hne (1275, _) (.tail _ (.head _)))
  have e3 : @Ne Nat l dx := news_ne (a := (l, _)) (b := (dx, _)) N₁ (.tail _ (.head _)) (.tail _ (.tail _ (.tail _ (.tail _ (.tail _ (.head _)))))) (show Value.type "list" ≠ Value.type "dict" by simp)
  have e4 : @Ne Nat l 1275 := news_ne (a := (l, _)) (b := (1275, _)) N₁ (.tail _ (.head _)) (.tail _ (.tail _ (.tail _ (.head _)))) (by simp)
  have e5 : @Ne Nat x dx := hxd
  have e9 : @Ne Nat (L' + 1) 1275 := Nat.ne_of_gt (Nat.lt_succ_of_lt h5l)
  have e10 : @Ne Nat (L' + 1) dx := Nat.ne_of_gt (Nat.lt_succ_of_lt hdl)
  have e11 : @Ne Nat 1275 dx := Ne.symm hd5
  have hneR : ∀ z ∈ own ++ rest, z.1 ≠ it := fun q hq => hne q (.tail _ (.tail _ (.tail _ (.tail _ hq))))
  have hro : ∀ q ∈ own ++ rest, q.1 ≠ dx := fun q hq => (List.mem_append.mp hq).elim (fun hq => Nat.ne_of_gt (Nat.lt_trans hdl (hfr q hq).1)) (hr q)
  have hro2 : ∀ q ∈ own ++ rest, q.1 ≠ 1275 := fun q hq => (List.mem_append.mp hq).elim (fun hq => Nat.ne_of_gt (Nat.lt_trans h5l (hfr q hq).1)) (hr2 q)
  have e6 : @Ne Nat x 1275 := hx5
  have e7 : @Ne Nat dx 1275 := hd5
  generalize hlr : own ++ rest = rest' at *
  refine storeX_L (fr_map F₁ hme) N₁ ?_
  intro h₂ F₂ N₂
  change wpAny _ _ _ _ _ _
  k_fold
  k_steps
  refine Stop.mk ?_
  rename News _ _ _ _ => NL
  refine kla_eval rfl ?_
  refine' kla_any (l := rest') ?F ?N ?T ?C ?cd ?U ?ht ?cl ?hc ?_
  case F => k_asm
  case N => k_asm
  case T => k_asm
  case cd => exact rfl
  case C => kn_code
  case U => k_updF
  case cl => exact rfl
  case ht => exact (tab1_lam (pos := ⟨882, 22, 0, 0⟩) rfl rfl htab').1
  case hc => exact (tab1_lam rfl rfl htab').2
  intro fA cA ocA vsA tA ctA hA tkA ps2 own2 F3 N3 dC1 dC2 hmA hcA _
  obtain ⟨hmd, hw⟩ := tab1_after rfl rfl htab' dC1 dC2 hcA
  dsimp only [List.cons_append] at N3
  obtain ⟨hfrF, hneF, hback⟩ := own_more (cO := (L' + 1, cO)) hlr hfr hw (by k_mem) (by k_mem) (Nat.lt_succ_self _) (fun z hz => by repeat' first | exact hz | apply List.Mem.tail) hneR
  replace hmd : Made1 ps2 ((own2 ++ own) ++ rest) := by rw [List.append_assoc, hlr]; exact hmd
  have hro' : ∀ q ∈ rest' ++ own2, q.1 ≠ dx := fun q hq => (List.mem_append.mp hq).elim (hro q) fun h => Nat.ne_of_gt (hw q h (dx, _) (by k_mem))
  clear hcA hw NL htab' hfr hneR hro hro2
  generalize rest' ++ own2 = rest2 at N3 hmA hback hro'
  k_whole
  k_steps
  refine Stop.mk ?_
  refine wpAny_call (c_heard_ok _ (hd := ?hd) (hu := ?hu) rfl (.head _) rfl hB F3 X₁ N3 P₁ rfl rfl ?_ ?_)
  case hd => show dep + 1 < 705; exact lin (k := 1) hd (by decide)
  case hu => show un + 3 < 3000; exact lin (k := 3) hu (by decide)
  · intro g3 L3 h3 m3 tk3 cu FG3 B3 F3' N3' X3 T3 hcf hck R3 hR3
    refine kla_code B3 F3' X3 N3' T3 rfl hcf hck (by k_mem) (codeRec_news N3' (show (cA, ocA) ∈ _ by repeat' first | exact hmA | apply List.Mem.tail) dC1 dC2) ?room rfl (locs rfl) ?_ rfl rfl rfl (by decide)
    case room => show dep + 1 + 1 < recursionLimit; exact lin (k := 2) hd (by decide)
    intro g4 L4 h4 FG4 F4 N4 B4 X4 T4
    change wpAny _ _ _ _ _ _
    k_fold
    k_steps
    refine Stop.mk ?_
    rename News _ _ _ _ => N5
    rename Fr _ _ _ _ => F5
    refine' wpAny_call (c_ce_none (hd := ?hd) (hu := ?hu) ?hx ?hdx B4 F5 X4 N5 T4 rfl rfl ?_)
    case hx => k_mem
    case hdx => k_mem
    case hd => show dep + 1 + 1 + 1 < 805; exact lin (k := 3) hd (by decide)
    case hu => show un + 3 + 3 + 3 < 4000; exact lin (k := 9) hu (by decide)
    intro h5 tk5 F6 N6
    clear F5 N5
    dsimp only
    k_unfold
    exact leaveK_ F6 N6 fun kF kN => hR3 _ _ kF kN
  · intro h3 tk3 F4 N4
    clear F3 N3 C₁
    change wpAny _ _ _ _ _ _
    k_steps
    refine Stop.mk ?_
    rename News _ _ _ _ => N5
    rename Fr _ _ _ _ => F5
    refine wpAny_call (c_word_none (hd := ?hd) (hu := ?hu) hB F5 X₁ N5 P₁ rfl rfl ?_)
    case hd => show dep + 1 < 805; exact lin (k := 1) hd (by decide)
    case hu => show un + 3 < 4000; exact lin (k := 3) hu (by decide)
    intro h4 tk4 F6 N6
    clear F5 N5
    change wpAny _ _ _ _ _ _
    have p2 : (a != a) = false := by simp
    k_steps
    refine' turn_end (led₂ := (L' + 1, cO) :: (1275, tabObj ps2) :: (x, instObj 927 dx) :: (dx, tcbO w.params u0 u1 u2 u3 u4 u5 u6 u7 u8 u9 u10 u11 u12 u13 v_limits v_local v_remote (.str a ta) v_sender v_receiver v_clock v_congestion v_acks v_wheel (.none) v_probes v_unanswered v_is_nagle) :: ((own2 ++ own) ++ rest)) F6 ?J ?Nw ?ne
    case J => exact ⟨hT, hB, rfl, own2 ++ own, ps2, .str a ta, .inr hmd, fun _ => hmd, hfrF, fun e => ⟨ta, by rw [ha (Nat.succ.inj e)]⟩, rfl⟩
    case Nw =>
      repeat (refine List.forall_mem_cons.mpr ⟨N6 _ (by k_mem), ?_⟩)
      exact fun z hz => N6 z (by repeat' first | exact hback z hz | apply List.Mem.tail)
    case ne => exact List.forall_mem_cons.mpr ⟨hne (L' + 1, _) (.head _), List.forall_mem_cons.mpr ⟨Ne.symm e2, List.forall_mem_cons.mpr ⟨hne (x, _) (.tail _ (.tail _ (.head _))), List.forall_mem_cons.mpr ⟨Ne.symm e1, hneF⟩⟩⟩⟩
end
end Mine.Internal
end TCStates2
section TCEnds
open PySem PySem.W PyProof.Rows PySem.Calls
set_option Elab.async false
set_option maxRecDepth 100000
set_option maxHeartbeats 8000000
namespace Mine.Internal
section
variable {w : World} {A₀ : Around} {hdl : Option Value} {dep un : Nat} {gd : Option (List Code)} {E : Value → Shared → Prop} {s : Shared} {h₀ base : Heap} {L : Addr} {m mg mb : Str → Option Value} {news : List (Addr × Obj)} {p : Program} {loose : List Str} {mean : ExcName → Option Value}
  {env : Env} {outer : List Env} {R : Result → Shared → Prop}
/-- which addresses differ, and in which order they stand -/
structure ChainC (l dx x ds xs dq q dw xw e : Nat) : Prop where
  n1 : e ≠ l + 1 + 1
  n2 : xw ≠ l + 1 + 1
  n3 : dw ≠ l + 1 + 1
  n4 : q ≠ l + 1 + 1
  n5 : dq ≠ l + 1 + 1
  n6 : xs ≠ l + 1 + 1
  n7 : ds ≠ l + 1 + 1
  n8 : x ≠ l + 1 + 1
  n9 : dx ≠ l + 1 + 1
  n10 : l + 1 ≠ l + 1 + 1
  n11 : 1275 ≠ l + 1 + 1
  n12 : 1282 ≠ l + 1 + 1
  m1 : e ≠ dx
  m2 : xw ≠ dx
  m3 : dw ≠ dx
  m4 : q ≠ dx
  m5 : dq ≠ dx
  m6 : xs ≠ dx
  m7 : ds ≠ dx
  m8 : x ≠ dx
  m9 : l + 1 ≠ dx
  m10 : l + 1 + 1 ≠ dx
  m11 : 1275 ≠ dx
  m12 : 1282 ≠ dx
  k1 : q ≠ 1275
  k2 : dq ≠ 1275
  k3 : xs ≠ 1275
  k4 : ds ≠ 1275
  k5 : l + 1 ≠ 1275
  k6 : l + 1 + 1 ≠ 1275
  k7 : 1282 ≠ 1275
  k8 : 1275 < x
  k9 : 1275 < dx
  y1 : l < q
  y2 : l < dq
  y3 : l < xs
  y4 : l < ds
theorem chain_c {l dx x ds xs dq q dw xw e : Nat} (h5 : 1275 < l) (h2 : 1282 < l) (e1 : l + 2 < dx) (e2 : dx < x) (e3 : x < ds) (e4 : ds < xs) (e5 : xs < dq) (e6 : dq < q) (e7 : q < dw) (e8 : dw < xw) (e9 : xw < e)  : ChainC l dx x ds xs dq q dw xw e := by
  have a1 : l < l + 1 + 1 := Nat.lt_succ_of_lt (Nat.lt_succ_self l)
  have b0 : l < dx := Nat.lt_trans a1 e1
  have c1 : dx < ds := Nat.lt_trans e2 e3
  have c2 : dx < xs := Nat.lt_trans c1 e4
  have c3 : dx < dq := Nat.lt_trans c2 e5
  have c4 : dx < q := Nat.lt_trans c3 e6
  have c5 : dx < dw := Nat.lt_trans c4 e7
  have c6 : dx < xw := Nat.lt_trans c5 e8
  have c7 : dx < e := Nat.lt_trans c6 e9
  have p1 : 1275 < dx := Nat.lt_trans h5 b0
  have up2 : ∀ {v : Nat}, dx < v → v ≠ l + 1 + 1 := fun h => Nat.ne_of_gt (Nat.lt_trans e1 h)
  have upd : ∀ {v : Nat}, dx < v → v ≠ dx := fun h => Nat.ne_of_gt h
  have up5 : ∀ {v : Nat}, dx < v → v ≠ 1275 := fun h => Nat.ne_of_gt (Nat.lt_trans p1 h)
  exact ⟨up2 c7, up2 c6, up2 c5, up2 c4, up2 c3, up2 c2, up2 c1, up2 e2, Nat.ne_of_gt e1, Nat.ne_of_lt (Nat.lt_succ_self _), Nat.ne_of_lt (Nat.lt_trans h5 a1), Nat.ne_of_lt (Nat.lt_trans h2 a1),
    upd c7, upd c6, upd c5, upd c4, upd c3, upd c2, upd c1, upd e2, Nat.ne_of_lt (Nat.lt_of_succ_lt e1), Nat.ne_of_lt e1, Nat.ne_of_lt p1, Nat.ne_of_lt (Nat.lt_trans h2 b0),
    up5 c4, up5 c3, up5 c2, up5 c1, Nat.ne_of_gt (Nat.lt_succ_of_lt h5), Nat.ne_of_gt (Nat.lt_trans h5 a1), by decide, Nat.lt_trans p1 e2, p1, Nat.lt_trans b0 c4, Nat.lt_trans b0 c3, Nat.lt_trans b0 c2, Nat.lt_trans b0 c1⟩
/-- which addresses differ, and in which order they stand -/
structure ChainD (l dx x ds xs dq q dw xw e dr xr ba da am pl : Nat) : Prop where
  m13 : pl ≠ dx
  m14 : am ≠ dx
  m15 : da ≠ dx
  m16 : ba ≠ dx
  m17 : xr ≠ dx
  m18 : dr ≠ dx
  k10 : ba ≠ 1275
  k11 : xr ≠ 1275
  k12 : dr ≠ 1275
  d1 : xw < dr
  d2 : dw < dr
  d3 : q < dr
  d4 : dq < dr
  d5 : xs < dr
  d6 : ds < dr
  d7 : x < dr
  d8 : dx < dr
  d9 : l + 1 < dr
  d10 : l + 1 + 1 < dr
  d11 : 1275 < dr
  d12 : 1282 < dr
theorem chain_d {l dx x ds xs dq q dw xw e dr xr ba da am pl : Nat} (h5 : 1275 < l) (h2 : 1282 < l) (e1 : l + 2 < dx) (e2 : dx < x) (e3 : x < ds) (e4 : ds < xs) (e5 : xs < dq) (e6 : dq < q) (e7 : q < dw) (e8 : dw < xw) (e9 : xw < e)
    (g1 : e < dr) (g2 : dr < xr) (g3 : xr < ba) (g4 : ba < da) (g5 : da < am) (g6 : am < pl)  : ChainD l dx x ds xs dq q dw xw e dr xr ba da am pl := by
  have a1 : l < l + 1 + 1 := Nat.lt_succ_of_lt (Nat.lt_succ_self l)
  have b0 : l < dx := Nat.lt_trans a1 e1
  have d1 : xw < dr := Nat.lt_trans e9 g1
  have d2 : dw < dr := Nat.lt_trans e8 d1
  have d3 : q < dr := Nat.lt_trans e7 d2
  have d4 : dq < dr := Nat.lt_trans e6 d3
  have d5 : xs < dr := Nat.lt_trans e5 d4
  have d6 : ds < dr := Nat.lt_trans e4 d5
  have d7 : x < dr := Nat.lt_trans e3 d6
  have d8 : dx < dr := Nat.lt_trans e2 d7
  have d9 : l < dr := Nat.lt_trans b0 d8
  have f1 : dr < ba := Nat.lt_trans g2 g3
  have f2 : dr < da := Nat.lt_trans f1 g4
  have f3 : dr < am := Nat.lt_trans f2 g5
  have f4 : dr < pl := Nat.lt_trans f3 g6
  have p1 : 1275 < dr := Nat.lt_trans h5 d9
  exact ⟨Nat.ne_of_gt (Nat.lt_trans d8 f4), Nat.ne_of_gt (Nat.lt_trans d8 f3), Nat.ne_of_gt (Nat.lt_trans d8 f2), Nat.ne_of_gt (Nat.lt_trans d8 f1), Nat.ne_of_gt (Nat.lt_trans d8 g2), Nat.ne_of_gt d8,
    Nat.ne_of_gt (Nat.lt_trans p1 f1), Nat.ne_of_gt (Nat.lt_trans p1 g2), Nat.ne_of_gt p1, d1, d2, d3, d4, d5, d6, d7, d8, Nat.lt_of_succ_lt (Nat.lt_trans e1 d8), Nat.lt_trans e1 d8, p1, Nat.lt_trans h2 d9⟩
theorem c_arrive {x dx pl am da ba : Addr} {a0 a1 t1 tn tt ts tb : Tok} {u0 u1 u2 u3 u4 u5 u6 u7 u8 u9 : Tok} {v_room v_mss v_urgent_at : Value} {rest : List (Addr × Obj)} {b : Array UInt8} (hb : b.size ≤ 9) (hrest : ∀ q ∈ rest, q.1 < dx) (o1 : @LT.lt Nat _ dx x) (o2 : @LT.lt Nat _ x ba) (o3 : @LT.lt Nat _ ba da) (o4 : @LT.lt Nat _ da am) (o5 : @LT.lt Nat _ am pl) (hh : hdl = none)
    (hn : news = (pl, W.listOf #[] 0) :: (am, instObj 1107 da) :: (da, asmO w.params a0 a1 (.int 256 t1) (.ref pl)) :: (ba, baObj #[]) :: (x, instObj 1241 dx) :: (dx, recO w.params u0 u1 u2 u3 u4 u5 u6 u7 u8 u9 (.int 256 t1) v_room v_mss (.int 251 tn) (.ref ba) (.ref am) (.int 11 tt) (.none) (.bool false) v_urgent_at) :: rest)
    (B : Below A₀ base outer h₀) (F : Fr h₀ L s.heap m) (X : (K w.params).In h₀) (N : News h₀ L s.heap news) (T : Top p loose mean mg mb h₀) (hf : env.frame = some L) (hke : env.scope.kind = .function) (hd : dep < 445) (hu : un < 1100)
    (h : ∀ h' tk nx ra, Fr h₀ L h' m → News h₀ L h' ((ba, baObj b) :: (x, instObj 1241 dx) :: (dx, recO w.params u0 u1 u2 u3 u4 u5 u6 u7 u8 u9 (.int 256 t1) v_room v_mss nx (.ref ba) (.ref am) (.int 11 tt) (.none) (.bool false) v_urgent_at) :: rest) → R (.ok (.ret (.ref ra))) { s with heap := h', toks := tk }) :
    codeS (model PySem.Challenge.rw_xw0352_01.prog w) ⟨hdl, dep, some (env :: outer), gd, un⟩ (.call (.ref 1161) ⟨[.ref x, .int 251 ts, .bytes b tb, .bool false], []⟩) R s := by
  rcases Nat.eq_zero_or_pos b.size with h0 | h0
  · obtain rfl := Array.eq_empty_of_size_eq_zero h0
    exact c_arrive_nil hrest o1 o2 o3 o4 o5 hh hn B F X N T hf hke hd hu h
  · exact c_arrive_one hb h0 hrest o1 o2 o3 o4 o5 hh hn B F X N T hf hke hd hu h
theorem pickC {g h : Heap} {L : Addr} {a b c e xw dw q dq xs ds x dx : Addr × Obj} {l : List (Addr × Obj)} (N : News g L h (a :: b :: c :: e :: xw :: dw :: q :: dq :: xs :: ds :: x :: dx :: l)) : News g L h (e :: xw :: dw :: x :: dx :: a :: b :: c :: q :: dq :: xs :: ds :: l) := by
  repeat (refine List.forall_mem_cons.mpr ⟨N _ (by k_mem), ?_⟩)
  exact fun z hz => N z (by repeat' first | exact hz | apply List.Mem.tail)
theorem pickS {g h : Heap} {L : Addr} {a b c e xw dw q dq xs ds x dx oT cM t5 t2 : Addr × Obj} {l : List (Addr × Obj)} (N : News g L h (e :: xw :: dw :: x :: dx :: a :: b :: c :: q :: dq :: xs :: ds :: oT :: cM :: t5 :: t2 :: l)) : News g L h (t5 :: x :: dx :: a :: b :: c :: q :: dq :: xs :: ds :: cM :: oT :: t2 :: l) := by
  repeat (refine List.forall_mem_cons.mpr ⟨N _ (by k_mem), ?_⟩)
  exact fun z hz => N z (by repeat' first | exact hz | apply List.Mem.tail)
theorem pickM {g h : Heap} {L : Addr} {a b c q dq xs ds x dx oT cM t5 t2 : Addr × Obj} {own l : List (Addr × Obj)} (N : News g L h ((t5 :: x :: dx :: own) ++ (a :: b :: c :: q :: dq :: xs :: ds :: cM :: oT :: t2 :: l))) : News g L h (a :: b :: c :: x :: dx :: q :: dq :: xs :: ds :: cM :: oT :: t2 :: t5 :: (own ++ l)) := by
  have N1 : News g L h (t5 :: x :: dx :: own) := news_app_l N
  have N2 := news_app_r N
  clear N
  repeat (refine List.forall_mem_cons.mpr ⟨(by first | exact N1 _ (by k_mem) | exact N2 _ (by k_mem)), ?_⟩)
  exact fun z hz => (List.mem_append.mp hz).elim (fun hz => N1 z (by repeat' first | exact hz | apply List.Mem.tail)) fun hz => N2 z (by repeat' first | exact hz | apply List.Mem.tail)
theorem pickE {g h : Heap} {L : Addr} {t5 t2 : Addr × Obj} {o2 o1 l : List (Addr × Obj)} (N : News g L h (t2 :: (o2 ++ (t5 :: (o1 ++ l))))) : News g L h (t5 :: t2 :: ((o2 ++ o1) ++ l)) := by
  have N1 : News g L h o2 := news_app_l (news_tail N)
  have N2 := news_app_r (news_tail N)
  refine List.forall_mem_cons.mpr ⟨N2 _ (.head _), List.forall_mem_cons.mpr ⟨N _ (.head _), ?_⟩⟩
  exact fun z hz => (List.mem_append.mp hz).elim (fun hz => (List.mem_append.mp hz).elim (N1 z) fun hz => N2 z (.tail _ (List.mem_append_left _ hz))) fun hz => N2 z (.tail _ (List.mem_append_right _ hz))
theorem made1_mono {ps : Array Value} {l l' : List (Addr × Obj)} (h : Made1 ps l) (hs : ∀ z ∈ l, z ∈ l') : Made1 ps l' := by
  obtain ⟨c, oc, vs, t, e, hm, r⟩ := h
  exact ⟨c, oc, vs, t, e, hs _ hm, r⟩
theorem tab1_mono {ps : Array Value} {l l' : List (Addr × Obj)} (h : Tab1 ps l) (hs : ∀ z ∈ l, z ∈ l') : Tab1 ps l' := h.imp id fun q => made1_mono q hs
theorem fr_gen {g h : Heap} {L : Addr} {m : Str → Option Value} (F : Fr g L h m) : ∃ m0, Fr g L h m0 ∧ m0 = m := ⟨m, F, rfl⟩
def noStr (o : Obj) : Prop := ∀ vs, o.data = .fields vs → ∀ (q : Str) t, vs[1]? ≠ some (.str q t)
theorem made1_strip {ps : Array Value} {own pre rest : List (Addr × Obj)} (h : Made1 ps (own ++ (pre ++ rest))) (hp : ∀ z ∈ pre, noStr z.2) : Made1 ps (own ++ rest) := by
  obtain ⟨c, oc, vs, t, e, hm, h1, h2⟩ := h
  refine ⟨c, oc, vs, t, e, ?_, h1, h2⟩
  rcases List.mem_append.mp hm with hm | hm
  · exact List.mem_append_left _ hm
  · rcases List.mem_append.mp hm with hm | hm
    · exact absurd h2 (hp _ hm vs h1 _ _)
    · exact List.mem_append_right _ hm
theorem codeOf_strip {c : Addr} {oc : Obj} {q : Str} {z : Addr × Obj} {a l : List (Addr × Obj)} (h : CodeOf c oc q (a ++ (z :: l))) (hz : noStr z.2) : CodeOf c oc q (a ++ l) := by
  obtain ⟨hm, vs, t, h1, h2⟩ := h
  refine ⟨?_, vs, t, h1, h2⟩
  rcases List.mem_append.mp hm with hm | hm
  · exact List.mem_append_left _ hm
  · rcases List.mem_cons.mp hm with rfl | hm
    · exact absurd h2 (hz vs h1 _ _)
    · exact List.mem_append_right _ hm
theorem tabL_strip {ps : Array Value} {z : Addr × Obj} {a l : List (Addr × Obj)} (h : TabL ps (a ++ (z :: l))) (hz : noStr z.2) : TabL ps (a ++ l) := by
  rcases h with ⟨c, oc, e, h1⟩ | ⟨c, oc, c2, oc2, e, h1, h2⟩
  · exact .inl ⟨c, oc, e, codeOf_strip h1 hz⟩
  · exact .inr ⟨c, oc, c2, oc2, e, codeOf_strip h1 hz, codeOf_strip h2 hz⟩
theorem made1_noStr {ps : Array Value} {l : List (Addr × Obj)} (h : Made1 ps l) : noStr (tabObj ps) := by
  obtain ⟨c, oc, vs, t, rfl, _⟩ := h
  intro vs hv q t hq
  cases hv
  cases hq
theorem tab2_noStr {ps : Array Value} {l : List (Addr × Obj)} (h : Tab2 ps l) : noStr (tabObj ps) := by
  rcases h with rfl | ⟨c, oc, rfl, _⟩ | ⟨c, oc, c2, oc2, rfl, _⟩ <;> (intro vs hv q t hq; cases hv; cases hq)
theorem noStr_cell {o : Obj} {v : Option Value} (h : o.data = .cell v) : noStr o := fun vs hv => by rw [h] at hv; cases hv
/-- the two kinds of error that the law tries: none at all, or one of the texts -/
inductive EvK : Value → Prop
  | none : EvK .none
  | er (er : Er) (te : Tok) : EvK (.str er.text te)
theorem c_closed_ev {ev : Value} (hev : EvK ev) {x dx : Addr} {u0 u1 u2 u3 u4 u5 u6 u7 u8 u9 u10 u11 u12 u13 : Tok} {v_limits v_local v_remote v_state v_sender v_receiver v_clock v_congestion v_acks v_probes v_unanswered v_is_nagle : Value} {e xw dw : Addr} {eo : Obj} {a0 a1 a2 a3 a4 a5 : Tok} {vw_size vw_slots vw_late vw_reached vw_given : Value} {rest : List (Addr × Obj)} (hr : ∀ q ∈ rest, q.1 ≠ dx) (hxd : @Ne Nat x dx) (h1 : @Ne Nat e dx) (h2 : @Ne Nat xw dx) (h3 : @Ne Nat dw dx) (hh : hdl = none)
    (hid : Obj.IsDictOf (intKind PySem.Challenge.rw_xw0352_01.prog w) eo []) (hsm : (e == sysModules) = false) (hn : news = (e, eo) :: (xw, instObj 863 dw) :: (dw, whlO w.params a0 a1 a2 a3 a4 a5 vw_size vw_slots vw_late (.ref e) vw_reached vw_given) :: (x, instObj 927 dx) :: (dx, tcbO w.params u0 u1 u2 u3 u4 u5 u6 u7 u8 u9 u10 u11 u12 u13 v_limits v_local v_remote v_state v_sender v_receiver v_clock v_congestion v_acks (.ref xw) (.none) v_probes v_unanswered v_is_nagle) :: rest)
    (B : Below A₀ base outer h₀) (F : Fr h₀ L s.heap m) (X : (K w.params).In h₀) (N : News h₀ L s.heap news) (T : Top p loose mean mg mb h₀) (hf : env.frame = some L) (hke : env.scope.kind = .function) (hd : dep < 605) (hu : un < 2000)
    (h : ∀ h' tk ts, Fr h₀ L h' m → News h₀ L h' ((e, eo) :: (xw, instObj 863 dw) :: (dw, whlO w.params a0 a1 a2 a3 a4 a5 vw_size vw_slots vw_late (.ref e) vw_reached vw_given) :: (x, instObj 927 dx) :: (dx, tcbO w.params u0 u1 u2 u3 u4 u5 u6 u7 u8 u9 u10 u11 u12 u13 v_limits v_local v_remote (.str "closed" ts) v_sender v_receiver v_clock v_congestion v_acks (.ref xw) (ev) v_probes v_unanswered v_is_nagle) :: rest) → R (.ok (.ret .none)) { s with heap := h', toks := tk }) :
    codeAny (model PySem.Challenge.rw_xw0352_01.prog w) ⟨hdl, dep, some (env :: outer), gd, un⟩ (.call (.ref 938) ⟨[.ref x, ev], []⟩) R s := by
  cases hev with
  | none => exact c_closed_none hr hxd h1 h2 h3 hh hid hsm hn B F X N T hf hke hd hu h
  | er er te => exact c_closed_err er hr hxd h1 h2 h3 hh hid hsm hn B F X N T hf hke hd hu h
theorem c_states_ev {ev : Value} (hev : EvK ev) {x dx : Addr} {u0 u1 u2 u3 u4 u5 u6 u7 u8 u9 u10 u11 u12 u13 : Tok} {v_limits v_local v_remote v_sender v_receiver v_clock v_congestion v_acks v_wheel v_probes v_unanswered v_is_nagle : Value} {st : Value} {rest : List (Addr × Obj)} {ps : Array Value} (hr : ∀ q ∈ rest, q.1 ≠ dx) (hr2 : ∀ q ∈ rest, q.1 ≠ 1275) (hxd : x ≠ dx) (hx5 : x ≠ 1275) (hd5 : dx ≠ 1275) (htab : Tab1 ps rest)
    (hn : news = (1275, tabObj ps) :: (x, instObj 927 dx) :: (dx, tcbO w.params u0 u1 u2 u3 u4 u5 u6 u7 u8 u9 u10 u11 u12 u13 v_limits v_local v_remote (st) v_sender v_receiver v_clock v_congestion v_acks v_wheel (ev) v_probes v_unanswered v_is_nagle) :: rest) (hh : hdl = none)
    (B : Below A₀ base outer h₀) (F : Fr h₀ L s.heap m) (X : (K w.params).In h₀) (N : News h₀ L s.heap news) (T : Top p loose mean mg mb h₀) (hf : env.frame = some L) (hke : env.scope.kind = .function) (hd : dep < 605) (hu : un < 2000) (XB : (K w.params).In base) (TB : Top p loose mean mg mb base) (CB : CodeHd base 1279 1275)
    (h : ∀ h' tk ts h₀' own ps', KtsTurn (frs outer) h₀ h₀' → Made1 ps' (own ++ rest) → (∀ q ∈ own, dx < q.1 ∧ x < q.1 ∧ L < q.1 ∧ 1275 < q.1 ∧ ∀ r ∈ rest, r.1 < q.1) → Fr h₀' L h' m → News h₀' L h' ((1275, tabObj ps') :: (x, instObj 927 dx) :: (dx, tcbO w.params u0 u1 u2 u3 u4 u5 u6 u7 u8 u9 u10 u11 u12 u13 v_limits v_local v_remote (.str "closed" ts) v_sender v_receiver v_clock v_congestion v_acks v_wheel (ev) v_probes v_unanswered v_is_nagle) :: own ++ rest) → Below A₀ base outer h₀' → R (.ok (.ret (.bool true))) { s with heap := h', toks := tk }) :
    codeAny (model PySem.Challenge.rw_xw0352_01.prog w) ⟨hdl, dep, some (env :: outer), gd, un⟩ (.call (.ref 1280) ⟨[.ref x, ev], []⟩) R s := by
  cases hev with
  | none => exact c_states_none hr hr2 hxd hx5 hd5 htab hn hh B F X N T hf hke hd hu XB TB CB h
  | er er te => exact c_states_err er hr hr2 hxd hx5 hd5 htab hn hh B F X N T hf hke hd hu XB TB CB h
theorem c_mid_ev {ev : Value} (hev : EvK ev) {g' : Heap} {L' : Addr} {m' : Str → Option Value} {x dx xr dr ba : Addr} {ts : Tok} {w0 w1 w2 w3 w4 w5 w6 w7 w8 w9 : Tok} {v_ring v_room v_mss v_next v_assembly v_told_edge v_fin_at v_has_fin v_urgent_at : Value} {u0 u1 u2 u3 u4 u5 u6 u7 u8 u9 u10 u11 u12 u13 : Tok} {v_limits v_local v_remote v_clock v_congestion v_acks v_wheel v_probes v_unanswered v_is_nagle : Value} {q dq xs ds : Addr} {k0 k1 th : Tok} {vq_room : Value} {i0 i1 i2 i3 i4 i5 i6 i7 i8 i9 i10 : Tok} {vs_iss vs_ring vs_mss vs_una vs_next vs_greatest vs_peer vs_syn_pending vs_fin_asked vs_fin_sent : Value} {rest : List (Addr × Obj)} {b : Array UInt8} {cM cT : Obj} {ps : Array Value} {tb : Tok} {wl : Addr} {items : Array Value} {n : Nat} {Q : Flow → Shared → Prop} (hb : b.size ≤ 9) (hcM : ∃ v, cM.data = .cell v) (hcT : cT.data = .cell (some (.ref x)))
    (o0 : @LT.lt Nat _ (L' + 2) dx) (o1 : @LT.lt Nat _ dx x) (o2 : @LT.lt Nat _ x dr) (o3 : @LT.lt Nat _ dr xr) (o4 : @LT.lt Nat _ xr ba) (q1 : @LT.lt Nat _ L' q) (q2 : @LT.lt Nat _ L' dq) (q3 : @LT.lt Nat _ L' xs) (q4 : @LT.lt Nat _ L' ds) (hwL : @LT.lt Nat _ wl L') (h5l : @LT.lt Nat _ 1282 L') (hrd : ∀ q ∈ rest, q.1 ≠ dr) (hrm : ∀ q ∈ rest, q.1 ≠ L' + 1) (hr2 : ∀ q ∈ rest, q.1 ≠ 1282)
    (hit : ∀ (i : Nat) (v : Value), items[i]? = some v → ∃ k t, v = .int k t ∧ 0 ≤ k ∧ k ≤ 9) (hwl : (wl, W.listOf items n) ∈ rest) (htab : Tab2 ps rest)
    (me : m' "error" = some (ev)) (mo : m' "octets" = some (.bytes b tb)) (mw : m' "wants" = some (.ref wl))
    (B' : Below ⟨none, dep, some (env :: outer), gd, un⟩ base (env :: outer) g') (F' : Fr g' L' s.heap m') (X' : (K w.params).In g') (T' : Top p loose mean mg mb g') (hd : dep < 505) (hu : un < 1900) (XB : (K w.params).In base) (TB : Top p loose mean mg mb base) (CB : CodeHd base 1286 1282) (N' : News g' L' s.heap ((ba, baObj b) :: (xr, instObj 1241 dr) :: (dr, recO w.params w0 w1 w2 w3 w4 w5 w6 w7 w8 w9 v_ring v_room v_mss v_next (.ref ba) v_assembly v_told_edge v_fin_at v_has_fin v_urgent_at) :: (x, instObj 927 dx) :: (dx, tcbO w.params u0 u1 u2 u3 u4 u5 u6 u7 u8 u9 u10 u11 u12 u13 v_limits v_local v_remote (.str "closed" ts) (.ref xs) (.ref xr) v_clock v_congestion v_acks v_wheel (ev) v_probes v_unanswered v_is_nagle) :: (q, instObj 457 dq) :: (dq, dictOf [dE w.params "room" k0 (vq_room), dE w.params "held" k1 (.bytes #[] th)] 2) :: (xs, instObj 690 ds) :: (ds, sndO w.params i0 i1 i2 i3 i4 i5 i6 i7 i8 i9 i10 vs_iss vs_ring vs_mss vs_una vs_next vs_greatest vs_peer (.ref q) vs_syn_pending vs_fin_asked vs_fin_sent) :: (L' + 1, cM) :: (L' + 2, cT) :: (1282, tabObj ps) :: rest))
    (h : ∀ h'' tk m'' g'' own ps', KtsTurn (frs (env :: outer)) g' g'' → Below ⟨none, dep, some (env :: outer), gd, un⟩ base (env :: outer) g'' → TabL ps' (own ++ rest) → (∀ q ∈ own, @LT.lt Nat _ L' q.1 ∧ ∀ r ∈ rest, r.1 < q.1) → Fr g'' L' h'' m'' → News g'' L' h'' ((1282, tabObj ps') :: (own ++ rest)) → Q (.ret (.bool true)) { s with heap := h'', toks := tk }) :
    wpS (model PySem.Challenge.rw_xw0352_01.prog w) (Around.deeper ⟨none, dep, some (env :: outer), gd, un⟩ (endsEnv L')) (execs (List.drop 5 endsBody) (endsEnv L')) Q E s := by
  cases hev with
  | none => exact c_mid_none hb hcM hcT o0 o1 o2 o3 o4 q1 q2 q3 q4 hwL h5l hrd hrm hr2 hit hwl htab me mo mw B' F' X' T' hd hu XB TB CB N' h
  | er er te => exact c_mid_er er hb hcM hcT o0 o1 o2 o3 o4 q1 q2 q3 q4 hwL h5l hrd hrm hr2 hit hwl htab me mo mw B' F' X' T' hd hu XB TB CB N' h
theorem c_ends_ev {ev : Value} (hev : EvK ev) {b : Array UInt8} {tb : Tok} {wl : Addr} {items : Array Value} {n : Nat} {rest : List (Addr × Obj)} {ps1 ps2 : Array Value} (hb : b.size ≤ 9) (hr5 : ∀ q ∈ rest, q.1 ≠ 1275) (hr2 : ∀ q ∈ rest, q.1 ≠ 1282)
    (hit : ∀ (i : Nat) (v : Value), items[i]? = some v → ∃ k t, v = .int k t ∧ 0 ≤ k ∧ k ≤ 9) (hwl : (wl, W.listOf items n) ∈ rest) (htab1 : Tab1 ps1 rest) (htab2 : Tab2 ps2 rest) (hh : hdl = none)
    (hn : news = (1275, tabObj ps1) :: (1282, tabObj ps2) :: rest)
    (B : Below A₀ base outer h₀) (F : Fr h₀ L s.heap m) (X : (K w.params).In h₀) (N : News h₀ L s.heap news) (T : Top p loose mean mg mb h₀) (hf : env.frame = some L) (hke : env.scope.kind = .function) (hd : dep < 405) (hu : un < 850) (XB : (K w.params).In base) (TB : Top p loose mean mg mb base) (CB1 : CodeHd base 1279 1275) (CB2 : CodeHd base 1286 1282)
    (h : ∀ h' tk h₀' own ps1' ps2', KtsTurn (frs outer) h₀ h₀' → Tab1 ps1' (own ++ rest) → Tab2 ps2' (own ++ rest) → (∀ q ∈ own, L < q.1 ∧ 1282 < q.1 ∧ ∀ r ∈ rest, r.1 < q.1) → Fr h₀' L h' m → News h₀' L h' ((1275, tabObj ps1') :: (1282, tabObj ps2') :: (own ++ rest)) → Below A₀ base outer h₀' → R (.ok (.ret (.bool true))) { s with heap := h', toks := tk }) :
    codeS (model PySem.Challenge.rw_xw0352_01.prog w) ⟨hdl, dep, some (env :: outer), gd, un⟩ (.call (.ref 1287) ⟨[ev, .bytes b tb, .ref wl], []⟩) R s := by
  subst hh
  subst hn
  have hR := h
  clear h
  revert X; k_fill; intro X
  refine' codeS_defTC (binds := [("error", ev), ("octets", .bytes b tb), ("wants", .ref wl)]) ?k1 ?k2 ?k3 ?k4 ?k5 ?kA ?kF ?kK ?k6 ?k7 ?k8 ?k9 ?kB ?kD ?_ ?c2 ?c3 ?c4
  case kA => exact rfl
  case kF => exact hf
  case kK => exact hke
  case k1 => exact B
  case k2 => exact F
  case k3 => exact X
  case k4 => exact N
  case k5 => exact T
  case k6 => k_is
  case k7 => k_is
  case k8 => exact Nat.lt_trans hd (by decide)
  case k9 => first | exact BindsTo.of_eq rfl | exact binds_K (by k_in) rfl (by k_is) rfl rfl rfl
  case kB => exact rfl
  case kD => decide +kernel
  case c2 => exact rfl
  case c3 => exact rfl
  case c4 => exact rfl
  k_whole
  intro g' L' h' tk' cells' FG' F' N' Y' B' X' T' l1
  obtain ⟨cT, cM, hE', dT, dM⟩ := PyProof.Rows.CellsAre.two Y'
  subst hE'
  clear Y'
  simp only [List.cons_append, List.nil_append] at N'
  clear F N B X T
  try dsimp only
  replace dM : cM.data = .cell none := dM
  replace dT : cT.data = .cell none := dT
  have hLL : @LT.lt Nat _ L L' := Nat.lt_of_lt_of_le FG'.ns.lt (by have := F'.above; exact this)
  obtain ⟨m0, F0, hm0⟩ := fr_gen F'
  have me : m0 "error" = some (ev) := by rw [hm0]; rfl
  have mo : m0 "octets" = some (.bytes b tb) := by rw [hm0]; rfl
  have mw : m0 "wants" = some (.ref wl) := by rw [hm0]; rfl
  clear hm0 F'
  have F' := fr_map (x := "octets") (fr_map (x := "error") (fr_map (x := "wants") F0 mw) (by (repeat rw [if_neg (by decide)]); exact me)) (by (repeat rw [if_neg (by decide)]); exact mo)
  clear F0
  have h5l : @LT.lt Nat _ 1275 L' := l1 (1275, _) (.head _)
  have h2l : @LT.lt Nat _ 1282 L' := l1 (1282, _) (.tail _ (.head _))
  have hrl : ∀ q ∈ rest, q.1 < L' := fun q hq => l1 _ (.tail _ (.tail _ hq))
  have hrM : ∀ q ∈ rest, q.1 ≠ L' + 1 := fun q hq => Nat.ne_of_lt (Nat.lt_succ_of_lt (hrl q hq))
  have hrT : ∀ q ∈ rest, q.1 ≠ L' + 2 := fun q hq => Nat.ne_of_lt (Nat.lt_succ_of_lt (Nat.lt_succ_of_lt (hrl q hq)))
  have hrT' : ∀ q ∈ rest, q.1 ≠ L' + 1 + 1 := hrT
  clear l1
  refine wpS_execs_any ?_
  change wpAny _ _ _ _ _ _
  k_fold
  k_steps
  refine Stop.mk ?_
  rename News _ _ _ _ => N9
  rename Fr _ _ _ _ => F9
  refine' wpAny_call (c_limits_new (hd := ?hd) (hu := ?hu) B' F9 X' N9 T' rfl rfl ?_)
  case hd => show dep + 1 < 505; exact lin (k := 1) hd (by decide)
  case hu => show un + 3 < 1500; exact lin (k := 3) hu (by decide)
  intro xl dl h2 tk2 z0 z1 z2 z3 z4 z5 z6 z7 z8 z9 F10 hl1 hl2 N10
  clear F9 N9
  dsimp only
  k_steps
  refine Stop.mk ?_
  rename News _ _ _ _ => N9
  rename Fr _ _ _ _ => F9
  replace N9 := news_tail2 N9
  refine' wpAny_call (c_tcb_new ?hrm rfl rfl (hd := ?hd) (hu := ?hu) B' F9 X' N9 T' rfl rfl ?_)
  case hrm => decide
  case hd => show dep + 1 < 425; exact lin (k := 1) hd (by decide)
  case hu => show un + 3 < 900; exact lin (k := 3) hu (by decide)
  intro x dx h3 tk3 ts u0 u1 u2 u3 u4 u5 u6 u7 u8 u9 u10 u11 u12 u13 v_limits v_local v_remote v_clock v_congestion v_acks v_probes v_unanswered v_is_nagle e eo xw dw a0 a1 a2 a3 a4 a5 vw_size vw_slots vw_late vw_reached vw_given q dq w0 w1 vq_room th xs ds s0 s1 s2 s3 s4 s5 s6 s7 s8 s9 s10 vs_iss vs_ring vs_mss vs_una vs_next vs_greatest vs_peer vs_syn_pending vs_fin_sent F11 hid hsm f1 f2 p2 p3 p4 p5 p6 p7 prest N11
  have e1 : @LT.lt Nat _ (L' + 2) dx := prest (L' + 2, _) (by k_mem)
  have e2 : @LT.lt Nat _ dx x := f1
  have e3 : @LT.lt Nat _ x ds := f2
  have e4 : @LT.lt Nat _ ds xs := p2
  have e5 : @LT.lt Nat _ xs dq := p3
  have e6 : @LT.lt Nat _ dq q := p4
  have e7 : @LT.lt Nat _ q dw := p5
  have e8 : @LT.lt Nat _ dw xw := p6
  have e9 : @LT.lt Nat _ xw e := p7
  obtain ⟨n1, n2, n3, n4, n5, n6, n7, n8, n9, n10, n11, n12, m1, m2, m3, m4, m5, m6, m7, m8, m9, m10, m11, m12, k1, k2, k3, k4, k5, k6, k7, k8, k9, y1, y2, y3, y4⟩ := chain_c h5l h2l e1 e2 e3 e4 e5 e6 e7 e8 e9
  clear F9 N9
  change wpAny _ _ _ _ _ _
  k_steps
  rename _ = Data.cell (some (Value.ref x)) => dT2
  rename Obj => oT
  refine wpS_execs_cons (wpS_Assign_Attribute ?_)
  refine evalS_Call_Name rfl ?_
  k_fold
  k_steps
  refine callWithS_K (K := K w.params) (by k_is) ?_
  k_fold
  k_steps
  try dsimp only [List.nil_append, List.cons_append]
  rename News _ _ _ _ => N9
  rename Fr _ _ _ _ => F9
  refine' wpS_call (c_recv_new (hd := ?hd) (hu := ?hu) B' F9 X' N9 T' rfl rfl ?_)
  case hd => show dep + 1 < 465; exact lin (k := 1) hd (by decide)
  case hu => show un + 3 < 1200; exact lin (k := 3) hu (by decide)
  intro xr dr h4 tk4 pl am da ba j0 j1 w0 w1 w2 w3 w4 w5 w6 w7 w8 w9 tn tt F12 rrest r2 r3 r4 r5 r6 N12
  have g1 : @LT.lt Nat _ e dr := rrest (e, _) (by k_mem)
  have g2 : @LT.lt Nat _ dr xr := r2
  have g3 : @LT.lt Nat _ xr ba := r3
  have g4 : @LT.lt Nat _ ba da := r4
  have g5 : @LT.lt Nat _ da am := r5
  have g6 : @LT.lt Nat _ am pl := r6
  obtain ⟨m13, m14, m15, m16, m17, m18, k10, k11, k12, d1, d2, d3, d4, d5, d6, d7, d8, d9, d10, d11, d12⟩ := chain_d h5l h2l e1 e2 e3 e4 e5 e6 e7 e8 e9 g1 g2 g3 g4 g5 g6
  have hrx : ∀ q ∈ rest, q.1 ≠ dx := fun q hq => Nat.ne_of_lt (prest q (by repeat' first | exact hq | apply List.Mem.tail))
  have hrrest : ∀ q ∈ rest, q.1 < dr := fun q hq => rrest q (by repeat' first | exact hq | apply List.Mem.tail)
  clear F9 N9
  try dsimp only
  change wpAny _ _ _ _ _ _
  k_fold
  k_steps
  refine wpS_execs_cons (wpS_Expr ?_)
  refine evalS_Call_Attr rfl rfl rfl ?_
  change wpAny _ _ (eval _ _) _ _ _
  k_fold
  k_steps
  refine callWithS_K (K := K w.params) (by k_is) ?_
  k_fold
  k_steps
  try dsimp only [List.nil_append, List.cons_append]
  rename News _ _ _ _ => N9
  rename Fr _ _ _ _ => F9
  refine' wpS_call (c_arrive (hd := ?hd) (hu := ?hu) hb ?hrs g2 g3 g4 g5 g6 rfl rfl B' F9 X' N9 T' rfl rfl ?_)
  case hd => show dep + 1 < 445; exact lin (k := 1) hd (by decide)
  case hu => show un + 3 < 1100; exact lin (k := 3) hu (by decide)
  case hrs =>
    repeat (refine List.forall_mem_cons.mpr ⟨by assumption, ?_⟩)
    exact hrrest
  intro h5 tk5 nx ra F13 N13
  clear F9 N9
  refine wpAny_dropValue ?_
  dsimp only
  refine wpS_execs_any ?_
  change wpAny _ _ _ _ _ _
  k_fold
  k_steps
  refine Stop.mk ?_
  rename News _ _ _ _ => N9
  rename Fr _ _ _ _ => F9
  replace N9 := pickC N9
  refine' wpAny_call (c_closed_ev hev (hd := ?hd) (hu := ?hu) ?c1 (Nat.ne_of_gt e2) m1 m2 m3 rfl hid hsm rfl B' F9 X' N9 T' rfl rfl ?_)
  case hd => show dep + 1 < 605; exact lin (k := 1) hd (by decide)
  case hu => show un + 3 < 2000; exact lin (k := 3) hu (by decide)
  case c1 => exact List.forall_mem_cons.mpr ⟨m16, List.forall_mem_cons.mpr ⟨m17, List.forall_mem_cons.mpr ⟨m18, List.forall_mem_cons.mpr ⟨m4, List.forall_mem_cons.mpr ⟨m5, List.forall_mem_cons.mpr ⟨m6, List.forall_mem_cons.mpr ⟨m7, List.forall_mem_cons.mpr ⟨m10, List.forall_mem_cons.mpr ⟨m9, List.forall_mem_cons.mpr ⟨m11, List.forall_mem_cons.mpr ⟨m12, hrx⟩⟩⟩⟩⟩⟩⟩⟩⟩⟩⟩
  intro h6 tk6 ts6 F14 N14
  clear F9 N9
  dsimp only
  k_steps
  refine wpS_execs_any ?_
  change wpAny _ _ _ _ _ _
  k_fold
  k_steps
  refine Stop.mk ?_
  rename News _ _ _ _ => N9
  rename Fr _ _ _ _ => F9
  replace N9 := pickS N9
  refine' wpAny_call (c_states_ev hev (hd := ?hd) (hu := ?hu) ?c1 ?c2 (Nat.ne_of_gt e2) (Nat.ne_of_gt k8) (Nat.ne_of_gt k9) (tab1_mono htab1 ?c5) rfl rfl B' F9 X' N9 T' rfl rfl XB TB CB1 ?_)
  case hd => show dep + 1 < 605; exact lin (k := 1) hd (by decide)
  case hu => show un + 3 < 2000; exact lin (k := 3) hu (by decide)
  case c1 => exact List.forall_mem_cons.mpr ⟨m16, List.forall_mem_cons.mpr ⟨m17, List.forall_mem_cons.mpr ⟨m18, List.forall_mem_cons.mpr ⟨m4, List.forall_mem_cons.mpr ⟨m5, List.forall_mem_cons.mpr ⟨m6, List.forall_mem_cons.mpr ⟨m7, List.forall_mem_cons.mpr ⟨m9, List.forall_mem_cons.mpr ⟨m10, List.forall_mem_cons.mpr ⟨m12, hrx⟩⟩⟩⟩⟩⟩⟩⟩⟩⟩
  case c2 => exact List.forall_mem_cons.mpr ⟨k10, List.forall_mem_cons.mpr ⟨k11, List.forall_mem_cons.mpr ⟨k12, List.forall_mem_cons.mpr ⟨k1, List.forall_mem_cons.mpr ⟨k2, List.forall_mem_cons.mpr ⟨k3, List.forall_mem_cons.mpr ⟨k4, List.forall_mem_cons.mpr ⟨k5, List.forall_mem_cons.mpr ⟨k6, List.forall_mem_cons.mpr ⟨k7, hr5⟩⟩⟩⟩⟩⟩⟩⟩⟩⟩
  case c5 => exact fun z hz => by repeat' first | exact hz | apply List.Mem.tail
  intro h7 tk7 ts7 g₁ own1 ps1' hT1 hmd1 hfr1 F15 N15 hB1
  clear F9 N9
  have X₁ : (K w.params).In g₁ := XB.keeps hB1.stays
  have P₁ : Top p loose mean mg mb g₁ := TB.keeps hB1.stays
  clear B' X' T'
  change wpAny _ _ _ _ _ _
  k_steps
  rename News _ _ _ _ => N9
  rename Fr _ _ _ _ => F9
  replace N9 := pickM N9
  have ho1 : ∀ q ∈ own1, @LT.lt Nat _ dr q.1 ∧ @LT.lt Nat _ L' q.1 ∧ ∀ r ∈ rest, r.1 < q.1 := fun q hq => by
    obtain ⟨_, _, y3, _, y5⟩ := hfr1 q hq
    exact ⟨y5 (dr, _) (by k_mem), y3, fun r hr => y5 r (by repeat' first | exact hr | apply List.Mem.tail)⟩
  refine' c_mid_ev hev hb ⟨_, dM⟩ dT2 e1 e2 d7 g2 g3 y1 y2 y3 y4 (hrl (wl, _) hwl) h2l ?l1 ?l2 ?l3 hit (.tail _ (List.mem_append_right _ hwl)) (htab2.mono fun z hz => .tail _ (List.mem_append_right _ hz)) rfl rfl rfl hB1 F9 X₁ P₁ ?hd ?hu XB TB CB2 N9 ?_
  case hd => exact Nat.lt_of_lt_of_le hd (by decide)
  case hu => exact Nat.lt_of_lt_of_le hu (by decide)
  case l1 => exact List.forall_mem_cons.mpr ⟨Nat.ne_of_lt d11, fun q hq => by
    rcases List.mem_append.mp hq with hq | hq
    · exact Nat.ne_of_gt (ho1 q hq).1
    · exact Nat.ne_of_lt (hrrest q hq)⟩
  case l2 => exact List.forall_mem_cons.mpr ⟨Nat.ne_of_lt (Nat.lt_succ_of_lt h5l), fun q hq => by
    rcases List.mem_append.mp hq with hq | hq
    · exact Nat.ne_of_gt (Nat.lt_trans d9 (ho1 q hq).1)
    · exact hrM q hq⟩
  case l3 => exact List.forall_mem_cons.mpr ⟨by show @Ne Nat 1275 1282; decide, fun q hq => by
    rcases List.mem_append.mp hq with hq | hq
    · exact Nat.ne_of_gt (Nat.lt_trans h2l (ho1 q hq).2.1)
    · exact hr2 q hq⟩
  intro h8 tk8 m8 g8 own2 ps2' hT2 hB2 htL hfr2 F16 N16
  refine leaveT_ F16 N16 (hT1.trans hT2) (fun h₀' Tt kF kN kB => hR _ _ h₀' (own2 ++ own1) ps1' ps2' Tt ?_ ?_ ?_ kF (pickE kN) kB)
  · refine .inr (made1_mono (made1_strip (pre := [_, _, _, _, _, _, _, _, _, _]) hmd1 ?_) fun z hz => ?_)
    · refine List.forall_mem_cons.mpr ⟨(fun vs hv => by cases hv), List.forall_mem_cons.mpr ⟨(fun vs hv => by cases hv), List.forall_mem_cons.mpr ⟨(fun vs hv => by cases hv), List.forall_mem_cons.mpr ⟨(fun vs hv => by cases hv), List.forall_mem_cons.mpr ⟨(fun vs hv => by cases hv), List.forall_mem_cons.mpr ⟨(fun vs hv => by cases hv), List.forall_mem_cons.mpr ⟨(fun vs hv => by cases hv), List.forall_mem_cons.mpr ⟨noStr_cell dM, List.forall_mem_cons.mpr ⟨noStr_cell dT2, List.forall_mem_cons.mpr ⟨tab2_noStr htab2, fun _ q => nomatch q⟩⟩⟩⟩⟩⟩⟩⟩⟩⟩
    · rcases List.mem_append.mp hz with hz | hz
      · exact List.mem_append_left _ (List.mem_append_right _ hz)
      · exact List.mem_append_right _ hz
  · refine .inr ?_
    rw [List.append_assoc]
    exact tabL_strip htL (made1_noStr hmd1)
  · intro q hq
    rcases List.mem_append.mp hq with hq | hq
    · obtain ⟨y1, y2⟩ := hfr2 q hq
      exact ⟨Nat.lt_trans hLL y1, Nat.lt_trans h2l y1, fun r hr => y2 r (.tail _ (List.mem_append_right _ hr))⟩
    · obtain ⟨_, y2, y3⟩ := ho1 q hq
      exact ⟨Nat.lt_trans hLL y2, Nat.lt_trans h2l y2, y3⟩
end
end Mine.Internal
end TCEnds
section TSLoop
open PySem PySem.W PySem.Calls PyProof.Rows
set_option Elab.async false
set_option maxRecDepth 100000
set_option maxHeartbeats 4000000
namespace Mine.Internal
open Sem (wp)
section
variable {M : Model} {A : Around} {E : Value → Shared → Prop} {s : Shared} {env : Env}
theorem wpS_runOwn {c : Code} {Q : Flow → Shared → Prop}
    (hc : codeS M (A.mark none) c (fun r s' => match r with | .ok f => Q f s' | .error e => cameBackBy M A env E e s') s) :
    wpS M A (runOwn c env none) Q E s := by
  unfold runOwn
  exact wpS_onRaise (wpS_run (codeS_mono hc fun r s' q => by cases r with | ok f => exact q | error e => exact wpS_any q) (by intro x; cases x))
theorem wpS_For {target iter body orelse pos} {Q : Flow → Shared → Prop}
    (h : wpAny M A (eval iter env) (fun x s₁ => wpAny M A (pyIter x) (fun it s₂ =>
      codeS M (A.mark none) (.forLoop target it body orelse env) (fun r s' => match r with | .ok f => Q f s' | .error e => cameBackBy M A env E e s') s₂) E s₁) E s)
    (hs : ∀ x, foldedSetIterable iter env x = pure x := by intro _; rfl) :
    wpS M A (exec (.For target iter body orelse pos) env) Q E s := by
  rw [exec_For]
  refine wpS_bind (wpS_standAt (wpS_then (wpAny_mono h (fun x s₁ h₁ => wpS_then (wpAny_of_eq (hs x) (wpS_bind (wpS_standAt (wpS_then (wpAny_holding
    (wpAny_mono h₁ (fun it s₂ h₂ => wpS_runOwn h₂) fun _ _ h' => h'))))))) fun _ _ h' => h')))
theorem wpS_isTrue_plain {e : PySem.Expr} {whole : Sem Value} {Q : Bool → Shared → Prop} (h : wpS M A whole (fun v s₁ => wpAny M A (truthy v) Q E s₁) E s)
    (he : isTrue e env whole = (do let v ← whole; standAt e.pos; holding [v] (truthy v)) := by rfl) : wpS M A (isTrue e env whole) Q E s := by
  rw [he]
  exact wpS_bind (wpS_mono h (fun v s₁ h₁ => wpS_bind (wpS_standAt (wpS_holding (wpS_any h₁)))) fun _ _ x => x)
end
section
variable {prog : Program} {w : World} {A : Around} {E : Value → Shared → Prop} {s : Shared} {R : Result → Shared → Prop} {env : Env}
theorem codeS_forLoop {target it body} (I : Nat → Shared → Prop)
    (turn : ∀ n s, I n s → wpAny (model prog w) A (pyNext it) (fun r s₁ => match r with
      | none => R (.ok .next) s₁
      | some v => wpAny (model prog w) A (assign target env v) (fun _ s₂ => wpS (model prog w) A (execs body env) (fun f s₃ => match f with
          | .next | .cont => ∃ m, m < n ∧ I m s₃
          | .brk => R (.ok .next) s₃
          | .ret v => R (.ok (.ret v)) s₃) (notedBy (model prog w) A env fun e s' => R (.error e) s') s₂) (notedBy (model prog w) A env fun e s' => R (.error e) s') s₁) (notedBy (model prog w) A env fun e s' => R (.error e) s') s)
    (n : Nat) (h : I n s) (ht : ∀ v, letOwnedTupleGo target it v = pure () := by intro _; rfl) : codeS (model prog w) A (.forLoop target it body [] env) R s := by
  induction n using Nat.strongRecOn generalizing s with
  | ind n ih =>
    refine codeS_of_tree rfl ?_
    show wpS _ _ ((forTurn target it body [] env).onRaise (fun x => do noteFrame x env; theTreesLotGoes x)) _ _ s
    refine wpS_onRaise (wpS_mono (Q := fun fin s' => match fin with | .done f => R (.ok f) s' | .again c' => c'.quiet = true ∧ codeS (model prog w) A c' R s') (E' := _) (E := notedBy (model prog w) A env fun e s' => R (.error e) s') ?_ (fun _ _ q => q) fun _ _ hx => wpS_any (wpAny_bind (wpAny_mono hx (fun _ _ e => wpAny_theTreesLotGoes e) fun _ _ e => e)))
    simp only [forTurn]
    refine wpS_bind (wpS_standAt (wpS_then (wpAny_onRaise (wpAny_mono (turn n s h) (fun r s₁ h₁ => ?_) fun _ _ h' => wpAny_standAt h'))))
    cases r with
    | none => exact wpS_pure ⟨rfl, codeS_any (codeAny_block (wpAny_execs_nil h₁))⟩
    | some v =>
      refine wpS_then (wpAny_of_eq (ht v) ?_)
      refine wpS_then (wpAny_mono h₁ (fun _ s₂ h₂ => wpS_bind (wpS_mono h₂ (fun f s₃ h₃ => ?_) fun _ _ h' => h')) fun _ _ h' => h')
      cases f with
      | next => obtain ⟨m, hm, hI⟩ := h₃; exact wpS_pure ⟨rfl, ih m hm hI⟩
      | cont => obtain ⟨m, hm, hI⟩ := h₃; exact wpS_pure ⟨rfl, ih m hm hI⟩
      | brk => exact wpS_pure h₃
      | ret v => exact wpS_pure h₃
theorem forListS {x : Str} {px : Pos} {body : List Stmt} {it l : Addr} {items : Array Value} (J : Nat → Shared → Prop) (hh : A.handled = none)
    (hJ : ∀ i s', J i s' → s'.heap.IsListIter it l i ∧ s'.heap.IsList l items)
    (turn : ∀ i v s' h₁, items[i]? = some v → J i s' → h₁.IsListIter it l (i + 1) → Heap.SameBut it s'.heap h₁ →
      wpAny (model prog w) A (storeName env x v) (fun _ s₂ => wpS (model prog w) A (execs body env) (fun f s₃ => match f with
          | .next | .cont => J (i + 1) s₃
          | .brk => R (.ok .next) s₃
          | .ret v => R (.ok (.ret v)) s₃) (notedBy (model prog w) A env fun e s' => R (.error e) s') s₂) (notedBy (model prog w) A env fun e s' => R (.error e) s') { s' with heap := h₁ })
    (done : ∀ s' h₁, J items.size s' → Heap.ExtBut it s'.heap h₁ → R (.ok .next) { s' with heap := h₁ }) (h0 : J 0 s) :
    codeS (model prog w) A (.forLoop (.Name x px) (.ref it) body [] env) R s := by
  refine codeS_forLoop (fun n s' => ∃ i, n = items.size + 1 - i ∧ i ≤ items.size ∧ J i s') ?_ (items.size + 1) ⟨0, rfl, Nat.zero_le _, h0⟩
  rintro n s' ⟨i, rfl, hi, hj⟩
  obtain ⟨h1, h2⟩ := hJ i s' hj
  by_cases hlt : i < items.size
  · refine wpAny_pyNext_list_item h1 h2 (x := items[i]) (by simp [hlt]) fun h₁ hit hs => ?_
    dsimp only
    refine wpAny_assign_Name (wpAny_mono (turn i _ s' h₁ (by simp [hlt]) hj hit hs) (fun _ s₂ q => wpS_mono q (fun f s₃ q => ?_) fun _ _ q => q) fun _ _ q => q)
    cases f with
    | next => exact ⟨items.size + 1 - (i + 1), by omega, i + 1, rfl, hlt, q⟩
    | cont => exact ⟨items.size + 1 - (i + 1), by omega, i + 1, rfl, hlt, q⟩
    | brk => exact q
    | ret v => exact q
  · obtain rfl : i = items.size := by omega
    refine wpAny_pyNext_list_end hh h1 h2 (by simp) fun h₁ hx => ?_
    dsimp only
    exact done s' h₁ hj hx
end
section
variable {prog : Program} {w : World} {A : Around} {E : Value → Shared → Prop} {s : Shared} {R : Result → Shared → Prop} {x : Str} {px : Pos} {body : List Stmt} {env : Env} {g' : Heap} {L' l : Addr} {m' : Str → Option Value} {lst : List (Addr × Obj)} {items : Array Value} {n : Nat}
theorem for_turnsS (J : Nat → Heap → (Str → Option Value) → List (Addr × Obj) → Prop) (hh : (A.mark none).handled = none) (F : Fr g' L' s.heap m') (N : News g' L' s.heap ((l, W.listOf items n) :: lst))
    (turn : ∀ it itO i v g₁ m₁ led h tk, L' < it → itO.data = .fields #[.ref l, .int ((i + 1 : Nat) : Int) 0] → l < it → (∀ q ∈ lst, q.1 < it) → items[i]? = some v → J i g₁ m₁ led → (∀ q ∈ led, q.1 ≠ it) → Fr g₁ L' h m₁ → News g₁ L' h ((it, itO) :: (l, W.listOf items n) :: led) →
      wpAny (model prog w) (A.mark none) (storeName env x v) (fun _ s₂ => wpS (model prog w) (A.mark none) (execs body env) (fun f s₃ => match f with
          | .next | .cont => TurnEnd (J (i + 1)) s L' (it, itO) (l, W.listOf items n) s₃
          | .brk => R (.ok .next) s₃
          | .ret v => R (.ok (.ret v)) s₃) (notedBy (model prog w) (A.mark none) env fun e s' => R (.error e) s') s₂) (notedBy (model prog w) (A.mark none) env fun e s' => R (.error e) s') { s with heap := h, toks := tk })
    (done : ∀ g₁ m₁ led h tk, J items.size g₁ m₁ led → Fr g₁ L' h m₁ → News g₁ L' h ((l, W.listOf items n) :: led) → R (.ok .next) { s with heap := h, toks := tk })
    (h0 : J 0 g' m' lst) :
    wpAny (model prog w) A (pyIter (.ref l)) (fun it s₂ => codeS (model prog w) (A.mark none) (.forLoop (.Name x px) it body [] env) R s₂) E s := by
  have hl0 := N _ (.head _)
  have lts : ∀ q ∈ lst, q.1 < s.heap.objs.size := fun q hq => Heap.lt_size (N q (.tail _ hq)).1
  have ltl : l < s.heap.objs.size := Heap.lt_size hl0.1
  have ltL : L' < s.heap.objs.size := F.ns.lt
  refine wpAny_pyIter_list ⟨_, hl0.1, rfl, _, rfl⟩ ?_
  refine forListS (l := l) (items := items) (fun i s' => TurnMid (J i) s L' (l, W.listOf items n) (.type "list_iterator") (.fields #[.ref l, .int i 0]) s') hh ?_ ?_ ?_ ?_
  · rintro i s' ⟨h, tk, g₁, m₁, led, itO, rfl, hj, hne, F₁, N₁, hc, hd⟩
    exact ⟨⟨_, (N₁ _ (.head _)).1, hc, hd⟩, ⟨_, (N₁ _ (.tail _ (.head _))).1, rfl, _, rfl⟩⟩
  · rintro i v s' h₁ hv ⟨h, tk, g₁, m₁, led, itO, rfl, hj, hne, F₁, N₁, hc, hd⟩ ⟨o', ho', hc', hd'⟩ hs
    have hi := N₁ _ (.head _)
    have hall : ∀ q ∈ ((l, W.listOf items n) :: led), q.1 ≠ s.heap.objs.size := fun q hq => by
      rcases List.mem_cons.mp hq with rfl | hq
      · exact Nat.ne_of_lt ltl
      · exact hne q hq
    have N₂ : News g₁ L' h₁ ((s.heap.objs.size, o') :: (l, W.listOf items n) :: led) := fun q hq => by
      rcases List.mem_cons.mp hq with rfl | hq
      · exact ⟨ho', hi.2⟩
      · exact news_it N₁ hall hs q hq
    refine wpAny_mono (turn _ o' i v g₁ m₁ led h₁ tk ltL hd' ltl lts hv hj hne (fr_it F₁ hi.2.2 hi.2.1 hs) N₂) (fun _ s₂ q => wpS_mono q (fun f s₃ q => ?_) fun _ _ q => q) fun _ _ q => q
    have conv : (TurnEnd (J (i + 1)) s L' (s.heap.objs.size, o') (l, W.listOf items n) s₃) →
        TurnMid (J (i + 1)) s L' (l, W.listOf items n) (.type "list_iterator") (.fields #[.ref l, .int ((i + 1 : Nat) : Int) 0]) s₃ := by
      rintro ⟨g₂, m₂, led₂, h₂, tk₂, e, j, f, n', d⟩
      exact ⟨h₂, tk₂, g₂, m₂, led₂, o', e, j, d, f, n', hc', hd'⟩
    cases f with
    | next => exact conv q
    | cont => exact conv q
    | brk => exact q
    | ret v => exact q
  · rintro s' h₁ ⟨h, tk, g₁, m₁, led, itO, rfl, hj, hne, F₁, N₁, hc, hd⟩ hs
    have hi := N₁ _ (.head _)
    have hall : ∀ q ∈ ((l, W.listOf items n) :: led), q.1 ≠ s.heap.objs.size := fun q hq => by
      rcases List.mem_cons.mp hq with rfl | hq
      · exact Nat.ne_of_lt ltl
      · exact hne q hq
    exact done g₁ m₁ led h₁ tk hj (fr_ext F₁ hi.2.2 hi.2.1 hs) (news_ext N₁ hall hs)
  · have NN := N.push F (itObj l 0)
    exact ⟨_, s.toks, g', m', lst, itObj l 0, rfl, h0, fun q hq => Nat.ne_of_lt (lts q hq), F.push _, NN, rfl, rfl⟩
end
end Mine.Internal
end TSLoop
section TCompD
open PySem PySem.W PySem.Calls PyProof.Rows
set_option Elab.async false
set_option maxRecDepth 100000
set_option maxHeartbeats 4000000
namespace Mine.Internal
section
variable {prog : Program} {w : World} {A : Around} {s : Shared} {h₀ : Heap} {L : Addr} {m : Str → Option Value} {env : Env} {elt : PySem.Expr} {x : Str} {scope : Scope} {cl : List (Str × Addr)} {Q : Value → Shared → Prop} {sr : Addr} {rest : List (Addr × Obj)} {top : Int}
def Drawn (top : Int) (y : Value) : Prop := ∃ v t, y = .int v t ∧ 0 ≤ v ∧ v < top
def SrcO (o : Obj) : Prop := ∃ g c tg tc n, o = W.listOf #[.int g tg, .int c tc] n ∧ 0 ≤ g ∧ 0 ≤ c ∧ c < 2147483647
/-- what one element of a drawing comprehension does -/
def DrawTurn (prog : Program) (w : World) (A : Around) (h₀ : Heap) (L : Addr) (m : Str → Option Value) (env : Env) (elt : PySem.Expr) (scope : Scope) (cl : List (Str × Addr)) (s : Shared) (sr : Addr) (rest : List (Addr × Obj)) (top : Int) : Prop :=
  ∀ so I oI C oC D ys m₂ h tk (E' : Value → Shared → Prop), SrcO so → Fr h₀ L h m → LCg.NsObj oC m₂ → News h₀ L h ((I, oI) :: (C, oC) :: (D, LCg.lst ys) :: (sr, so) :: rest) → @Ne Nat I sr → @Ne Nat C sr → @Ne Nat D sr →
    wpAny (model prog w) A (eval elt (compEnvC scope cl C env)) (fun y s₂ => ∃ h' tk' so', Drawn top y ∧ SrcO so' ∧ s₂ = { s with heap := h', toks := tk' } ∧ Fr h₀ L h' m ∧ News h₀ L h' ((I, oI) :: (C, oC) :: (D, LCg.lst ys) :: (sr, so') :: rest)) E' { s with heap := h, toks := tk }
theorem draw_rest (ht : DrawTurn prog w A h₀ L m env elt scope cl s sr rest top) {P : Nat → Value → Prop} {s₂ : Shared} (hs₂ : ∀ h tk, ({ s₂ with heap := h, toks := tk } : Shared) = { s with heap := h, toks := tk }) {n : Nat}
    (hQ : ∀ D h tk ys so, ys.length = n → (∀ y ∈ ys, Drawn top y) → SrcO so → Fr h₀ L h m → News h₀ L h ((D, LCg.lst ys) :: (sr, so) :: rest) → LCg.Off1 D ((sr, so) :: rest) → Q (.ref D) { s with heap := h, toks := tk }) :
    ∀ (k i : Nat) (ys : List Value) (so : Obj), ys.length + k = n → (∀ y ∈ ys, Drawn top y) → SrcO so →
      LCg.CompRest prog w A h₀ L m env elt x scope cl s₂ (fun _ => True) P (LCg.FinE h₀ L m s₂ Q) k i ys ((sr, so) :: rest)
  | 0, i, ys, so, hl, hy, hso => by
    refine LCg.CompRest.zero ?_
    intro D h tk F N o1
    rw [hs₂]
    exact hQ D h tk ys so (by omega) hy hso F N o1
  | k + 1, i, ys, so, hl, hy, hso => by
    refine LCg.CompRest.succ ?_
    intro v I oI C oC D m₂ h tk E' hv hC hx F N off ne
    rw [hs₂]
    have ho := off.mem
    refine wpAny_mono (ht so I oI C oC D ys m₂ h tk E' hso F hC N (Ne.symm (ho _ (.head _)).1) (Ne.symm (ho _ (.head _)).2.1) (Ne.symm (ho _ (.head _)).2.2)) (fun y s₃ q => ?_) fun _ _ q => q
    obtain ⟨h', tk', so', hyD, hso', rfl, F', N'⟩ := q
    refine ⟨h', tk', (sr, so') :: rest, rfl, F', N', LCg.Off3.of fun p hp => ?_, trivial, draw_rest ht hs₂ hQ k (i + 1) (ys ++ [y]) so' (by rw [List.length_append, List.length_singleton]; omega) (fun z hz => ?_) hso'⟩
    · rcases List.mem_cons.mp hp with rfl | hp
      · have z := ho (sr, so) (.head _)
        exact z
      · exact ho _ (.tail _ hp)
    · rcases List.mem_append.mp hz with hz | hz
      · exact hy z hz
      · rw [List.mem_singleton.mp hz]; exact hyD
theorem comp_draw {r : Addr} {so : Obj} {n : Nat} {t u v : Tok} (hh : A.handled = none) (F : Fr h₀ L s.heap m) (N : News h₀ L s.heap ((sr, so) :: rest)) (hr : IsRange s.heap r 0 (n : Int) 1 t u v) (hn : n ≤ 1000) (hso : SrcO so)
    (hsm : Builtin.Range.small 0 (n : Int) 1 = true) (hsz : Builtin.Range.rangeSize 0 (n : Int) 1 = ((n : Nat) : Int))
    (ht : DrawTurn prog w A h₀ L m env elt scope cl s sr rest top)
    (hQ : ∀ D h tk ys so, ys.length = n → (∀ y ∈ ys, Drawn top y) → SrcO so → Fr h₀ L h m → News h₀ L h ((D, LCg.lst ys) :: (sr, so) :: rest) → LCg.Off1 D ((sr, so) :: rest) → Q (.ref D) { s with heap := h, toks := tk }) :
    LCg.CompSrc prog w A h₀ L m env elt x scope cl (fun s₂ => LCg.FinE h₀ L m s₂ Q) (.ref r) s :=
  LCg.CompSrc.range hh F N hr hsm hsz (Nat.le_trans hn (by rw [sizeLine_eq]; decide)) fun g => draw_rest (s₂ := { s with heap := g }) ht (fun _ _ => rfl) hQ n 0 [] so (by simp) (fun _ q => nomatch q) hso
theorem small_of {n : Nat} (hn : n ≤ 1000) : Builtin.Range.small 0 (n : Int) 1 = true := by
  have : ∀ k : Fin 1001, Builtin.Range.small 0 ((k.1 : Nat) : Int) 1 = true := by decide +kernel
  exact this ⟨n, by omega⟩
theorem size_of {n : Nat} (hn : n ≤ 1000) : Builtin.Range.rangeSize 0 (n : Int) 1 = ((n : Nat) : Int) := by
  have : ∀ k : Fin 1001, Builtin.Range.rangeSize 0 ((k.1 : Nat) : Int) 1 = ((k.1 : Nat) : Int) := by decide +kernel
  exact this ⟨n, by omega⟩
/-- drawn values as ints -/
theorem drawn_ints : ∀ {ys : List Value}, (∀ y ∈ ys, Drawn top y) → ∃ ns : List Int, IntsAre ys ns ∧ ns.length = ys.length ∧ ∀ n ∈ ns, 0 ≤ n ∧ n < top
  | [], _ => ⟨[], .nil, rfl, fun _ q => nomatch q⟩
  | y :: ys, h => by
    obtain ⟨v, t, rfl, h0, h1⟩ := h y (.head _)
    obtain ⟨ns, i, l, b⟩ := drawn_ints (ys := ys) fun z hz => h z (.tail _ hz)
    refine ⟨v :: ns, .cons v t i, by simp [l], fun n hn => ?_⟩
    rcases List.mem_cons.mp hn with rfl | hn
    · exact ⟨h0, h1⟩
    · exact b n hn
end
end Mine.Internal
end TCompD
section TCLTake
open PySem PySem.W PyProof.Rows PySem.Calls
set_option Elab.async false
set_option maxRecDepth 100000
set_option maxHeartbeats 8000000
namespace Mine.Internal
section
variable {w : World} {A₀ : Around} {hdl : Option Value} {dep un : Nat} {gd : Option (List Code)} {E : Value → Shared → Prop} {s : Shared} {h₀ base : Heap} {L : Addr} {m mg mb : Str → Option Value} {news : List (Addr × Obj)} {p : Program} {loose : List Str} {mean : ExcName → Option Value}
  {env : Env} {outer : List Env} {R : Result → Shared → Prop}
def Src (g c : Int) (o : Obj) : Prop := ∃ tg tc n, o = W.listOf #[.int g tg, .int c tc] n ∧ 0 ≤ g ∧ 0 ≤ c ∧ c < 2147483647
theorem c_ltake {sr : Addr} {g c top : Int} {tg tc tt : Tok} {n : Nat} {rest : List (Addr × Obj)} (hg : 0 ≤ g) (hc0 : 0 ≤ c) (hc1 : c < 2147483647) (ht0 : 0 < top) (ht1 : top ≤ 256) (hr : ∀ q ∈ rest, q.1 ≠ sr) (hh : hdl = none)
    (hn : news = (sr, W.listOf #[.int g tg, .int c tc] n) :: rest)
    (B : Below A₀ base outer h₀) (F : Fr h₀ L s.heap m) (X : (K w.params).In h₀) (N : News h₀ L s.heap news) (T : Top p loose mean mg mb h₀) (hf : env.frame = some L) (hke : env.scope.kind = .function) (hd : dep < 805) (hu : un < 4000)
    (h : ∀ h' tk v tv g' c' tg' tc' n', 0 ≤ g' → 0 ≤ c' → c' < 2147483647 → 0 ≤ v → v < top → Fr h₀ L h' m → News h₀ L h' ((sr, W.listOf #[.int g' tg', .int c' tc'] n') :: rest) → R (.ok (.ret (.int v tv))) { s with heap := h', toks := tk }) :
    codeAny (model PySem.Challenge.rw_xw0352_01.prog w) ⟨hdl, dep, some (env :: outer), gd, un⟩ (.call (.ref 1259) ⟨[.ref sr, .int top tt], []⟩) R s := by
  subst hh
  subst hn
  have hR := h
  clear h
  have hne : top ≠ 0 := by omega
  revert X; k_fill; intro X
  refine' code_def (binds := [("source", .ref sr), ("top", .int top tt)]) ?k1 ?k2 ?k3 ?k4 ?k5 ?kA ?kF ?kK ?k6 ?k7 ?k8 ?k9 ?kB ?_ ?c2 ?c3 ?c4 ?c5
  case kA => exact rfl
  case kF => exact hf
  case kK => exact hke
  case k1 => exact B
  case k2 => exact F
  case k3 => exact X
  case k4 => exact N
  case k5 => exact T
  case k6 => k_is
  case k7 => k_is
  case k8 => exact Nat.lt_trans hd (by decide)
  case k9 => first | exact BindsTo.of_eq rfl | exact binds_K (by k_in) rfl (by k_is) rfl rfl rfl
  case c5 => decide
  case kB => exact locs rfl
  case c2 => exact rfl
  case c3 => exact rfl
  case c4 => exact rfl
  k_whole
  intro g' L' h' FG' F' N' B' X' T'
  clear F N B X T
  try dsimp only
  change wpAny _ _ _ _ _ _
  k_fold
  k_steps
  · dsimp only
    rename News _ _ _ _ => N9
    rename Fr _ _ _ _ => F9
    rename Tok => u9
    refine leaveK_ F9 N9 ?_
    intro kF kN
    exact hR _ _ _ _ (g.fdiv top) c _ _ _ (by rw [Int.fdiv_eq_ediv_of_nonneg _ (Int.le_of_lt ht0)]; exact Int.ediv_nonneg hg (Int.le_of_lt ht0)) hc0 hc1 (Int.fmod_nonneg_of_pos _ ht0) (Int.fmod_lt_of_pos _ ht0) kF kN
  · rename News _ _ _ _ => N9
    change News _ _ _ ((sr, W.listOf #[.int g tg, .int ((c * 39373 + 7).fmod 2147483647) _] n) :: rest) at N9
    have b1 : 0 ≤ (c * 39373 + 7).fmod 2147483647 := Int.fmod_nonneg_of_pos _ (by decide)
    have b2 : (c * 39373 + 7).fmod 2147483647 < 2147483647 := Int.fmod_lt_of_pos _ (by decide)
    change wpAny _ _ (binaryOp .Mult (.int ((c * 39373 + 7).fmod 2147483647) _) (.int ((c * 39373 + 7).fmod 2147483647) _)) _ _ _
    generalize (c * 39373 + 7).fmod 2147483647 = c2 at *
    refine PyProof.Rows.mul_int ?_ (hm := IntMulOk.of_left (intBits_le_64 (by omega) (by omega)))
    k_steps
    rename News _ _ _ _ => N9
    rename Fr _ _ _ _ => F9
    refine leaveK_ F9 N9 ?_
    intro kF kN
    exact hR _ _ _ _ g c2 _ _ _ hg b1 b2 (Int.fmod_nonneg_of_pos _ ht0) (Int.fmod_lt_of_pos _ ht0) kF kN
end
end Mine.Internal
end TCLTake
section TCPool
open PySem PySem.W PyProof.Rows PySem.Calls
set_option Elab.async false
set_option maxRecDepth 100000
set_option maxHeartbeats 8000000
namespace Mine.Internal
section
variable {w : World} {A₀ : Around} {hdl : Option Value} {dep un : Nat} {gd : Option (List Code)} {E : Value → Shared → Prop} {s : Shared} {h₀ base : Heap} {L : Addr} {m mg mb : Str → Option Value} {news : List (Addr × Obj)} {p : Program} {loose : List Str} {mean : ExcName → Option Value}
  {env : Env} {outer : List Env} {R : Result → Shared → Prop}
theorem ite01 (c : Prop) [Decidable c] : (0 : Int) ≤ (if c then 1 else 0) := by split <;> decide
theorem qk_of2 {Q : Flow → Shared → Prop} {f : Flow} {s : Shared} (h : Q f s) : Q f s := h
theorem item0 {prog : Program} {A : Around} {value slice : PySem.Expr} {l : Addr} {vs : List Value} {u : Tok} {v : Value} {Q : Value → Shared → Prop} (hl : s.heap.IsList l vs.toArray) (hx : vs[0]? = some v) (h : Q v s)
    (hs : subscripted slice false (.ref l) (.int 0 u) = operate [.ref l, .int 0 u] (getItem (.ref l) (.int 0 u)) := by with_unfolding_all rfl) :
    wpAny (model prog w) A (subscriptTail value slice (.ref l) (.int 0 u)) Q E s :=
  tail_any hl.typeIs slot_list_getitem.lookup (wpAny_getItem_list hl (by decide) (by decide) (by simpa using hx) h) hs
theorem c_pool {sa : Addr} {vs : List Value} {ns : List Int} (hl : h₀.IsList sa vs.toArray) (hi : IntsAre vs ns) (hlen : ns.length ≤ 63) (hh : hdl = none)
    (B : Below A₀ base outer h₀) (F : Fr h₀ L s.heap m) (X : (K w.params).In h₀) (N : News h₀ L s.heap news) (T : Top p loose mean mg mb h₀) (hf : env.frame = some L) (hke : env.scope.kind = .function) (hd : dep < 805) (hu : un < 4000)
    (h : ∀ h' tk sr g c tg tc n, 0 ≤ g → 0 ≤ c → c < 2147483647 → Fr h₀ L h' m → (∀ q ∈ news, q.1 < sr) → News h₀ L h' ((sr, W.listOf #[.int g tg, .int c tc] n) :: news) → R (.ok (.ret (.ref sr))) { s with heap := h', toks := tk }) :
    codeAny (model PySem.Challenge.rw_xw0352_01.prog w) ⟨hdl, dep, some (env :: outer), gd, un⟩ (.call (.ref 1252) ⟨[.ref sa], []⟩) R s := by
  subst hh
  have hR := h
  clear h
  revert X; k_fill; intro X
  refine' code_def (binds := [("script", .ref sa)]) ?k1 ?k2 ?k3 ?k4 ?k5 ?kA ?kF ?kK ?k6 ?k7 ?k8 ?k9 ?kB ?_ ?c2 ?c3 ?c4 ?c5
  case kA => exact rfl
  case kF => exact hf
  case kK => exact hke
  case k1 => exact B
  case k2 => exact F
  case k3 => exact X
  case k4 => exact N
  case k5 => exact T
  case k6 => k_is
  case k7 => k_is
  case k8 => exact Nat.lt_trans hd (by decide)
  case k9 => first | exact BindsTo.of_eq rfl | exact binds_K (by k_in) rfl (by k_is) rfl rfl rfl
  case c5 => decide
  case kB => exact locs rfl
  case c2 => exact rfl
  case c3 => exact rfl
  case c4 => exact rfl
  k_whole
  intro g' L' h' FG' F' N' B' X' T'
  have hl' : g'.IsList sa vs.toArray := by
    obtain ⟨o, e, r⟩ := hl
    exact ⟨o, FG'.keep _ _ e, r⟩
  clear F N B X T
  try dsimp only
  change wpAny _ _ _ _ _ _
  k_fold
  k_steps
  · refine qk_of2 ?_
    k_unfold
    dsimp only
    rename _ ∧ _ => lP
    refine leaveK_ (by k_asm) (by k_asm) ?_
    intro kF kN
    exact hR _ _ _ _ _ _ _ _ (Int.mul_nonneg (by split <;> omega) (ite01 _)) (Int.fmod_nonneg_of_pos _ (by decide)) (Int.fmod_lt_of_pos _ (by decide)) kF (fun q hq => allLt_get lP.2 q hq) (List.forall_mem_cons.mpr ⟨kN _ (.head _), fun z hz => kN z (.tail _ (.tail _ hz))⟩)
  · rename Fr _ _ _ _ => F9
    cases hi with
    | nil => simp at *
    | cons n0 t0 hi' =>
      have hl9 := Fr.lst F9 hl'
      refine item0 hl9 rfl ?_
      k_steps
      refine qk_of2 ?_
      k_unfold
      dsimp only
      rename _ ∧ _ => lP
      refine leaveK_ (by k_asm) (by k_asm) ?_
      intro kF kN
      exact hR _ _ _ _ _ _ _ _ (Int.mul_nonneg (by split <;> omega) (ite01 _)) (Int.fmod_nonneg_of_pos _ (by decide)) (Int.fmod_lt_of_pos _ (by decide)) kF (fun q hq => allLt_get lP.2 q hq) (List.forall_mem_cons.mpr ⟨kN _ (.head _), fun z hz => kN z (.tail _ (.tail _ hz))⟩)
end
end Mine.Internal
end TCPool
section TCLaw
open PySem PySem.W PyProof.Rows PySem.Calls
set_option Elab.async false
set_option maxRecDepth 100000
set_option maxHeartbeats 8000000
namespace Mine.Internal
section
variable {w : World} {A₀ : Around} {hdl : Option Value} {dep un : Nat} {gd : Option (List Code)} {E : Value → Shared → Prop} {s : Shared} {h₀ base : Heap} {L : Addr} {m mg mb : Str → Option Value} {news : List (Addr × Obj)} {p : Program} {loose : List Str} {mean : ExcName → Option Value}
  {env : Env} {outer : List Env} {R : Result → Shared → Prop}
local macro_rules | `(tactic| walk_at "CompSrc") => `(tactic| (k_here; refine Stop.out ?_))
theorem pickT {g h : Heap} {L : Addr} {a b c : Addr × Obj} {l : List (Addr × Obj)} (N : News g L h (a :: b :: c :: l)) : News g L h (c :: a :: b :: l) := by
  repeat (refine List.forall_mem_cons.mpr ⟨N _ (by k_mem), ?_⟩)
  exact fun z hz => N z (by repeat' first | exact hz | apply List.Mem.tail)
theorem ints_get {vs : List Value} {ns : List Int} {B : Int} (h : IntsAre vs ns) (hb : ∀ n ∈ ns, 0 ≤ n ∧ n ≤ B) : ∀ (i : Nat) (v : Value), vs.toArray[i]? = some v → ∃ k t, v = .int k t ∧ 0 ≤ k ∧ k ≤ B := by
  induction h with
  | nil => intro i v h; simp at h
  | cons n t r ih =>
    intro i v h
    cases i with
    | zero => simp at h; exact ⟨n, t, h.symm, hb n (.head _)⟩
    | succ j => exact ih (fun k hk => hb k (.tail _ hk)) j v (by simpa using h)
theorem byteArr_size (ns : List Int) : (byteArr ns).size = ns.length := by simp [byteArr]
theorem err_at {t0 t1 t2 : Tok} {i : Nat} {v : Value} (h : (#[Value.str (Str.ofString "refused") t0, .str (Str.ofString "reset") t1, .str (Str.ofString "timed out") t2, .none] : Array Value)[i]? = some v) : (∃ (er : Er) (te : Tok), v = .str er.text te) ∨ v = .none := by
  match i with
  | 0 => exact .inl ⟨.refused, t0, (Option.some.inj h).symm⟩
  | 1 => exact .inl ⟨.reset, t1, (Option.some.inj h).symm⟩
  | 2 => exact .inl ⟨.late, t2, (Option.some.inj h).symm⟩
  | 3 => exact .inr (Option.some.inj h).symm
  | n + 4 => exact nomatch (show (none : Option Value) = some v from h)
theorem noStr_srcO {o : Obj} (h : SrcO o) : noStr o := by
  obtain ⟨g, c, tg, tc, n, rfl, _⟩ := h
  intro vs hv
  cases hv
theorem noStr_it {o : Obj} {a : Addr} {i : Int} (h : o.data = .fields #[.ref a, .int i 0]) : noStr o := by
  intro vs hv q t hq
  rw [h] at hv
  cases hv
  cases hq
theorem pickL {g h : Heap} {L : Addr} {D l9 D2 sr D1 it l4 cS t5 t2 : Addr × Obj} {l : List (Addr × Obj)} (N : News g L h (D :: l9 :: D2 :: sr :: D1 :: it :: l4 :: cS :: t5 :: t2 :: l)) : News g L h (t5 :: t2 :: D :: sr :: it :: l4 :: cS :: l) := by
  repeat (refine List.forall_mem_cons.mpr ⟨N _ (by k_mem), ?_⟩)
  exact fun z hz => N z (by repeat' first | exact hz | apply List.Mem.tail)
theorem pickR {g h : Heap} {L : Addr} {D sr it l4 cS t5 t2 : Addr × Obj} {o l : List (Addr × Obj)} (N : News g L h (t5 :: t2 :: (o ++ (D :: sr :: it :: l4 :: cS :: l)))) : News g L h (it :: l4 :: sr :: cS :: t5 :: t2 :: (o ++ l)) := by
  have N1 : News g L h o := news_app_l (news_tail2 N)
  have N2 := news_app_r (news_tail2 N)
  repeat (refine List.forall_mem_cons.mpr ⟨(by first | exact N2 _ (by k_mem) | exact N _ (by k_mem)), ?_⟩)
  exact fun z hz => (List.mem_append.mp hz).elim (N1 z) fun hz => N2 z (by repeat' first | exact hz | apply List.Mem.tail)
theorem pickT2 {g h : Heap} {L : Addr} {a b : Addr × Obj} {l : List (Addr × Obj)} (N : News g L h (a :: b :: l)) : News g L h (b :: a :: l) := by
  repeat (refine List.forall_mem_cons.mpr ⟨N _ (by k_mem), ?_⟩)
  exact fun z hz => N z (by repeat' first | exact hz | apply List.Mem.tail)
theorem pickT4 {g h : Heap} {L : Addr} {a b c d : Addr × Obj} {l : List (Addr × Obj)} (N : News g L h (a :: b :: c :: d :: l)) : News g L h (d :: a :: b :: c :: l) := by
  repeat (refine List.forall_mem_cons.mpr ⟨N _ (by k_mem), ?_⟩)
  exact fun z hz => N z (by repeat' first | exact hz | apply List.Mem.tail)
theorem pickT4' {g h : Heap} {L : Addr} {a b c d : Addr × Obj} {l : List (Addr × Obj)} (N : News g L h (d :: a :: b :: c :: l)) : News g L h (a :: b :: c :: d :: l) := by
  repeat (refine List.forall_mem_cons.mpr ⟨N _ (by k_mem), ?_⟩)
  exact fun z hz => N z (by repeat' first | exact hz | apply List.Mem.tail)
noncomputable abbrev lawEnv (L' : Addr) : Env := envOfC (Str.ofString "law") lawScope L' 1292 (.ref 1291)
/-- what holds between two turns of law -/
inductive LawJ (P : Prop) (sr : Addr) (D : Obj → Array Value → Array Value → List (Addr × Obj) → List (Addr × Obj)) (led : List (Addr × Obj)) : Prop
  | mk (h1 : P) (so : Obj) (ps1 ps2 : Array Value) (own : List (Addr × Obj)) (hso : SrcO so) (t1 : Tab1 ps1 own) (t2 : Tab2 ps2 own) (ho : ∀ q ∈ own, @Ne Nat q.1 sr ∧ @Ne Nat q.1 1275 ∧ @Ne Nat q.1 1282) (hl : led = D so ps1 ps2 own) : LawJ P sr D led
theorem c_law_body {A₀ : Around} {g' : Heap} {L' : Addr} {m' : Str → Option Value} {cS : Obj} {sa : Addr} {vs : List Value} {ns : List Int} {Q : Flow → Shared → Prop} (hl : g'.IsList sa vs.toArray) (hi : IntsAre vs ns) (hlen : ns.length ≤ 63) (hcS : cS.data = .cell none) (h5l : @LT.lt Nat _ 1275 L') (h2l : @LT.lt Nat _ 1282 L')
    (msc : m' "script" = some (.ref sa))
    (B' : Below A₀ base outer g') (F' : Fr g' L' s.heap m') (X' : (K w.params).In g') (T' : Top p loose mean mg mb g') (hd : dep < 305) (hu : un < 400) (XB : (K w.params).In base) (TB : Top p loose mean mg mb base) (CB1 : CodeHd base 1279 1275) (CB2 : CodeHd base 1286 1282) (N' : News g' L' s.heap ((L' + 1, cS) :: (1275, tabObj #[]) :: (1282, tabObj #[]) :: []))
    (h : ∀ h'' tk m'' g'' ps1 ps2, Below A₀ base outer g'' → Fr g'' L' h'' m'' → News g'' L' h'' ((1275, tabObj ps1) :: (1282, tabObj ps2) :: []) → Q (.ret (.bool true)) { s with heap := h'', toks := tk }) :
    wpS (model PySem.Challenge.rw_xw0352_01.prog w) (Around.deeper ⟨none, dep, some outer, gd, un⟩ (lawEnv L')) (execs lawBody (lawEnv L')) Q E s := by
  have hQ := h
  clear h
  have F₂ := fr_map (x := "script") F' msc
  clear F'
  rw [show lawBody = [_, _, _] from rfl]
  unfold lawEnv
  rw [show lawScope = ⟨_, _, _, _, _⟩ from rfl]
  revert X'; k_fill; intro X'
  refine wpS_execs_any ?_
  change wpAny _ _ _ _ _ _
  k_fold
  k_steps
  refine Stop.mk ?_
  rename News _ _ _ _ => N9
  rename Fr _ _ _ _ => F9
  refine' wpAny_call (c_pool hl hi hlen rfl (hd := ?hd) (hu := ?hu) B' F9 X' N9 T' rfl rfl ?_)
  case hd => show dep + 1 < 805; exact lin (k := 1) hd (by decide)
  case hu => show un + 3 < 4000; exact lin (k := 3) hu (by decide)
  intro h2 tk2 sr g c tg tc n b0 b1 b2 F10 l1 N10
  have n1 : @LT.lt Nat _ (L' + 1) sr := l1 (L' + 1, _) (by k_mem)
  clear F9 N9
  dsimp only
  k_steps
  rename _ = Data.cell (some (Value.ref sr)) => dS
  rename Obj => cS2
  refine wpS_execs_cons (wpS_For ?_)
  k_fold
  k_steps
  refine Stop.mk ?_
  rename News _ _ _ _ => N9
  rename Fr _ _ _ _ => F9
  rename _ ∧ _ => lL
  have hsr5 : @Ne Nat sr 1275 := Nat.ne_of_gt (l1 (1275, _) (by k_mem))
  have hsr2 : @Ne Nat sr 1282 := Nat.ne_of_gt (l1 (1282, _) (by k_mem))
  refine for_turnsS (fun i g₁ m₁ led => LawJ (Below A₀ base outer g₁) sr (fun so ps1 ps2 own => (sr, so) :: (L' + 1, cS2) :: (1275, tabObj ps1) :: (1282, tabObj ps2) :: own) led) rfl F9 N9 ?_ ?_ ?_
  rotate_left 2
  · exact ⟨B', _, #[], #[], [], ⟨g, c, tg, tc, n, rfl, b0, b1, b2⟩, .inl rfl, .inl rfl, (fun _ q => nomatch q), rfl⟩
  rotate_left 1
  · intro g₁ m₁ led h₁ tk₁ hJ F₁ N₁
    obtain ⟨hB, so, ps1, ps2, own, hso, ht1, ht2, hown, hled⟩ := hJ
    subst hled
    dsimp only
    refine wpS_execs_any ?_
    change wpAny _ _ _ _ _ _
    k_steps
    rename News _ _ _ _ => N8
    rename Fr _ _ _ _ => F8
    exact hQ _ _ _ g₁ ps1 ps2 hB F8 (List.forall_mem_cons.mpr ⟨N8 _ (by k_mem), List.forall_mem_cons.mpr ⟨N8 _ (by k_mem), fun _ q => nomatch q⟩⟩)
  clear F9 N9
  rename Addr => l4
  intro it itO i v g₁ m₁ led h₁ tk₁ hLit hitd hlit hlst hv hJ hne F₁ N₁
  obtain ⟨hB, so, ps1, ps2, own, hso, ht1, ht2, hown, hled⟩ := hJ
  subst hled
  have X₁ : (K w.params).In g₁ := XB.keeps hB.stays
  have P₁ : Top p loose mean mg mb g₁ := TB.keeps hB.stays
  have i1 : @Ne Nat it sr := Ne.symm (hne (sr, _) (by k_mem))
  have i2 : @Ne Nat it 1275 := Ne.symm (hne (1275, _) (by k_mem))
  have i3 : @Ne Nat it 1282 := Ne.symm (hne (1282, _) (by k_mem))
  have j1 : @Ne Nat l4 sr := Nat.ne_of_gt lL.1
  have j2 : @Ne Nat l4 1275 := Nat.ne_of_gt lL.2.2.1
  have j3 : @Ne Nat l4 1282 := Nat.ne_of_gt lL.2.2.2
  have k1 : @Ne Nat (L' + 1) sr := Nat.ne_of_lt n1
  have hos : ∀ q ∈ own, q.1 ≠ sr := fun q hq => (hown q hq).1
  refine storeX_L F₁ N₁ ?_
  intro h₂ F₂ N₂
  clear F₁ N₁ X' T'
  refine wpS_execs_any ?_
  change wpAny _ _ _ _ _ _
  k_fold
  k_steps
  refine Stop.mk ?_
  refine LCg.ListComp_U (F₀ := F₂) (by with_unfolding_all rfl) (by decide) (by rfl) (by decide) (by rfl) ?_
  k_fold
  k_steps
  refine Stop.mk ?_
  obtain ⟨ga, ca, tga, tca, na, rfl, a0, a1, a2⟩ := hso
  rename News _ _ _ _ => N9
  rename Fr _ _ _ _ => F9
  replace N9 := pickT N9
  have hall : ∀ q ∈ (it, itO) :: (l4, W.listOf #[Value.str (Str.ofString "refused") tk2, Value.str (Str.ofString "reset") (tk2 + 1), Value.str (Str.ofString "timed out") (tk2 + 1 + 1), Value.none] 0) :: (L' + 1, cS2) :: (1275, tabObj ps1) :: (1282, tabObj ps2) :: own, q.1 ≠ sr :=
    List.forall_mem_cons.mpr ⟨i1, List.forall_mem_cons.mpr ⟨j1, List.forall_mem_cons.mpr ⟨k1, List.forall_mem_cons.mpr ⟨Ne.symm hsr5, List.forall_mem_cons.mpr ⟨Ne.symm hsr2, hos⟩⟩⟩⟩⟩
  refine' wpAny_call (c_ltake a0 a1 a2 (by decide) (by decide) hall rfl rfl (hd := ?hd) (hu := ?hu) hB F9 X₁ N9 P₁ rfl rfl ?_)
  case hd => show dep + 1 < 805; exact lin (k := 1) hd (by decide)
  case hu => show un + 3 < 4000; exact lin (k := 3) hu (by decide)
  intro h3 tk3 v1 tv1 gb cb tgb tcb nb a3 a4 a5 v0 v9 F10 N10
  obtain ⟨kn, rfl⟩ := Int.eq_ofNat_of_zero_le v0
  have hk9 : kn ≤ 9 := by omega
  clear F9 N9
  dsimp only
  k_steps
  refine Stop.mk ?_
  rename News _ _ _ _ => N9
  rename Fr _ _ _ _ => F9
  rename IsRange _ _ _ _ _ _ _ _ => hrng
  refine comp_draw (top := 256) rfl F9 N9 hrng (Nat.le_trans hk9 (by decide)) ⟨gb, cb, tgb, tcb, nb, rfl, a3, a4, a5⟩ (small_of (Nat.le_trans hk9 (by decide))) (size_of (Nat.le_trans hk9 (by decide))) ?_ ?_
  · intro so5 I oI C oC D ys m₂ h5 tk5 E' hso5 F5 hC5 N5 nI nC nD
    obtain ⟨gc, cc, tgc, tcc, nc, rfl, c0, c1, c2⟩ := hso5
    clear F9 N9 hrng
    change wpAny _ _ _ _ _ _
    k_steps
    refine Stop.mk ?_
    rename News _ _ _ _ => N8
    rename Fr _ _ _ _ => F8
    replace N8 := pickT4 N8
    refine' wpAny_call (c_ltake c0 c1 c2 (by decide) (by decide) (List.forall_mem_cons.mpr ⟨nI, List.forall_mem_cons.mpr ⟨nC, List.forall_mem_cons.mpr ⟨nD, hall⟩⟩⟩) rfl rfl (hd := ?hd) (hu := ?hu) hB F8 X₁ N8 P₁ rfl rfl ?_)
    case hd => show dep + 1 < 805; exact lin (k := 1) hd (by decide)
    case hu => show un + 3 < 4000; exact lin (k := 3) hu (by decide)
    intro h6 tk6 v6 tv6 gd6 cd6 tgd tcd nd6 c3 c4 c5 w0 w9 F11 N11
    dsimp only
    exact ⟨_, _, _, ⟨v6, tv6, rfl, w0, w9⟩, ⟨gd6, cd6, tgd, tcd, nd6, rfl, c3, c4, c5⟩, rfl, F11, pickT4' N11⟩
  intro D1 h5 tk5 ys1 so5 hlen1 hys1 hso5 F11 N11 off1
  obtain ⟨ns1, hi1, hl1, hb1⟩ := drawn_ints hys1
  clear F9 N9 hrng
  try dsimp only
  k_steps
  have hDs1 : @Ne Nat D1 sr := Ne.symm off1.1
  refine wpS_execs_any ?_
  change wpAny _ _ _ _ _ _
  k_fold
  k_steps
  refine Stop.mk ?_
  rename Fr _ _ _ _ => F9
  refine LCg.ListComp_U (F₀ := F9) (by with_unfolding_all rfl) (by decide) (by rfl) (by decide) (by rfl) ?_
  k_fold
  k_steps
  refine Stop.mk ?_
  rename News _ _ _ _ => N9
  rename Fr _ _ _ _ => F9
  rename IsRange _ _ _ _ _ _ _ _ => hrng
  replace N9 := pickT2 N9
  have hall3 := (List.forall_mem_cons (p := fun q : Addr × Obj => q.1 ≠ sr) (a := (D1, LCg.lst ys1))).mpr ⟨hDs1, hall⟩
  refine comp_draw (n := 3) (top := 6) rfl F9 N9 hrng (by decide) hso5 (small_of (by decide)) (size_of (by decide)) ?_ ?_
  · intro so5 I oI C oC D ys m₂ h5 tk5 E' hso5 F5 hC5 N5 nI nC nD
    obtain ⟨gc, cc, tgc, tcc, nc, rfl, c0, c1, c2⟩ := hso5
    clear F9 N9 hrng
    change wpAny _ _ _ _ _ _
    k_steps
    refine Stop.mk ?_
    rename News _ _ _ _ => N8
    rename Fr _ _ _ _ => F8
    replace N8 := pickT4 N8
    refine' wpAny_call (c_ltake c0 c1 c2 (by decide) (by decide) (List.forall_mem_cons.mpr ⟨nI, List.forall_mem_cons.mpr ⟨nC, List.forall_mem_cons.mpr ⟨nD, hall3⟩⟩⟩) rfl rfl (hd := ?hd) (hu := ?hu) hB F8 X₁ N8 P₁ rfl rfl ?_)
    case hd => show dep + 1 < 805; exact lin (k := 1) hd (by decide)
    case hu => show un + 3 < 4000; exact lin (k := 3) hu (by decide)
    intro h6 tk6 v6 tv6 gd6 cd6 tgd tcd nd6 c3 c4 c5 w0 w9 F11 N11
    dsimp only
    exact ⟨_, _, _, ⟨v6, tv6, rfl, w0, w9⟩, ⟨gd6, cd6, tgd, tcd, nd6, rfl, c3, c4, c5⟩, rfl, F11, pickT4' N11⟩
  intro D2 h6 tk6 ys2 so6 hlen2 hys2 hso6 F12 N12 off2
  obtain ⟨ns2, hi2, hl2, hb2⟩ := drawn_ints hys2
  clear F9 N9 hrng
  try dsimp only
  k_steps
  rename _ ∧ _ => lD
  have D5 : 1275 < _ := lD.2.2.2.2.2.2.2.1
  have D6 : 1282 < _ := lD.2.2.2.2.2.2.2.2.1
  have hev : EvK v := by
    rcases err_at hv with ⟨er, te, rfl⟩ | rfl
    · exact .er er te
    · exact .none
  change wpS _ _ _ _ _ _
  refine wpS_execs_cons (wpS_If (wpS_isTrue_Not (wpS_isTrue_plain ?_)))
  refine evalS_Call_Name rfl ?_
  k_fold
  k_steps
  refine callWithS_K (K := K w.params) (by k_is) ?_
  k_fold
  k_steps
  try dsimp only [List.nil_append, List.cons_append]
  rename News _ _ _ _ => N8
  rename Fr _ _ _ _ => F8
  replace N8 := pickL N8
  refine' wpS_call (c_ends_ev hev (hd := ?hd) (hu := ?hu) ?hbz ?p5 ?p2 ?hits (.head _) (tab1_mono ht1 ?t1) (ht2.mono ?t2) rfl rfl hB F8 X₁ N8 P₁ rfl rfl XB TB CB1 CB2 ?_)
  case hd => show dep + 1 < 405; exact lin (k := 1) hd (by decide)
  case hu => show un + 3 < 850; exact lin (k := 3) hu (by decide)
  case hbz => rw [byteArr_size, hl1, hlen1]; exact hk9
  case p5 => exact List.forall_mem_cons.mpr ⟨Nat.ne_of_gt D5, List.forall_mem_cons.mpr ⟨hsr5, List.forall_mem_cons.mpr ⟨i2, List.forall_mem_cons.mpr ⟨j2, List.forall_mem_cons.mpr ⟨Nat.ne_of_gt (Nat.lt_succ_of_lt h5l), fun q hq => (hown q hq).2.1⟩⟩⟩⟩⟩
  case p2 => exact List.forall_mem_cons.mpr ⟨Nat.ne_of_gt D6, List.forall_mem_cons.mpr ⟨hsr2, List.forall_mem_cons.mpr ⟨i3, List.forall_mem_cons.mpr ⟨j3, List.forall_mem_cons.mpr ⟨Nat.ne_of_gt (Nat.lt_succ_of_lt h2l), fun q hq => (hown q hq).2.2⟩⟩⟩⟩⟩
  case hits =>
    refine ints_get (by assumption) fun k hk => ?_
    rcases List.mem_append.mp hk with hk | hk
    · exact ⟨(hb2 k hk).1, Int.le_trans (Int.le_of_lt (hb2 k hk).2) (by decide)⟩
    · simp only [List.mem_cons, List.not_mem_nil, or_false] at hk; rcases hk with rfl | rfl | rfl <;> decide
  case t1 => exact fun z hz => by repeat' first | exact hz | apply List.Mem.tail
  case t2 => exact fun z hz => by repeat' first | exact hz | apply List.Mem.tail
  intro h7 tk7 g2 own2 ps1' ps2' hT2 ht1' ht2' hfr F13 N13 hB2
  clear F8 N8
  dsimp only
  change wpAny _ _ _ _ _ _
  k_fold
  k_steps
  refine wpS_execs_nil ?_
  dsimp only
  refine wpS_execs_nil ?_
  dsimp only
  rename News _ _ _ _ => N8
  rename Fr _ _ _ _ => F8
  have hsrc6 := noStr_srcO hso6
  have hit6 := noStr_it hitd
  refine' turn_end (led₂ := (sr, so6) :: (L' + 1, cS2) :: (1275, tabObj ps1') :: (1282, tabObj ps2') :: (own2 ++ own)) F8 ?J ?Nw ?ne
  case J =>
    refine ⟨hB2, so6, ps1', ps2', own2 ++ own, hso6, ht1'.imp id fun q => made1_strip (pre := [_, _, _, _, _]) q ?_, ht2'.imp id fun q => tabL_strip (tabL_strip (tabL_strip (tabL_strip (tabL_strip q (fun vs hv => by cases hv)) hsrc6) hit6) (fun vs hv => by cases hv)) (noStr_cell dS), ?_, rfl⟩
    · exact List.forall_mem_cons.mpr ⟨(fun vs hv => by cases hv), List.forall_mem_cons.mpr ⟨hsrc6, List.forall_mem_cons.mpr ⟨hit6, List.forall_mem_cons.mpr ⟨(fun vs hv => by cases hv), List.forall_mem_cons.mpr ⟨noStr_cell dS, fun _ q => nomatch q⟩⟩⟩⟩⟩
    · intro q hq
      rcases List.mem_append.mp hq with hq | hq
      · obtain ⟨y1, y2, y3⟩ := hfr q hq
        exact ⟨Nat.ne_of_gt (y3 (sr, so6) (by k_mem)), Nat.ne_of_gt (Nat.lt_trans h5l y1), Nat.ne_of_gt y2⟩
      · exact hown q hq
  case Nw => exact pickR N8
  case ne =>
    refine List.forall_mem_cons.mpr ⟨Ne.symm i1, List.forall_mem_cons.mpr ⟨hne (L' + 1, _) (by k_mem), List.forall_mem_cons.mpr ⟨Ne.symm i2, List.forall_mem_cons.mpr ⟨Ne.symm i3, fun z hz => ?_⟩⟩⟩⟩
    rcases List.mem_append.mp hz with hz | hz
    · exact Nat.ne_of_gt ((hfr z hz).2.2 (it, itO) (by k_mem))
    · exact hne z (by repeat' first | exact hz | apply List.Mem.tail)
end
end Mine.Internal
end TCLaw
section TCTop
open PySem PySem.W PyProof.Rows PySem.Calls
set_option Elab.async false
set_option maxRecDepth 100000
set_option maxHeartbeats 8000000
open Mine.Internal
namespace Mine
section
variable {prog : Program} {w : World} {A : Around} {s : Shared} {K : Frag} {R : Result → Shared → Prop} {name qual : Str} {params : Arguments} {body : List Stmt} {scope : Scope} {dV kV doc pm cdv ct oc : Value} {an od : Option Addr} {osl : Array (Option Value)} {f : Addr} {args : Args} {binds : List (Str × Value)}
/-- entering a def with cells, from the caller at the top -/
theorem enterS_cells (X : K.In s.heap) (hlim : s.heap.NoLimit)
    (ho : K.lookup f = some ⟨oc, od, .func (fnOf name qual params body scope dV kV doc pm an cdv ct), osl⟩) (hcd : codeIn K cdv qual = true) (hroom : A.depth < recursionLimit)
    (hbind : BindsTo s (fnOf name qual params body scope dV kV doc pm an cdv ct) args binds) (hkind : (binds.all fun y => scope.names.lookup y.1 == some .local || scope.names.lookup y.1 == some .cell) = true)
    (hnd : ((cellsFrom 0 scope.names []).map (·.1)).Nodup)
    (h : ∀ L' h₁ tk cells, Fr s.heap L' h₁ (bindL (envOfC qual scope L' f cdv).kindOf binds fun _ => none) → News s.heap L' h₁ cells →
      CellsAre (bindC (envOfC qual scope L' f cdv).kindOf binds fun _ => none) (cellsFrom (L' + 1) scope.names []) cells →
      wpS (model prog w) (A.deeper (envOfC qual scope L' f cdv)) (execs body (envOfC qual scope L' f cdv))
        (fun fl s' => R (.ok (.ret (match fl with | .ret v => v | _ => .none))) s')
        (fun e s' => wpAny (model prog w) (A.deeper (envOfC qual scope L' f cdv)) (leaving (envOfC qual scope L' f cdv) e) (fun _ s'' => R (.error e) s'') (fun e' s'' => R (.error e') s'') s')
        { s with heap := h₁, toks := tk })
    (hco : scope.isCoroutine = false) (hgen : scope.isGenerator = false) (hk : scope.kind = .function) : codeS (model prog w) A (.call (.ref f) args) R s := by
  refine codeS_call_function hroom (X _ _ ho) rfl hco hgen rfl (codeRec_of X hcd) (hbind _ _ _ _ ?_)
  refine wpAny_newFunctionEnv_cells hk (kindsX hkind _) fun env' he s' x => ?_
  subst he
  refine ⟨hlim.keeps x.toInCall.keep, codeS_func ?_⟩
  obtain ⟨h₁, tk, rfl, _⟩ := x.done
  have hk₁ := x.toInCall.keep
  obtain ⟨cells, NC, Y⟩ := Cl.news (h₀ := s.heap) (Nat.le_refl _) fun n c hm => ⟨x.cell n c (lookup_of_mem_nodup (cellsFrom_names scope.names 0 (s.heap.objs.size + 1) [] [] rfl ▸ hnd) hm), x.above n c hm⟩
  exact h s.heap.objs.size h₁ tk cells ⟨x.toInCall.ns, hk₁, Nat.le_refl _⟩ NC Y
end
noncomputable abbrev lawTabs : List (Addr × Addr) := [(1279, 1275), (1286, 1282)]
theorem law_tabs {w : World} {h : Heap} (X2 : (K2 w.params).In h) : TabsAt lawTabs h := by
  have X := K_of_K2 X2
  refine List.forall_mem_cons.mpr ⟨⟨codeHd_of_K (c := 1279) (P := 1275) X (by kernel_rfl), X2 1275 _ rfl⟩, List.forall_mem_cons.mpr ⟨⟨codeHd_of_K (c := 1286) (P := 1282) X (by kernel_rfl), X2 1282 _ rfl⟩, fun _ q => nomatch q⟩⟩
theorem no_tabs (P : Params) : noTabs (K P) = true := by kernel_rfl
theorem law_at (w : World) : nsIn (K w.params) mainGlobals "law" = some (some (.ref 1292)) := by kernel_rfl
/-- old objects stay, the two tables may grow -/
theorem old_law {h h' : Heap} {L : Addr} {m : Str → Option Value} {ps1 ps2 : Array Value} {g : Heap} (hT : TabsAt lawTabs h) (st : ∀ b o, (ghostOf h lawTabs).get? b = some o → g.get? b = some o) (F : Fr g L h' m) (N : News g L h' ((1275, tabObj ps1) :: (1282, tabObj ps2) :: [])) : OldK h h' := by
  have keep : ∀ b o, b ∉ lawTabs.map (·.2) → h.get? b = some o → h'.get? b = some o := fun b o hb e => F.keep b o (st b o (ghost_ne e hb))
  have table : ∀ q ∈ lawTabs, ∃ ps, h'.get? q.2 = some (tabObj ps) :=
    List.forall_mem_cons.mpr ⟨⟨ps1, (N _ (.head _)).1⟩, List.forall_mem_cons.mpr ⟨⟨ps2, (N _ (.tail _ (.head _))).1⟩, fun _ q => nomatch q⟩⟩
  have grown : ∀ b o, b ∈ lawTabs.map (·.2) → h.get? b = some o → isCodeTable h b ∧ o = tabObj #[] ∧ ∃ ps, h'.get? b = some (tabObj ps) := fun b o hb e => by
    obtain ⟨q, hq, rfl⟩ := List.mem_map.mp hb
    obtain ⟨hc, hz⟩ := hT q hq
    rw [hz] at e
    exact ⟨(hc.tab hz).isCodeTable, (Option.some.inj e).symm, table q hq⟩
  constructor
  · intro b o e
    by_cases hb : b ∈ lawTabs.map (·.2)
    · obtain ⟨ht, rfl, ps, hP⟩ := grown b o hb e
      exact .inr (.inl ⟨ht, rfl, #[], ps, rfl, by rw [Array.empty_append]; exact hP⟩)
    · exact .inl (keep b o hb e)
  · intro b o e
    by_cases hb : b ∈ lawTabs.map (·.2)
    · obtain ⟨_, _, ps, hP⟩ := grown b o hb e
      exact ⟨_, hP⟩
    · exact ⟨o, keep b o hb e⟩
theorem walk (q : Program) (loose : List Str) (XP : (Str → Option Value) → Heap → Prop) (d : DefRec) (kwd : List (Str × PySem.Expr)) (hn : d.name = "law") : WalkS q loose XP (InK K2) (OpenLaw.row PySem.Challenge.rw_xw0352_01).toRowW d kwd := by
  intro w s₀ s₁ mg mb G Y a o pm cd doc dV kV ho hd hcd hD hmg hg args vals as hpre hlay hrd hwl hlo
  have X2 : (K2 w.params).In s₁.heap := Y
  have X := K_of_K2 X2
  have T := G.T
  have hlaw := mg_of X T.g (law_at w)
  rw [hn, hlaw] at hmg
  cases hmg
  clear hD hd hcd ho
  wrow_args hpre hlay hrd hwl hlo
  rename_i ns _ _ _ _ _ _ _ sa vs _ hL _ _ _ hI _ hc _
  have hT := law_tabs X2
  refine wpS_call ?_
  revert X; k_fill; intro X
  refine' enterS_cells (K := K w.params) X T.nolimit ?k6 ?k7 ?k8 ?k9 ?kB ?kD ?_ ?c2 ?c3 ?c4
  case k6 => k_is
  case k7 => k_is
  case k8 => decide
  case k9 => first | exact BindsTo.of_eq rfl | exact binds_K (by k_in) rfl (by k_is) rfl rfl rfl
  case kB => exact rfl
  case kD => decide +kernel
  case c2 => exact rfl
  case c3 => exact rfl
  case c4 => exact rfl
  intro L' h₁ tk cells F N Yc
  obtain ⟨cS, hE, dS⟩ := CellsAre.one Yc
  subst hE
  have F' := ghost_fr hT F
  have N' := ghost_news hT F N
  have lt := ghost_lt hT F
  have B' : Below callerA (ghostOf s₁.heap lawTabs) [] (ghostOf s₁.heap lawTabs) := ghost_below hT
  have Xg := ghost_K hT X (no_tabs w.params)
  have Tg := ghost_top hT T
  obtain ⟨cb1, cb2, _⟩ := ghost_code hT
  refine c_law_body (A₀ := callerA) (base := ghostOf s₁.heap lawTabs) (outer := []) (dep := callerA.depth) (un := callerA.units) (gd := callerA.guards) (ghost_list hT hL) hI (by omega) dS (lt (1275, _) (.head _)) (lt (1282, _) (.tail _ (.head _))) rfl B' F' Xg Tg (by decide) (by decide) Xg Tg cb1 cb2 N' ?_
  intro h2 tk2 m2 g2 ps1 ps2 B2 F2 N2
  refine ⟨.inl ⟨_, .bool true, [], rfl, fun _ => rfl, .bool true, ?_, fun _ => ⟨.nil, fun _ ha => nomatch ha⟩⟩, old_law hT B2.stays F2 N2, rfl, .of_eq hg⟩
  first | exact rfl | kernel_rfl | decide
end Mine
end TCTop
end Rules
section THeadK
open PySem PySem.W PyProof.Rows
set_option Elab.async false
set_option maxRecDepth 100000
namespace Mine.Internal.hd
theorem tw7821361960523482326:True:=⟨⟩
theorem tw1292574782506224866:True:=⟨⟩
theorem tw15903440401835868834:True:=⟨⟩
theorem tw8904193203061881282:True:=⟨⟩
theorem tw5667273915815168098:True:=⟨⟩
theorem tw4854368506661825922:True:=⟨⟩
theorem tw1850006992992877954:True:=⟨⟩
theorem tw16159750873741389634:True:=⟨⟩
theorem tw1323028282283239234:True:=⟨⟩
theorem tw12289785986931056098:True:=⟨⟩
theorem tw42479039228130786:True:=⟨⟩
theorem tw13131669474384156130:True:=⟨⟩
theorem tw15328818835906777346:True:=⟨⟩
theorem tw5759647067039785218:True:=⟨⟩
theorem tw11476253306716732098:True:=⟨⟩
theorem tw16869773528944115042:True:=⟨⟩
theorem tw11745692727488381282:True:=⟨⟩
theorem tw4170544652312619650:True:=⟨⟩
theorem tw1992405202823017090:True:=⟨⟩
theorem tw1311894858572065410:True:=⟨⟩
theorem tw14585109114721359362:True:=⟨⟩
theorem tw7483599358628703746:True:=⟨⟩
theorem tw3609727675691564194:True:=⟨⟩
theorem tw7220989912257648802:True:=⟨⟩
theorem tw8670876273566594210:True:=⟨⟩
theorem tw9911449146246911586:True:=⟨⟩
theorem tw10976678710191227778:True:=⟨⟩
theorem tw15149605427897886594:True:=⟨⟩
theorem tw17847010519790855202:True:=⟨⟩
theorem tw15208779795234195778:True:=⟨⟩
theorem tw4783203304106624994:True:=⟨⟩
theorem tw10075236066252557282:True:=⟨⟩
theorem tw13397267326918798082:True:=⟨⟩
theorem tw8580518863689810338:True:=⟨⟩
theorem tw10586524348924607906:True:=⟨⟩
theorem tw12655525799616151746:True:=⟨⟩
theorem tw8993227998240613506:True:=⟨⟩
theorem tw9012918078620557602:True:=⟨⟩
theorem tw17451717533980511810:True:=⟨⟩
theorem tw2331973963085040194:True:=⟨⟩
theorem tw1523212933880916979:True:=⟨⟩
theorem tw8816488491593808883:True:=⟨⟩
theorem tw5330046652437701267:True:=⟨⟩
theorem tw1541199775450033235:True:=⟨⟩
theorem tw7343300513203493971:True:=⟨⟩
theorem tw12200847462783376755:True:=⟨⟩
theorem tw4136307361423647539:True:=⟨⟩
theorem tw11623240451586125619:True:=⟨⟩
theorem tw5278541085303473619:True:=⟨⟩
theorem tw9471679069698626803:True:=⟨⟩
theorem tw8149274712835364755:True:=⟨⟩
theorem tw856468140157597299:True:=⟨⟩
theorem tw12945714742577324819:True:=⟨⟩
theorem tw2848176756851099411:True:=⟨⟩
theorem tw6467283406827068179:True:=⟨⟩
theorem tw2365020520246788147:True:=⟨⟩
theorem tw740585118569290451:True:=⟨⟩
theorem tw14632772474323675635:True:=⟨⟩
theorem tw3244765175273431187:True:=⟨⟩
theorem tw13862642468083079315:True:=⟨⟩
theorem tw17662925508944244659:True:=⟨⟩
theorem tw2283856342367524435:True:=⟨⟩
theorem tw8672292167351520275:True:=⟨⟩
theorem tw8390539997926843411:True:=⟨⟩
theorem tw10223230911338949651:True:=⟨⟩
theorem tw17386589932338058259:True:=⟨⟩
theorem tw8913407344586987475:True:=⟨⟩
theorem tw7670109990956578547:True:=⟨⟩
theorem tw3241314515751092627:True:=⟨⟩
theorem tw15388080482858252691:True:=⟨⟩
theorem tw17106247454124805299:True:=⟨⟩
theorem tw13291438424144138419:True:=⟨⟩
theorem tw10982043714301441875:True:=⟨⟩
theorem tw3471617488691342163:True:=⟨⟩
theorem tw10804168806679319379:True:=⟨⟩
theorem tw567898682632124531:True:=⟨⟩
theorem tw11978532268704778355:True:=⟨⟩
theorem tw4410822158433673331:True:=⟨⟩
theorem tw58351903789159699:True:=⟨⟩
theorem tw13309457129844289811:True:=⟨⟩
theorem tw8113946606531873331:True:=⟨⟩
theorem tw18066081243835392563:True:=⟨⟩
theorem tw8547976606474840627:True:=⟨⟩
theorem tw2389079507042779699:True:=⟨⟩
theorem tw4950615714455853267:True:=⟨⟩
theorem tw14252316831149585619:True:=⟨⟩
theorem tw10261226752179379232:True:=⟨⟩
theorem tw4935679993663727648:True:=⟨⟩
theorem tw7759662770534874592:True:=⟨⟩
theorem tw2871652266406334944:True:=⟨⟩
theorem tw18147016373846634624:True:=⟨⟩
theorem tw4239049415839531936:True:=⟨⟩
theorem tw7273997582074884960:True:=⟨⟩
theorem tw13705485828373817184:True:=⟨⟩
theorem tw9729328000736971776:True:=⟨⟩
theorem tw17848483983322774464:True:=⟨⟩
theorem tw8293519452102458304:True:=⟨⟩
theorem tw13402166490378460096:True:=⟨⟩
theorem tw8386983601427270016:True:=⟨⟩
theorem tw10718497935973042336:True:=⟨⟩
theorem tw10478568671102049440:True:=⟨⟩
theorem tw2634524516542322496:True:=⟨⟩
theorem tw11243312107713688672:True:=⟨⟩
theorem tw13640487472285934688:True:=⟨⟩
theorem tw10314690494331789408:True:=⟨⟩
theorem tw6442102004362931456:True:=⟨⟩
theorem tw6668100618884986112:True:=⟨⟩
theorem tw12115566699164302592:True:=⟨⟩
theorem tw6023910225058666752:True:=⟨⟩
theorem tw3490399344014754336:True:=⟨⟩
theorem tw5512636732973679808:True:=⟨⟩
theorem tw7238881122909273056:True:=⟨⟩
theorem tw9894835663930673120:True:=⟨⟩
theorem tw2266067727031820928:True:=⟨⟩
theorem tw17745206419663925312:True:=⟨⟩
theorem tw302456392228881760:True:=⟨⟩
theorem tw7331053905995067744:True:=⟨⟩
theorem tw17825077915755302112:True:=⟨⟩
theorem tw6265170123278674144:True:=⟨⟩
theorem tw12881384457868248960:True:=⟨⟩
theorem tw231678842138440352:True:=⟨⟩
theorem tw183478918671366464:True:=⟨⟩
theorem tw4210854329550417504:True:=⟨⟩
theorem tw15313804776001833728:True:=⟨⟩
theorem tw124703635131657984:True:=⟨⟩
theorem tw13863886583734531057:True:=⟨⟩
theorem tw4933048531270659217:True:=⟨⟩
theorem tw11056149785067698321:True:=⟨⟩
theorem tw5165858259965997201:True:=⟨⟩
theorem tw17133045824648328273:True:=⟨⟩
theorem tw17860502405603952497:True:=⟨⟩
theorem tw8819627748442131313:True:=⟨⟩
theorem tw6547981424744323601:True:=⟨⟩
theorem tw15638330822065878545:True:=⟨⟩
theorem tw15419413099817759249:True:=⟨⟩
theorem tw11835290161127952913:True:=⟨⟩
theorem tw168201424540246993:True:=⟨⟩
theorem tw13244113239224849809:True:=⟨⟩
theorem tw12849525874377588401:True:=⟨⟩
theorem tw8494178379519767217:True:=⟨⟩
theorem tw11239992877300529265:True:=⟨⟩
theorem tw6355020355175173681:True:=⟨⟩
theorem tw17148754175671867601:True:=⟨⟩
theorem tw11790099413888845297:True:=⟨⟩
theorem tw4572914132581569009:True:=⟨⟩
theorem tw11521132717034644113:True:=⟨⟩
theorem tw546453376004863633:True:=⟨⟩
theorem tw10850427885867537041:True:=⟨⟩
theorem tw11869846291161295793:True:=⟨⟩
theorem tw15974211974722447953:True:=⟨⟩
theorem tw13257976950880005937:True:=⟨⟩
theorem tw3278898641362494929:True:=⟨⟩
theorem tw12538513643702813137:True:=⟨⟩
theorem tw12209715661091281649:True:=⟨⟩
theorem tw4507420085913086705:True:=⟨⟩
theorem tw336506951737951121:True:=⟨⟩
theorem tw12621257661673282449:True:=⟨⟩
theorem tw10875472949588697265:True:=⟨⟩
theorem tw2485592187805179729:True:=⟨⟩
theorem tw17417785148129514321:True:=⟨⟩
theorem tw7730664659590461041:True:=⟨⟩
theorem tw4412262172769576561:True:=⟨⟩
theorem tw2204935296298869009:True:=⟨⟩
theorem tw16460976945913506865:True:=⟨⟩
theorem tw5592036599571963590:True:=⟨⟩
theorem tw11833278902036403558:True:=⟨⟩
theorem tw6384089640036988262:True:=⟨⟩
theorem tw7230039626435586406:True:=⟨⟩
theorem tw4925474479639805574:True:=⟨⟩
theorem tw41017763157688102:True:=⟨⟩
theorem tw10584903055604394054:True:=⟨⟩
theorem tw6351698254187997254:True:=⟨⟩
theorem tw10708561578853574150:True:=⟨⟩
theorem tw3003183182289327622:True:=⟨⟩
theorem tw10932325485557636262:True:=⟨⟩
theorem tw2811318038965151686:True:=⟨⟩
theorem tw10200596682531068870:True:=⟨⟩
theorem tw15544853520655005638:True:=⟨⟩
theorem tw14791417324727343718:True:=⟨⟩
theorem tw14831906022683161478:True:=⟨⟩
theorem tw14154010076438239110:True:=⟨⟩
theorem tw5813924530853040166:True:=⟨⟩
theorem tw6827767141150073894:True:=⟨⟩
theorem tw5875580373042446662:True:=⟨⟩
theorem tw10720887837350958406:True:=⟨⟩
theorem tw3595355477287675206:True:=⟨⟩
theorem tw16753856019293054950:True:=⟨⟩
theorem tw14784423416584386534:True:=⟨⟩
theorem tw8053185651649180646:True:=⟨⟩
theorem tw17051707027893714694:True:=⟨⟩
theorem tw2994801530090354438:True:=⟨⟩
theorem tw7690266627064258982:True:=⟨⟩
theorem tw17728965625124801958:True:=⟨⟩
theorem tw9035368302765726918:True:=⟨⟩
theorem tw17085629754188750694:True:=⟨⟩
theorem tw7086048481527543654:True:=⟨⟩
theorem tw11234307636885372486:True:=⟨⟩
theorem tw9208106234588509766:True:=⟨⟩
theorem tw13253541544203528774:True:=⟨⟩
theorem tw541580609670479430:True:=⟨⟩
theorem tw15775876202546382854:True:=⟨⟩
theorem tw12859282356559654918:True:=⟨⟩
theorem tw8449447019536682662:True:=⟨⟩
theorem tw12179782168187316902:True:=⟨⟩
theorem tw8886676353466617286:True:=⟨⟩
theorem tw15610926135251115398:True:=⟨⟩
theorem tw17282572219535590950:True:=⟨⟩
theorem tw6341908896634534438:True:=⟨⟩
theorem tw8138335841240258086:True:=⟨⟩
theorem tw15161326946880079398:True:=⟨⟩
theorem tw15954617418576163654:True:=⟨⟩
theorem tw6034331834246549318:True:=⟨⟩
theorem tw14438868419966217030:True:=⟨⟩
theorem tw1555437378128666086:True:=⟨⟩
theorem tw9119655138871107046:True:=⟨⟩
theorem tw3025108057812911590:True:=⟨⟩
theorem tw3228372226667921670:True:=⟨⟩
theorem tw17631733924889304326:True:=⟨⟩
theorem tw7746552458522460070:True:=⟨⟩
theorem tw15662535594664088486:True:=⟨⟩
theorem tw9959168783939394535:True:=⟨⟩
theorem tw23902888720678887:True:=⟨⟩
theorem tw9061976029859154695:True:=⟨⟩
theorem tw8808839054081031943:True:=⟨⟩
theorem tw10984199556857962247:True:=⟨⟩
theorem tw10868664014757305031:True:=⟨⟩
theorem tw14523085412063620967:True:=⟨⟩
theorem tw15945647015417289575:True:=⟨⟩
theorem tw8363449657656907623:True:=⟨⟩
theorem tw2557189256652083335:True:=⟨⟩
theorem tw15981775994675145863:True:=⟨⟩
theorem tw16279427001679887495:True:=⟨⟩
theorem tw15725300006707927175:True:=⟨⟩
theorem tw18225048404721366151:True:=⟨⟩
theorem tw11203017424089718567:True:=⟨⟩
theorem tw10334311738655131207:True:=⟨⟩
theorem tw8899746735614894663:True:=⟨⟩
theorem tw270159884227141191:True:=⟨⟩
theorem tw960524448959485159:True:=⟨⟩
theorem tw6872526038962216167:True:=⟨⟩
theorem tw6425283475488350215:True:=⟨⟩
theorem tw11155353856842241703:True:=⟨⟩
theorem tw15157931247601712807:True:=⟨⟩
theorem tw17562630884545722471:True:=⟨⟩
theorem tw420110763358337415:True:=⟨⟩
theorem tw9368504840272485767:True:=⟨⟩
theorem tw7184416912432077863:True:=⟨⟩
theorem tw11747188248321908775:True:=⟨⟩
theorem tw16923775255107783495:True:=⟨⟩
theorem tw6586001862233079623:True:=⟨⟩
theorem tw11521076009072141127:True:=⟨⟩
theorem tw13637684649295473127:True:=⟨⟩
theorem tw4013227346040760583:True:=⟨⟩
theorem tw3825937853902108583:True:=⟨⟩
theorem tw18260245816743181511:True:=⟨⟩
theorem tw1601565571807774055:True:=⟨⟩
theorem tw6770055932767112551:True:=⟨⟩
theorem tw1895951369120612711:True:=⟨⟩
theorem tw8667539529067879:True:=⟨⟩
theorem tw567885990545472871:True:=⟨⟩
theorem tw1781748603270608967:True:=⟨⟩
theorem tw6219950571994921479:True:=⟨⟩
theorem tw8367048467389024775:True:=⟨⟩
theorem tw126899189614909607:True:=⟨⟩
theorem tw8001206370205753959:True:=⟨⟩
theorem tw9027985886240724871:True:=⟨⟩
theorem tw9886747476611742599:True:=⟨⟩
theorem tw13043773894940636711:True:=⟨⟩
theorem tw13226822057152013863:True:=⟨⟩
theorem tw17896979994045829828:True:=⟨⟩
theorem tw17438610683811369668:True:=⟨⟩
theorem tw7873400313799303876:True:=⟨⟩
theorem tw4650248630828124516:True:=⟨⟩
theorem tw10056392159520603492:True:=⟨⟩
theorem tw1899478393449861924:True:=⟨⟩
theorem tw7635829786263382596:True:=⟨⟩
theorem tw18158035491867847236:True:=⟨⟩
theorem tw12135065554953047620:True:=⟨⟩
theorem tw2198320190079138372:True:=⟨⟩
theorem tw4413494717353474276:True:=⟨⟩
theorem tw17405430278144241156:True:=⟨⟩
theorem tw16210493721406562244:True:=⟨⟩
theorem tw3020274298221478276:True:=⟨⟩
theorem tw7119652698235046276:True:=⟨⟩
theorem tw7524951473946329476:True:=⟨⟩
theorem tw10002268660128649252:True:=⟨⟩
theorem tw5504556581544584004:True:=⟨⟩
theorem tw1984363972637095396:True:=⟨⟩
theorem tw2540744197897768420:True:=⟨⟩
theorem tw16695454393824905988:True:=⟨⟩
theorem tw5598066291311507204:True:=⟨⟩
theorem tw8715333617671011236:True:=⟨⟩
theorem tw1799029648346536868:True:=⟨⟩
theorem tw18143610487759034564:True:=⟨⟩
theorem tw12113259657773216964:True:=⟨⟩
theorem tw16953484572288141156:True:=⟨⟩
theorem tw9013603393401162020:True:=⟨⟩
theorem tw4158538966326616356:True:=⟨⟩
theorem tw6275758757913814308:True:=⟨⟩
theorem tw16874358794406088996:True:=⟨⟩
theorem tw18229235640690726180:True:=⟨⟩
theorem tw15695144274627864644:True:=⟨⟩
theorem tw9285060498679892708:True:=⟨⟩
theorem tw3394336870119047908:True:=⟨⟩
theorem tw12740448316850118660:True:=⟨⟩
theorem tw17924859569552203780:True:=⟨⟩
theorem tw15413546389474711556:True:=⟨⟩
theorem tw16271221263835843588:True:=⟨⟩
theorem tw6583578442109099172:True:=⟨⟩
theorem tw14487415735459167684:True:=⟨⟩
theorem tw7529648799523948996:True:=⟨⟩
theorem tw3284363174483386244:True:=⟨⟩
theorem tw16506212381159507844:True:=⟨⟩
theorem tw11864378218710959652:True:=⟨⟩
theorem tw3713774561306115620:True:=⟨⟩
theorem tw15722214150439884324:True:=⟨⟩
theorem tw12752725365382290980:True:=⟨⟩
theorem tw10310522070392361284:True:=⟨⟩
theorem tw5630533868503338980:True:=⟨⟩
theorem tw14864250025649883108:True:=⟨⟩
theorem tw10796147989822787844:True:=⟨⟩
theorem tw10950900528292386117:True:=⟨⟩
theorem tw7160675850246644485:True:=⟨⟩
theorem tw5724930324438531845:True:=⟨⟩
theorem tw4551586886017427205:True:=⟨⟩
theorem tw7535887658832202149:True:=⟨⟩
theorem tw4215820143475215781:True:=⟨⟩
theorem tw4834755124440303813:True:=⟨⟩
theorem tw4736157901138370405:True:=⟨⟩
theorem tw6179258418468663141:True:=⟨⟩
theorem tw12083575760338326149:True:=⟨⟩
theorem tw17475676430395871877:True:=⟨⟩
theorem tw9869680852686050949:True:=⟨⟩
theorem tw11445796338385990213:True:=⟨⟩
theorem tw7569833724000825925:True:=⟨⟩
theorem tw1262521818313538117:True:=⟨⟩
theorem tw15293771430684577509:True:=⟨⟩
theorem tw16368629955692084229:True:=⟨⟩
theorem tw15850850952774717093:True:=⟨⟩
theorem tw1802135716158502341:True:=⟨⟩
theorem tw16490958093706603973:True:=⟨⟩
theorem tw8184985727622759877:True:=⟨⟩
theorem tw219480563031444581:True:=⟨⟩
theorem tw9205932166849929317:True:=⟨⟩
theorem tw17082179047947594277:True:=⟨⟩
theorem tw6418394132375852581:True:=⟨⟩
theorem tw7107885837275350853:True:=⟨⟩
theorem tw16118823824875299653:True:=⟨⟩
theorem tw17630102493349999429:True:=⟨⟩
theorem tw3674186819540265957:True:=⟨⟩
theorem tw16244669901488709893:True:=⟨⟩
theorem tw6229570014629185221:True:=⟨⟩
theorem tw5727967610002061669:True:=⟨⟩
theorem tw16045600132092593285:True:=⟨⟩
theorem tw3750811979167540357:True:=⟨⟩
theorem tw13846476931252782885:True:=⟨⟩
theorem tw6276673660110437445:True:=⟨⟩
theorem tw6320518386173553733:True:=⟨⟩
theorem tw18279466969836665061:True:=⟨⟩
theorem tw4535849701284284645:True:=⟨⟩
theorem tw6942949338078487781:True:=⟨⟩
theorem tw5695148799593641189:True:=⟨⟩
theorem tw4639630377994808837:True:=⟨⟩
theorem tw3058765270845314565:True:=⟨⟩
theorem tw8594091374061654533:True:=⟨⟩
theorem tw14669425496545353893:True:=⟨⟩
theorem tw4329327081025809573:True:=⟨⟩
theorem tw9940076194958452677:True:=⟨⟩
theorem tw17431136852173646437:True:=⟨⟩
theorem tw11350916983344032794:True:=⟨⟩
theorem tw7703145625051659290:True:=⟨⟩
theorem tw603594558354810906:True:=⟨⟩
theorem tw3655753129109681850:True:=⟨⟩
theorem tw5597022631086240730:True:=⟨⟩
theorem tw17186467315314896858:True:=⟨⟩
theorem tw5702414654393783258:True:=⟨⟩
theorem tw5339606861080546426:True:=⟨⟩
theorem tw16876290765625790874:True:=⟨⟩
theorem tw16561031784554278298:True:=⟨⟩
theorem tw5058971680067830842:True:=⟨⟩
theorem tw2068406123592202298:True:=⟨⟩
theorem tw14360195343244902458:True:=⟨⟩
theorem tw16221998681652435002:True:=⟨⟩
theorem tw16349847624731819066:True:=⟨⟩
theorem tw15237705394332104762:True:=⟨⟩
theorem tw7966823312900173658:True:=⟨⟩
theorem tw7669143873086936922:True:=⟨⟩
theorem tw15360700911483270650:True:=⟨⟩
theorem tw10604818783366450682:True:=⟨⟩
theorem tw5246941504419573690:True:=⟨⟩
theorem tw14468667811800868794:True:=⟨⟩
theorem tw8753742132941547738:True:=⟨⟩
theorem tw3703956732320662906:True:=⟨⟩
theorem tw14246127934150904186:True:=⟨⟩
theorem tw9673087150982176410:True:=⟨⟩
theorem tw12387470312852788890:True:=⟨⟩
theorem tw2501938814400721562:True:=⟨⟩
theorem tw4520646222491181370:True:=⟨⟩
theorem tw6038658630603023450:True:=⟨⟩
theorem tw17110113439582799386:True:=⟨⟩
theorem tw13414662886053400026:True:=⟨⟩
theorem tw4318662949951621594:True:=⟨⟩
theorem tw6816647734673517018:True:=⟨⟩
theorem tw13433236359130419834:True:=⟨⟩
theorem tw5766817342387943034:True:=⟨⟩
theorem tw17412215115074521722:True:=⟨⟩
theorem tw11548240466464355962:True:=⟨⟩
theorem tw226073816358300282:True:=⟨⟩
theorem tw5487493568022846362:True:=⟨⟩
theorem tw17553067712141033818:True:=⟨⟩
theorem tw7493792406740641562:True:=⟨⟩
theorem tw16063936889278989754:True:=⟨⟩
theorem tw7882751426655431386:True:=⟨⟩
theorem tw15039365748200984442:True:=⟨⟩
theorem tw120949319569067898:True:=⟨⟩
theorem tw6758191495299125114:True:=⟨⟩
theorem tw11094289645390684026:True:=⟨⟩
theorem tw16898703421338395802:True:=⟨⟩
theorem tw8889955186467401882:True:=⟨⟩
theorem tw7931173958741972122:True:=⟨⟩
theorem tw17776756044511651994:True:=⟨⟩
theorem tw4115823564253892186:True:=⟨⟩
theorem tw1942723855846508794:True:=⟨⟩
theorem tw16973133056051306746:True:=⟨⟩
theorem tw16491924972389407994:True:=⟨⟩
theorem tw16782738593694554091:True:=⟨⟩
theorem tw15972030042294211563:True:=⟨⟩
theorem tw4854229051247803819:True:=⟨⟩
theorem tw1976320048464600139:True:=⟨⟩
theorem tw6551069468878901323:True:=⟨⟩
theorem tw8890726212758104139:True:=⟨⟩
theorem tw4855435815858847083:True:=⟨⟩
theorem tw7076120885198085643:True:=⟨⟩
theorem tw9576667148146664971:True:=⟨⟩
theorem tw6390727810798310923:True:=⟨⟩
theorem tw13185518256862622155:True:=⟨⟩
theorem tw6617686139246983403:True:=⟨⟩
theorem tw1680920111763224811:True:=⟨⟩
theorem tw10478118752892766091:True:=⟨⟩
theorem tw13078271307976294731:True:=⟨⟩
theorem tw7167780255434881355:True:=⟨⟩
theorem tw18088897003149539659:True:=⟨⟩
theorem tw4011730449221504619:True:=⟨⟩
theorem tw3361780842719999595:True:=⟨⟩
theorem tw792992302998013707:True:=⟨⟩
theorem tw13673710656853086251:True:=⟨⟩
theorem tw13060237787698756651:True:=⟨⟩
theorem tw12822537139662283243:True:=⟨⟩
theorem tw18059793885086720939:True:=⟨⟩
theorem tw4451072393086977611:True:=⟨⟩
theorem tw13260216794222476875:True:=⟨⟩
theorem tw8382594148505853963:True:=⟨⟩
theorem tw11812990402858981387:True:=⟨⟩
theorem tw1123976555077800971:True:=⟨⟩
theorem tw5048557933796377899:True:=⟨⟩
theorem tw7587126088831727915:True:=⟨⟩
theorem tw4144914912218024235:True:=⟨⟩
theorem tw2766661427924329419:True:=⟨⟩
theorem tw10819485041398963147:True:=⟨⟩
theorem tw15872721093973134059:True:=⟨⟩
theorem tw432312013788014763:True:=⟨⟩
theorem tw4494026699480025259:True:=⟨⟩
theorem tw18045105196089033547:True:=⟨⟩
theorem tw1160317203684671307:True:=⟨⟩
theorem tw324789982251995979:True:=⟨⟩
theorem tw8267077920821831787:True:=⟨⟩
theorem tw15144907421984986667:True:=⟨⟩
theorem tw17232697547758917835:True:=⟨⟩
theorem tw5270485755897854155:True:=⟨⟩
theorem tw7828219581880995019:True:=⟨⟩
theorem tw9342841184166999243:True:=⟨⟩
theorem tw16148404707657748683:True:=⟨⟩
theorem tw15103342064012570648:True:=⟨⟩
theorem tw7608060696618008248:True:=⟨⟩
theorem tw2358399209354548696:True:=⟨⟩
theorem tw18205726932040692184:True:=⟨⟩
theorem tw11483237411998669720:True:=⟨⟩
theorem tw10407268118452713368:True:=⟨⟩
theorem tw5463311042859391544:True:=⟨⟩
theorem tw3227706676992921592:True:=⟨⟩
theorem tw11406844259604597016:True:=⟨⟩
theorem tw10554151724961605560:True:=⟨⟩
theorem tw2245258775325047736:True:=⟨⟩
theorem tw6493439458051767224:True:=⟨⟩
theorem tw2974339514598981336:True:=⟨⟩
theorem tw10735011138126884216:True:=⟨⟩
theorem tw7940129607693576344:True:=⟨⟩
theorem tw3916285193714390168:True:=⟨⟩
theorem tw16222965213611063096:True:=⟨⟩
theorem tw9666658338934384728:True:=⟨⟩
theorem tw2239790306715865176:True:=⟨⟩
theorem tw9517948640609326328:True:=⟨⟩
theorem tw1006474142936029432:True:=⟨⟩
theorem tw10812026482400934424:True:=⟨⟩
theorem tw10169186735810369720:True:=⟨⟩
theorem tw17276195320934711480:True:=⟨⟩
theorem tw6786659393958316216:True:=⟨⟩
theorem tw18344054339320819672:True:=⟨⟩
theorem tw4459829061737920120:True:=⟨⟩
theorem tw13721701085657304472:True:=⟨⟩
theorem tw11656587275550533016:True:=⟨⟩
theorem tw7192714274489868344:True:=⟨⟩
theorem tw8480387041410936312:True:=⟨⟩
theorem tw13878465386051367416:True:=⟨⟩
theorem tw10010880442989136664:True:=⟨⟩
theorem tw7076078542390164920:True:=⟨⟩
theorem tw12149660499277099224:True:=⟨⟩
theorem tw9844633441911778520:True:=⟨⟩
theorem tw15127604789221709464:True:=⟨⟩
theorem tw8998826512192558392:True:=⟨⟩
theorem tw11314117055357068600:True:=⟨⟩
theorem tw13894294492759856728:True:=⟨⟩
theorem tw5263473918493443672:True:=⟨⟩
theorem tw8754232674301072984:True:=⟨⟩
theorem tw4795873937789857368:True:=⟨⟩
theorem tw12402786825793880664:True:=⟨⟩
theorem tw6920564403339149048:True:=⟨⟩
theorem tw2495854087540526761:True:=⟨⟩
theorem tw10647877414073012905:True:=⟨⟩
theorem tw4229197034057890473:True:=⟨⟩
theorem tw14170626163746665929:True:=⟨⟩
theorem tw13893224023628974537:True:=⟨⟩
theorem tw738775025143659625:True:=⟨⟩
theorem tw10126381309830911881:True:=⟨⟩
theorem tw10070748784411743049:True:=⟨⟩
theorem tw14675040844991300425:True:=⟨⟩
theorem tw12235683188849618921:True:=⟨⟩
theorem tw6146999420328679401:True:=⟨⟩
theorem tw580786715081773033:True:=⟨⟩
theorem tw5499663076606008585:True:=⟨⟩
theorem tw2417802982746472137:True:=⟨⟩
theorem tw16479881564531537609:True:=⟨⟩
theorem tw8855148851239498441:True:=⟨⟩
theorem tw9557033521324488393:True:=⟨⟩
theorem tw10961369148470160073:True:=⟨⟩
theorem tw16558604503322718569:True:=⟨⟩
theorem tw9716150944856294761:True:=⟨⟩
theorem tw12328740410804925801:True:=⟨⟩
theorem tw10314814847376767113:True:=⟨⟩
theorem tw8133261498294430857:True:=⟨⟩
theorem tw12580157457374322825:True:=⟨⟩
theorem tw1070806864712125225:True:=⟨⟩
theorem tw477729914001885993:True:=⟨⟩
theorem tw2454814033019696937:True:=⟨⟩
theorem tw12481797993636667465:True:=⟨⟩
theorem tw2394875097976081641:True:=⟨⟩
theorem tw13423386743651976425:True:=⟨⟩
theorem tw8624149140182123753:True:=⟨⟩
theorem tw1513407473488127497:True:=⟨⟩
theorem tw2399103561582609577:True:=⟨⟩
theorem tw2241180450144564393:True:=⟨⟩
theorem tw15263923349613389769:True:=⟨⟩
theorem tw12864325376041727945:True:=⟨⟩
theorem tw10392334341150296681:True:=⟨⟩
theorem tw11746251328225360489:True:=⟨⟩
theorem tw570580334211071369:True:=⟨⟩
theorem tw12343268692668775817:True:=⟨⟩
theorem tw18061153546308781385:True:=⟨⟩
theorem tw12023000035769693673:True:=⟨⟩
theorem tw16856025145315924457:True:=⟨⟩
theorem tw13005405145879189257:True:=⟨⟩
theorem tw18352704746069975241:True:=⟨⟩
theorem tw6915010725816912745:True:=⟨⟩
theorem tw17052650310773991273:True:=⟨⟩
theorem tw15232813378086664489:True:=⟨⟩
theorem tw8057657703671246121:True:=⟨⟩
theorem tw8434754763198761545:True:=⟨⟩
theorem tw13030214449425564393:True:=⟨⟩
theorem tw3541772276978147337:True:=⟨⟩
theorem tw14979002361958829438:True:=⟨⟩
theorem tw15808516280766499198:True:=⟨⟩
theorem tw12899943327723670910:True:=⟨⟩
theorem tw5734481751687486110:True:=⟨⟩
theorem tw15516504957378829982:True:=⟨⟩
theorem tw5765981979616339262:True:=⟨⟩
theorem tw8583156150137307454:True:=⟨⟩
theorem tw16738745784312259678:True:=⟨⟩
theorem tw12927277143433365694:True:=⟨⟩
theorem tw11443670614736355518:True:=⟨⟩
theorem tw1450175648694293406:True:=⟨⟩
theorem tw17232693881448610366:True:=⟨⟩
theorem tw7684266224416042558:True:=⟨⟩
theorem tw14479959197142875710:True:=⟨⟩
theorem tw1037384927157171198:True:=⟨⟩
theorem tw16216923722150777630:True:=⟨⟩
theorem tw2873107717996512030:True:=⟨⟩
theorem tw15455116640653406654:True:=⟨⟩
theorem tw14843652167993416414:True:=⟨⟩
theorem tw12249696234330937054:True:=⟨⟩
theorem tw10980925986996206302:True:=⟨⟩
theorem tw8943243362205933438:True:=⟨⟩
theorem tw2447612040936993662:True:=⟨⟩
theorem tw12386524454841638718:True:=⟨⟩
theorem tw2582875464695293758:True:=⟨⟩
theorem tw9807025249006525022:True:=⟨⟩
theorem tw5764951542481038590:True:=⟨⟩
theorem tw6760662844775422206:True:=⟨⟩
theorem tw1479440292816680990:True:=⟨⟩
theorem tw3544829072904777758:True:=⟨⟩
theorem tw12293094761602424862:True:=⟨⟩
theorem tw1532897608927182526:True:=⟨⟩
theorem tw2202738052149791422:True:=⟨⟩
theorem tw13367688621499913182:True:=⟨⟩
theorem tw6078900312468773854:True:=⟨⟩
theorem tw14727973948776507358:True:=⟨⟩
theorem tw17295801982453579902:True:=⟨⟩
theorem tw5636303146250169470:True:=⟨⟩
theorem tw10031117400631392382:True:=⟨⟩
theorem tw14252789559878227070:True:=⟨⟩
theorem tw17777096316016710046:True:=⟨⟩
theorem tw9681958355900392862:True:=⟨⟩
theorem tw16808911903280404894:True:=⟨⟩
theorem tw7839861392634791998:True:=⟨⟩
theorem tw503780265075650398:True:=⟨⟩
theorem tw11066038104728849246:True:=⟨⟩
theorem tw17682009817383010814:True:=⟨⟩
theorem tw11307048654218664222:True:=⟨⟩
theorem tw6362447207671622590:True:=⟨⟩
theorem tw15184348022372230366:True:=⟨⟩
theorem tw11026102214843661311:True:=⟨⟩
theorem tw15972110575474759679:True:=⟨⟩
theorem tw2155373148024153087:True:=⟨⟩
theorem tw9687556985513317663:True:=⟨⟩
theorem tw3062554034549116351:True:=⟨⟩
theorem tw6232892379941588703:True:=⟨⟩
theorem tw15373592851439433439:True:=⟨⟩
theorem tw9276349011584097663:True:=⟨⟩
theorem tw5462893749543862879:True:=⟨⟩
theorem tw11170986363074059871:True:=⟨⟩
theorem tw6128699546485818623:True:=⟨⟩
theorem tw2371586418194438399:True:=⟨⟩
theorem tw1838016361993159935:True:=⟨⟩
theorem tw12071501765572576511:True:=⟨⟩
theorem tw15643034517356785631:True:=⟨⟩
theorem tw8431553999049341567:True:=⟨⟩
theorem tw5558443091381482111:True:=⟨⟩
theorem tw10123922257226166911:True:=⟨⟩
theorem tw2540508547489348831:True:=⟨⟩
theorem tw8119415023574550399:True:=⟨⟩
theorem tw3487185270739371903:True:=⟨⟩
theorem tw12284123929361467263:True:=⟨⟩
theorem tw13704628199583507327:True:=⟨⟩
theorem tw13593311038801747615:True:=⟨⟩
theorem tw8867138011813171871:True:=⟨⟩
theorem tw6767105285010031935:True:=⟨⟩
theorem tw2149693233209586783:True:=⟨⟩
theorem tw7522362723090193151:True:=⟨⟩
theorem tw6619486752054971423:True:=⟨⟩
theorem tw10977381208538771487:True:=⟨⟩
theorem tw5079330015975024831:True:=⟨⟩
theorem tw15709432073139065983:True:=⟨⟩
theorem tw1295079835146089599:True:=⟨⟩
theorem tw628826382804869247:True:=⟨⟩
theorem tw12398722771655946143:True:=⟨⟩
theorem tw15842043797858019231:True:=⟨⟩
theorem tw2944121130915620767:True:=⟨⟩
theorem tw9192306302185186207:True:=⟨⟩
theorem tw10754876068304953247:True:=⟨⟩
theorem tw18183398384106905503:True:=⟨⟩
theorem tw12328891124129407551:True:=⟨⟩
theorem tw5930415463011625340:True:=⟨⟩
theorem tw4588187551228634268:True:=⟨⟩
theorem tw13814786413287485596:True:=⟨⟩
theorem tw16264488296547236668:True:=⟨⟩
theorem tw6178929325686578268:True:=⟨⟩
theorem tw9465431125875546204:True:=⟨⟩
theorem tw11810988563341916252:True:=⟨⟩
theorem tw6424439552836831324:True:=⟨⟩
theorem tw3261694639857263868:True:=⟨⟩
theorem tw6645754676732357884:True:=⟨⟩
theorem tw870252485276807420:True:=⟨⟩
theorem tw7178817707606537756:True:=⟨⟩
theorem tw9309459007353498140:True:=⟨⟩
theorem tw16149103838541710524:True:=⟨⟩
theorem tw2521811729287596220:True:=⟨⟩
theorem tw1425572920642684092:True:=⟨⟩
theorem tw6496468359453899740:True:=⟨⟩
theorem tw10763837439906050012:True:=⟨⟩
theorem tw1111395655364133852:True:=⟨⟩
theorem tw17573272137492337276:True:=⟨⟩
theorem tw4293566933973591676:True:=⟨⟩
theorem tw12804790748501761660:True:=⟨⟩
theorem tw7805803428083949980:True:=⟨⟩
theorem tw9789424005658652060:True:=⟨⟩
theorem tw11815352881546339388:True:=⟨⟩
theorem tw4186443071834478652:True:=⟨⟩
theorem tw6409171298767135804:True:=⟨⟩
theorem tw6100019897110745148:True:=⟨⟩
theorem tw73932630633417052:True:=⟨⟩
theorem tw1764190043647282684:True:=⟨⟩
theorem tw8351938191404612092:True:=⟨⟩
theorem tw9503991325330020860:True:=⟨⟩
theorem tw4887793233202170652:True:=⟨⟩
theorem tw15797887610175988156:True:=⟨⟩
theorem tw6897007368991420636:True:=⟨⟩
theorem tw6743835506366012284:True:=⟨⟩
theorem tw1525885583670464380:True:=⟨⟩
theorem tw12364089574907121532:True:=⟨⟩
theorem tw17581694313120579900:True:=⟨⟩
theorem tw10290247671117069052:True:=⟨⟩
theorem tw2386032343275876092:True:=⟨⟩
theorem tw2945750046319874812:True:=⟨⟩
theorem tw8980842199889561628:True:=⟨⟩
theorem tw6060171853651468988:True:=⟨⟩
theorem tw8827373875297307324:True:=⟨⟩
theorem tw11537399940052880508:True:=⟨⟩
theorem tw1209259664397189692:True:=⟨⟩
theorem tw11871245172023452956:True:=⟨⟩
theorem tw10954896027920521500:True:=⟨⟩
theorem tw910413702233126172:True:=⟨⟩
theorem tw16762059770042763196:True:=⟨⟩
theorem tw15181314209895136188:True:=⟨⟩
theorem tw10521865142931584956:True:=⟨⟩
theorem tw3844737390442312636:True:=⟨⟩
theorem tw1575818370579092412:True:=⟨⟩
theorem tw3751741238260587452:True:=⟨⟩
theorem tw15051540443700079324:True:=⟨⟩
theorem tw16279281476208572124:True:=⟨⟩
theorem tw6888037770979986429:True:=⟨⟩
theorem tw12908175579262019581:True:=⟨⟩
theorem tw5594199804548315133:True:=⟨⟩
theorem tw5627993144553289949:True:=⟨⟩
theorem tw13875821200728361853:True:=⟨⟩
theorem tw7879665242938685309:True:=⟨⟩
theorem tw1280408269989808285:True:=⟨⟩
theorem tw12675848167991613597:True:=⟨⟩
theorem tw6812285832159228509:True:=⟨⟩
theorem tw13082511223303912029:True:=⟨⟩
theorem tw5932558218160036093:True:=⟨⟩
theorem tw4212550544905979133:True:=⟨⟩
theorem tw2601553834287326237:True:=⟨⟩
theorem tw10584935223327274461:True:=⟨⟩
theorem tw17986764984829171165:True:=⟨⟩
theorem tw4323881887774741629:True:=⟨⟩
theorem tw5127809879845470621:True:=⟨⟩
theorem tw6324595852799433117:True:=⟨⟩
theorem tw1665519426611977725:True:=⟨⟩
theorem tw1002739005766175229:True:=⟨⟩
theorem tw378977806655794909:True:=⟨⟩
theorem tw5910955368310942365:True:=⟨⟩
theorem tw18315960055377521309:True:=⟨⟩
theorem tw16834843177216533021:True:=⟨⟩
theorem tw5486493490053360157:True:=⟨⟩
theorem tw17245169477016047229:True:=⟨⟩
theorem tw14185234552157331069:True:=⟨⟩
theorem tw9452872987620912765:True:=⟨⟩
theorem tw7309933557424586653:True:=⟨⟩
theorem tw13695510738193669181:True:=⟨⟩
theorem tw1378153343294550077:True:=⟨⟩
theorem tw5411588774181628338:True:=⟨⟩
theorem tw9340432698400089522:True:=⟨⟩
theorem tw2738606659493605458:True:=⟨⟩
theorem tw17480675751169399666:True:=⟨⟩
theorem tw16049856711259736594:True:=⟨⟩
theorem tw10066325740915139090:True:=⟨⟩
theorem tw11289369990987626450:True:=⟨⟩
theorem tw1001501262261694418:True:=⟨⟩
theorem tw2776922457245515730:True:=⟨⟩
theorem tw13411596345087251410:True:=⟨⟩
theorem tw9986380394683777266:True:=⟨⟩
theorem tw7181557272237157618:True:=⟨⟩
theorem tw17438882437580071154:True:=⟨⟩
theorem tw8882255173952614290:True:=⟨⟩
theorem tw10592794516085672850:True:=⟨⟩
theorem tw6046201485432095634:True:=⟨⟩
theorem tw9263913306972830034:True:=⟨⟩
theorem tw16531839799347345522:True:=⟨⟩
theorem tw2177979273374649106:True:=⟨⟩
theorem tw13585729697985622802:True:=⟨⟩
theorem tw5027669282166582034:True:=⟨⟩
theorem tw10610930620100246578:True:=⟨⟩
theorem tw6170397048971407570:True:=⟨⟩
theorem tw2116293081078497426:True:=⟨⟩
theorem tw17734745681671571602:True:=⟨⟩
theorem tw14199497947161861042:True:=⟨⟩
theorem tw4130825540490128306:True:=⟨⟩
theorem tw791894052214622578:True:=⟨⟩
theorem tw8980041911258296626:True:=⟨⟩
theorem tw1387449649885023538:True:=⟨⟩
theorem tw2307930045212491506:True:=⟨⟩
theorem tw8549650921257051890:True:=⟨⟩
theorem tw10731177294508112274:True:=⟨⟩
theorem tw15068095265764424882:True:=⟨⟩
theorem tw10103744979029015730:True:=⟨⟩
theorem tw11788377316966045874:True:=⟨⟩
theorem tw5109750279720785074:True:=⟨⟩
theorem tw1369006999010240338:True:=⟨⟩
theorem tw2038790695668725586:True:=⟨⟩
theorem tw820227566019061362:True:=⟨⟩
theorem tw1769600823664482930:True:=⟨⟩
theorem tw6196946367736269074:True:=⟨⟩
theorem tw15459919231471728178:True:=⟨⟩
theorem tw13831593846471801795:True:=⟨⟩
theorem tw880765996842172355:True:=⟨⟩
theorem tw15292561661927768003:True:=⟨⟩
theorem tw18224232547471651939:True:=⟨⟩
theorem tw15722331224553798755:True:=⟨⟩
theorem tw10507069991603443811:True:=⟨⟩
theorem tw1122436896229213571:True:=⟨⟩
theorem tw1948366231462838307:True:=⟨⟩
theorem tw7688735527202146115:True:=⟨⟩
theorem tw4026838921711094595:True:=⟨⟩
theorem tw5976037514866842435:True:=⟨⟩
theorem tw17078526466157459939:True:=⟨⟩
theorem tw14739706128910411235:True:=⟨⟩
theorem tw17796897283461638403:True:=⟨⟩
theorem tw10315466174217670915:True:=⟨⟩
theorem tw1669287690364492995:True:=⟨⟩
theorem tw11432382262962725059:True:=⟨⟩
theorem tw11949874537902713027:True:=⟨⟩
theorem tw3093505475390664035:True:=⟨⟩
theorem tw4949857960039595651:True:=⟨⟩
theorem tw3415153176103795331:True:=⟨⟩
theorem tw6742079255410503971:True:=⟨⟩
theorem tw10543549493946370339:True:=⟨⟩
theorem tw4143826401244880611:True:=⟨⟩
theorem tw1915855561349344771:True:=⟨⟩
theorem tw5469443151430644227:True:=⟨⟩
theorem tw17764615713609121955:True:=⟨⟩
theorem tw3219386304998410691:True:=⟨⟩
theorem tw1826558063878798787:True:=⟨⟩
theorem tw5197284449146708579:True:=⟨⟩
theorem tw11145164175221040675:True:=⟨⟩
theorem tw7793654075249205795:True:=⟨⟩
theorem tw4022063746063642947:True:=⟨⟩
theorem tw6310044790894242115:True:=⟨⟩
theorem tw14497964095726069059:True:=⟨⟩
theorem tw2229498832506520899:True:=⟨⟩
theorem tw17301770046715024355:True:=⟨⟩
theorem tw15573792974875501539:True:=⟨⟩
theorem tw3416535462228283139:True:=⟨⟩
theorem tw10258465067628124579:True:=⟨⟩
theorem tw977017194038806211:True:=⟨⟩
theorem tw1479833339227408067:True:=⟨⟩
theorem tw13692123062782078819:True:=⟨⟩
theorem tw14473985656389049187:True:=⟨⟩
theorem tw2414695876002994979:True:=⟨⟩
theorem tw18251112825599106275:True:=⟨⟩
theorem tw14811076978495188195:True:=⟨⟩
theorem tw5635015706410844387:True:=⟨⟩
theorem tw5414534339726536707:True:=⟨⟩
theorem tw6567288245983111171:True:=⟨⟩
theorem tw13565630665325419216:True:=⟨⟩
theorem tw2343039922362307056:True:=⟨⟩
theorem tw3434591014449323440:True:=⟨⟩
theorem tw6679102955309959600:True:=⟨⟩
theorem tw5645415064246725200:True:=⟨⟩
theorem tw6815161361294328400:True:=⟨⟩
theorem tw9677542627691614064:True:=⟨⟩
theorem tw1672987069340362256:True:=⟨⟩
theorem tw7536728726010098992:True:=⟨⟩
theorem tw2777310486606898128:True:=⟨⟩
theorem tw896392117091262416:True:=⟨⟩
theorem tw14837075921911370480:True:=⟨⟩
theorem tw18353766887298422512:True:=⟨⟩
theorem tw8257457310077000080:True:=⟨⟩
theorem tw4666280033733451440:True:=⟨⟩
theorem tw4636975807341552304:True:=⟨⟩
theorem tw12634883239147335504:True:=⟨⟩
theorem tw10168931427177779312:True:=⟨⟩
theorem tw8910540313397133072:True:=⟨⟩
theorem tw12316206225457281584:True:=⟨⟩
theorem tw8986037579572391120:True:=⟨⟩
theorem tw14295902748450531312:True:=⟨⟩
theorem tw2161470769050845104:True:=⟨⟩
theorem tw437722411660003408:True:=⟨⟩
theorem tw9878135420369046608:True:=⟨⟩
theorem tw14964370614067952720:True:=⟨⟩
theorem tw3794541756776578128:True:=⟨⟩
theorem tw6825992141876648016:True:=⟨⟩
theorem tw9334336573746576752:True:=⟨⟩
theorem tw3586321277824238960:True:=⟨⟩
theorem tw2173964782534647824:True:=⟨⟩
theorem tw18146240232297413648:True:=⟨⟩
theorem tw9433380107526252560:True:=⟨⟩
theorem tw808681233213301776:True:=⟨⟩
theorem tw9108644517948501008:True:=⟨⟩
theorem tw13603198493218928432:True:=⟨⟩
theorem tw16555405951933438768:True:=⟨⟩
theorem tw14831431034001966896:True:=⟨⟩
theorem tw7808421317679229744:True:=⟨⟩
theorem tw2311596606651319760:True:=⟨⟩
theorem tw13308291806819139472:True:=⟨⟩
theorem tw18280231356768202928:True:=⟨⟩
theorem tw15261115163892512944:True:=⟨⟩
theorem tw16912601836600679760:True:=⟨⟩
theorem tw4836071039612271888:True:=⟨⟩
theorem tw6254241358121603344:True:=⟨⟩
theorem tw781112392691160112:True:=⟨⟩
theorem tw13661864377559211056:True:=⟨⟩
theorem tw10981247840145607329:True:=⟨⟩
theorem tw6734474459372280481:True:=⟨⟩
theorem tw1546340448729182881:True:=⟨⟩
theorem tw15972887241109575105:True:=⟨⟩
theorem tw13331704739837112769:True:=⟨⟩
theorem tw363472608344557089:True:=⟨⟩
theorem tw16408791803549164065:True:=⟨⟩
theorem tw12469394786265501217:True:=⟨⟩
theorem tw8620915925392604993:True:=⟨⟩
theorem tw6064361311239337953:True:=⟨⟩
theorem tw6435613555943814401:True:=⟨⟩
theorem tw15027813657048799489:True:=⟨⟩
theorem tw6156775387982992289:True:=⟨⟩
theorem tw12359905586431320993:True:=⟨⟩
theorem tw896041191675105985:True:=⟨⟩
theorem tw16644201821892198081:True:=⟨⟩
theorem tw1371220727996659393:True:=⟨⟩
theorem tw778996663928911553:True:=⟨⟩
theorem tw344035087544949089:True:=⟨⟩
theorem tw11912248818721715553:True:=⟨⟩
theorem tw11259913245555897121:True:=⟨⟩
theorem tw1479959440485337153:True:=⟨⟩
theorem tw13334789235222989889:True:=⟨⟩
theorem tw10498207760515217633:True:=⟨⟩
theorem tw4901217085786567169:True:=⟨⟩
theorem tw15587043529229516289:True:=⟨⟩
theorem tw17966940735400623265:True:=⟨⟩
theorem tw4932915121498799041:True:=⟨⟩
theorem tw3495553720403181153:True:=⟨⟩
theorem tw141379768648097825:True:=⟨⟩
theorem tw4812445951556440385:True:=⟨⟩
theorem tw8359198448007392577:True:=⟨⟩
theorem tw12152784171910769985:True:=⟨⟩
theorem tw5587868097446475073:True:=⟨⟩
theorem tw16706120442794172161:True:=⟨⟩
theorem tw12370804845461041569:True:=⟨⟩
theorem tw6351979084779308449:True:=⟨⟩
theorem tw16415684545702188449:True:=⟨⟩
theorem tw18311684407545491649:True:=⟨⟩
theorem tw10953358419278093953:True:=⟨⟩
theorem tw3580206924867195457:True:=⟨⟩
theorem tw8414816662057420513:True:=⟨⟩
theorem tw13056049162108353537:True:=⟨⟩
theorem tw5891310725916841985:True:=⟨⟩
theorem tw17214127696359073793:True:=⟨⟩
theorem tw6729940628936871286:True:=⟨⟩
theorem tw11798513794507384182:True:=⟨⟩
theorem tw5509500717763924342:True:=⟨⟩
theorem tw3619886497775549814:True:=⟨⟩
theorem tw9625954409417532054:True:=⟨⟩
theorem tw16705352496261953174:True:=⟨⟩
theorem tw13702326064699736726:True:=⟨⟩
theorem tw15831449180804048182:True:=⟨⟩
theorem tw5015665141404485942:True:=⟨⟩
theorem tw1080807525618032726:True:=⟨⟩
theorem tw9048959043973113942:True:=⟨⟩
theorem tw11585793122591300342:True:=⟨⟩
theorem tw8455509636433690358:True:=⟨⟩
theorem tw9715535729577717270:True:=⟨⟩
theorem tw11360155759697910294:True:=⟨⟩
theorem tw4277449665417238038:True:=⟨⟩
theorem tw6581903676286546102:True:=⟨⟩
theorem tw13029036752043021494:True:=⟨⟩
theorem tw3492758602945107126:True:=⟨⟩
theorem tw16671430358935201974:True:=⟨⟩
theorem tw597430841090971830:True:=⟨⟩
theorem tw7928477069593319606:True:=⟨⟩
theorem tw15213867517606551158:True:=⟨⟩
theorem tw9221647939110133654:True:=⟨⟩
theorem tw5791980126387539862:True:=⟨⟩
theorem tw7098796662738865718:True:=⟨⟩
theorem tw8402618584194901558:True:=⟨⟩
theorem tw1131009196008226358:True:=⟨⟩
theorem tw358998308624483670:True:=⟨⟩
theorem tw8903285369723716950:True:=⟨⟩
theorem tw2780260501866471414:True:=⟨⟩
theorem tw15444645232372524822:True:=⟨⟩
theorem tw14388194546541367734:True:=⟨⟩
theorem tw6236048102885228246:True:=⟨⟩
theorem tw5963049168890907350:True:=⟨⟩
theorem tw6597962789093873526:True:=⟨⟩
theorem tw4331374464667076758:True:=⟨⟩
theorem tw11143654925288551574:True:=⟨⟩
theorem tw9742114404145244758:True:=⟨⟩
theorem tw12978694689486476534:True:=⟨⟩
theorem tw13152900647210115318:True:=⟨⟩
theorem tw1041734066939551766:True:=⟨⟩
theorem tw3666847643071129622:True:=⟨⟩
theorem tw1488685991154950166:True:=⟨⟩
theorem tw14330866029970894518:True:=⟨⟩
theorem tw7913717863462653910:True:=⟨⟩
theorem tw4324768590502034390:True:=⟨⟩
theorem tw11445307732193420406:True:=⟨⟩
theorem tw5038445343330553974:True:=⟨⟩
theorem tw7694040772201074070:True:=⟨⟩
theorem tw17714025838733488182:True:=⟨⟩
theorem tw13923870138079234902:True:=⟨⟩
theorem tw596839332947609430:True:=⟨⟩
theorem tw12392441046977651542:True:=⟨⟩
theorem tw5725608563912678902:True:=⟨⟩
theorem tw4840252851370079734:True:=⟨⟩
theorem tw8759374071611058102:True:=⟨⟩
theorem tw15914279173456535478:True:=⟨⟩
theorem tw15378620127687112918:True:=⟨⟩
theorem tw12915560628714046455:True:=⟨⟩
theorem tw4458026342584188919:True:=⟨⟩
theorem tw6211407954914241527:True:=⟨⟩
theorem tw6575407467413071127:True:=⟨⟩
theorem tw6299529512197398807:True:=⟨⟩
theorem tw9320986196914341143:True:=⟨⟩
theorem tw10797655095234933175:True:=⟨⟩
theorem tw12905145899662694839:True:=⟨⟩
theorem tw18248645608335573719:True:=⟨⟩
theorem tw10624226597165476215:True:=⟨⟩
theorem tw287947231083746679:True:=⟨⟩
theorem tw10305269356859574647:True:=⟨⟩
theorem tw8715868543458076471:True:=⟨⟩
theorem tw18416071368914092631:True:=⟨⟩
theorem tw6953686225705527895:True:=⟨⟩
theorem tw14885124812403076695:True:=⟨⟩
theorem tw7116993658995107447:True:=⟨⟩
theorem tw11043565332798135927:True:=⟨⟩
theorem tw15468373810177246615:True:=⟨⟩
theorem tw14874740015416403351:True:=⟨⟩
theorem tw16655361398738801047:True:=⟨⟩
theorem tw4085355107048368183:True:=⟨⟩
theorem tw10942831735398218583:True:=⟨⟩
theorem tw5293970474611253079:True:=⟨⟩
theorem tw517724198027276119:True:=⟨⟩
theorem tw7114702342371406679:True:=⟨⟩
theorem tw8866890569696520983:True:=⟨⟩
theorem tw15681598297672941335:True:=⟨⟩
theorem tw4873480283540838167:True:=⟨⟩
theorem tw4568231203091369911:True:=⟨⟩
theorem tw4455062051430825911:True:=⟨⟩
theorem tw479312026376002775:True:=⟨⟩
theorem tw3086868240375072983:True:=⟨⟩
theorem tw4547531257694134135:True:=⟨⟩
theorem tw2107888079280393879:True:=⟨⟩
theorem tw3877861454377741623:True:=⟨⟩
theorem tw14684485023479115063:True:=⟨⟩
theorem tw461652223194966327:True:=⟨⟩
theorem tw1598261544914212599:True:=⟨⟩
theorem tw9700569562226587831:True:=⟨⟩
theorem tw7011742071773796823:True:=⟨⟩
theorem tw18432477139146500567:True:=⟨⟩
theorem tw16516967820593259991:True:=⟨⟩
theorem tw11015883113180050327:True:=⟨⟩
theorem tw9003164874222133143:True:=⟨⟩
theorem tw17419490979579898423:True:=⟨⟩
theorem tw13012100217145684311:True:=⟨⟩
theorem tw670263645769261399:True:=⟨⟩
theorem tw13883575605910189399:True:=⟨⟩
theorem tw17821629586853470551:True:=⟨⟩
theorem tw14357048138563382964:True:=⟨⟩
theorem tw16993542563090042548:True:=⟨⟩
theorem tw17213202801741711188:True:=⟨⟩
theorem tw11403675791532753748:True:=⟨⟩
theorem tw8577123868205661300:True:=⟨⟩
theorem tw14304563500966998132:True:=⟨⟩
theorem tw4898932216819464980:True:=⟨⟩
theorem tw2217210030526828308:True:=⟨⟩
theorem tw16223378899611936308:True:=⟨⟩
theorem tw17746410852422831316:True:=⟨⟩
theorem tw1979913288306733268:True:=⟨⟩
theorem tw12468848272116607636:True:=⟨⟩
theorem tw10935814377348622260:True:=⟨⟩
theorem tw1713613408738466740:True:=⟨⟩
theorem tw7622938137821946964:True:=⟨⟩
theorem tw830858750615896436:True:=⟨⟩
theorem tw1527838690883220852:True:=⟨⟩
theorem tw1298781202104834068:True:=⟨⟩
theorem tw3584515259715860500:True:=⟨⟩
theorem tw10379133185000867636:True:=⟨⟩
theorem tw4802584388902134580:True:=⟨⟩
theorem tw13493074278026115540:True:=⟨⟩
theorem tw4096336611382216148:True:=⟨⟩
theorem tw3420781838494593268:True:=⟨⟩
theorem tw13152710518527502580:True:=⟨⟩
theorem tw16413547821465148756:True:=⟨⟩
theorem tw6080131311334778484:True:=⟨⟩
theorem tw12117432559162701428:True:=⟨⟩
theorem tw5221659035299412244:True:=⟨⟩
theorem tw15153695644205787188:True:=⟨⟩
theorem tw7562163892257148404:True:=⟨⟩
theorem tw17792526076716820980:True:=⟨⟩
theorem tw14601715465040589972:True:=⟨⟩
theorem tw15858063859152535700:True:=⟨⟩
theorem tw6269251234911203764:True:=⟨⟩
theorem tw12795287235825905236:True:=⟨⟩
theorem tw1243817115420203540:True:=⟨⟩
theorem tw2938735568688020788:True:=⟨⟩
theorem tw6099794974223559636:True:=⟨⟩
theorem tw6522067053726604020:True:=⟨⟩
theorem tw187721451887068916:True:=⟨⟩
theorem tw3847808745515736820:True:=⟨⟩
theorem tw7182486151376732564:True:=⟨⟩
theorem tw2620797684545610549:True:=⟨⟩
theorem tw14076141398139754965:True:=⟨⟩
theorem tw17314117238199800277:True:=⟨⟩
theorem tw4139280733346450165:True:=⟨⟩
theorem tw2168644601474176757:True:=⟨⟩
theorem tw4790182246096814837:True:=⟨⟩
theorem tw2201769383853589397:True:=⟨⟩
theorem tw6355507385629914005:True:=⟨⟩
theorem tw3992577438768274325:True:=⟨⟩
theorem tw17523582860893176437:True:=⟨⟩
theorem tw17237978297281736309:True:=⟨⟩
theorem tw2114883523508822293:True:=⟨⟩
theorem tw5285049794066362645:True:=⟨⟩
theorem tw10913585522690886933:True:=⟨⟩
theorem tw5509933267665162965:True:=⟨⟩
theorem tw7205870552132398805:True:=⟨⟩
theorem tw18123177586359814133:True:=⟨⟩
theorem tw16632024033765633173:True:=⟨⟩
theorem tw5578469743405236373:True:=⟨⟩
theorem tw13419790239819088309:True:=⟨⟩
theorem tw1711473549958359125:True:=⟨⟩
theorem tw9471604286028564565:True:=⟨⟩
theorem tw7252744027004354421:True:=⟨⟩
theorem tw1324119301739381:True:=⟨⟩
theorem tw6712101261821760373:True:=⟨⟩
theorem tw628478076801646101:True:=⟨⟩
theorem tw18342914789491032373:True:=⟨⟩
theorem tw7459606713180098869:True:=⟨⟩
theorem tw18174727709737113557:True:=⟨⟩
theorem tw9812517637422296469:True:=⟨⟩
theorem tw12908653914561925525:True:=⟨⟩
theorem tw2655586099545260437:True:=⟨⟩
theorem tw2267546703583191381:True:=⟨⟩
theorem tw12093608987786060565:True:=⟨⟩
theorem tw9939709412603809333:True:=⟨⟩
theorem tw13054651096227442229:True:=⟨⟩
theorem tw17132341959485951477:True:=⟨⟩
theorem tw17204449605386721941:True:=⟨⟩
theorem tw1736350178976864181:True:=⟨⟩
theorem tw3009570038974986837:True:=⟨⟩
theorem tw8549678576505192021:True:=⟨⟩
theorem tw14496288281795972469:True:=⟨⟩
theorem tw7903667746670248309:True:=⟨⟩
theorem tw3517015006915437578:True:=⟨⟩
theorem tw4303922720696150026:True:=⟨⟩
theorem tw2223425423447361994:True:=⟨⟩
theorem tw17984269316229385674:True:=⟨⟩
theorem tw8620653264166131082:True:=⟨⟩
theorem tw4184917019135499818:True:=⟨⟩
theorem tw4996283469597685290:True:=⟨⟩
theorem tw11080624332738626378:True:=⟨⟩
theorem tw12652299772924304202:True:=⟨⟩
theorem tw10800136255964178250:True:=⟨⟩
theorem tw9411467720932436458:True:=⟨⟩
theorem tw14987213230683893226:True:=⟨⟩
theorem tw3660987093379562:True:=⟨⟩
theorem tw17263540893757438442:True:=⟨⟩
theorem tw6671535061982701834:True:=⟨⟩
theorem tw2677792999027748202:True:=⟨⟩
theorem tw14183143666670911114:True:=⟨⟩
theorem tw7760740165033458314:True:=⟨⟩
theorem tw5139909716467530538:True:=⟨⟩
theorem tw13915988487920759594:True:=⟨⟩
theorem tw11574777934848296746:True:=⟨⟩
theorem tw10953487992723715146:True:=⟨⟩
theorem tw675554889913544426:True:=⟨⟩
theorem tw7230765955390993930:True:=⟨⟩
theorem tw1530186012659733002:True:=⟨⟩
theorem tw13268954446999921834:True:=⟨⟩
theorem tw1884399729814107754:True:=⟨⟩
theorem tw840981496064437866:True:=⟨⟩
theorem tw8637924245605089610:True:=⟨⟩
theorem tw8673665949694871306:True:=⟨⟩
theorem tw12203266531451400970:True:=⟨⟩
theorem tw4794295470348331434:True:=⟨⟩
theorem tw13966082070955660426:True:=⟨⟩
theorem tw13819635886744424586:True:=⟨⟩
theorem tw3779012795390611018:True:=⟨⟩
theorem tw8673760779264423547:True:=⟨⟩
theorem tw11934350699983728027:True:=⟨⟩
theorem tw15159565307599043643:True:=⟨⟩
theorem tw16064010049021166651:True:=⟨⟩
theorem tw16582145984224169819:True:=⟨⟩
theorem tw10266834256667246075:True:=⟨⟩
theorem tw5129100327938481947:True:=⟨⟩
theorem tw18257728168264807195:True:=⟨⟩
theorem tw14234986236628817851:True:=⟨⟩
theorem tw14041867575472867259:True:=⟨⟩
theorem tw8418850081465071547:True:=⟨⟩
theorem tw18382448096889393371:True:=⟨⟩
theorem tw5071737660975045499:True:=⟨⟩
theorem tw8582838029754580635:True:=⟨⟩
theorem tw16278950018613345595:True:=⟨⟩
theorem tw17510691922017120571:True:=⟨⟩
theorem tw7306873896866421051:True:=⟨⟩
theorem tw12280789728482893115:True:=⟨⟩
theorem tw2234841607322767675:True:=⟨⟩
theorem tw3929644205436876891:True:=⟨⟩
theorem tw4971707271873142875:True:=⟨⟩
theorem tw2130250830938240763:True:=⟨⟩
theorem tw13894634725453916923:True:=⟨⟩
theorem tw9572024549278143227:True:=⟨⟩
theorem tw6087493978418456603:True:=⟨⟩
theorem tw15590289154827916315:True:=⟨⟩
theorem tw2488860425557155003:True:=⟨⟩
theorem tw12010918843540018363:True:=⟨⟩
theorem tw736559914600380603:True:=⟨⟩
theorem tw18254621711343407291:True:=⟨⟩
theorem tw16085002494570185179:True:=⟨⟩
theorem tw17519745973974767739:True:=⟨⟩
theorem tw12850929210481661051:True:=⟨⟩
theorem tw1066297216363992635:True:=⟨⟩
theorem tw7529130512179515739:True:=⟨⟩
theorem tw2908595245633717595:True:=⟨⟩
theorem tw7075670792697189723:True:=⟨⟩
theorem tw543636222009071611:True:=⟨⟩
theorem tw4397832540337564955:True:=⟨⟩
theorem tw4484312828943147451:True:=⟨⟩
theorem tw12063813234649006523:True:=⟨⟩
theorem tw9740553358378948315:True:=⟨⟩
theorem tw13295757670020842875:True:=⟨⟩
theorem tw12785757555996779899:True:=⟨⟩
theorem tw4544679596462431387:True:=⟨⟩
theorem tw1383844976935760699:True:=⟨⟩
theorem tw8000909559420407611:True:=⟨⟩
theorem tw5662764230424782651:True:=⟨⟩
theorem tw8225072435852268347:True:=⟨⟩
theorem tw12894091464228559451:True:=⟨⟩
theorem tw3312639428575888987:True:=⟨⟩
theorem tw5533284921534288411:True:=⟨⟩
theorem tw5585562161386960571:True:=⟨⟩
theorem tw428484052712917160:True:=⟨⟩
theorem tw13562634003028335048:True:=⟨⟩
theorem tw9180358300632990600:True:=⟨⟩
theorem tw17632791038123910024:True:=⟨⟩
theorem tw11615153089178345000:True:=⟨⟩
theorem tw3641903923722224168:True:=⟨⟩
theorem tw116829573747699240:True:=⟨⟩
theorem tw16987089875077307720:True:=⟨⟩
theorem tw15990409148406401000:True:=⟨⟩
theorem tw14846430730451215336:True:=⟨⟩
theorem tw16609110625150722024:True:=⟨⟩
theorem tw17653395014608570344:True:=⟨⟩
theorem tw14194955961183906216:True:=⟨⟩
theorem tw2678143867751452360:True:=⟨⟩
theorem tw11966548221656425832:True:=⟨⟩
theorem tw10193104807299194216:True:=⟨⟩
theorem tw16644025755203776648:True:=⟨⟩
theorem tw16367322488064149640:True:=⟨⟩
theorem tw602898705742110504:True:=⟨⟩
theorem tw18313958262992902728:True:=⟨⟩
theorem tw2395360589981782600:True:=⟨⟩
theorem tw455996952264472808:True:=⟨⟩
theorem tw16568257914760601096:True:=⟨⟩
theorem tw15362009611261821448:True:=⟨⟩
theorem tw3241225366106811912:True:=⟨⟩
theorem tw10898578532549830312:True:=⟨⟩
theorem tw6589317048279271080:True:=⟨⟩
theorem tw11804036180299837096:True:=⟨⟩
theorem tw4027570223873491336:True:=⟨⟩
theorem tw2686811819572748776:True:=⟨⟩
theorem tw16607784696358226408:True:=⟨⟩
theorem tw12548654655308641768:True:=⟨⟩
theorem tw16954684184137436936:True:=⟨⟩
theorem tw70504467139266312:True:=⟨⟩
theorem tw10419372455594056456:True:=⟨⟩
theorem tw7339385377263174568:True:=⟨⟩
theorem tw14084754144043732904:True:=⟨⟩
theorem tw5257284115718746984:True:=⟨⟩
theorem tw10418821070498059912:True:=⟨⟩
theorem tw17674521349322135176:True:=⟨⟩
theorem tw6837933980278877480:True:=⟨⟩
theorem tw14260483616928936680:True:=⟨⟩
theorem tw893644547651322600:True:=⟨⟩
theorem tw8218368388497587944:True:=⟨⟩
theorem tw3896432864908169337:True:=⟨⟩
theorem tw13707482908480027769:True:=⟨⟩
theorem tw8038203026324743289:True:=⟨⟩
theorem tw16300260667763138969:True:=⟨⟩
theorem tw16994832310330321305:True:=⟨⟩
theorem tw12426564226344084313:True:=⟨⟩
theorem tw11423366701579904857:True:=⟨⟩
theorem tw1697823684261348857:True:=⟨⟩
theorem tw9257564877634915833:True:=⟨⟩
theorem tw10540686284600524729:True:=⟨⟩
theorem tw4992423415846252249:True:=⟨⟩
theorem tw14766628837263464153:True:=⟨⟩
theorem tw3732530698148308345:True:=⟨⟩
theorem tw15441256140065102201:True:=⟨⟩
theorem tw7352393279153081721:True:=⟨⟩
theorem tw3564083277989941625:True:=⟨⟩
theorem tw12961144429417063065:True:=⟨⟩
theorem tw18193238122522623641:True:=⟨⟩
theorem tw16823710555383410329:True:=⟨⟩
theorem tw1626954789893016217:True:=⟨⟩
theorem tw13522595751371437881:True:=⟨⟩
theorem tw13710774639955215449:True:=⟨⟩
theorem tw16706406908939067481:True:=⟨⟩
theorem tw17287459089854585945:True:=⟨⟩
theorem tw2138341982008666649:True:=⟨⟩
theorem tw6825794384878216377:True:=⟨⟩
theorem tw3610102804104083065:True:=⟨⟩
theorem tw3706051270626361977:True:=⟨⟩
theorem tw7943434605978140569:True:=⟨⟩
theorem tw14662617371843658649:True:=⟨⟩
theorem tw8761934834357262393:True:=⟨⟩
theorem tw7416751222084276281:True:=⟨⟩
theorem tw8974285638726340953:True:=⟨⟩
theorem tw16560290962428233049:True:=⟨⟩
theorem tw3613764528863817497:True:=⟨⟩
theorem tw3331922841121032985:True:=⟨⟩
theorem tw1173135590058218265:True:=⟨⟩
theorem tw14117766483522153913:True:=⟨⟩
theorem tw9434011793918776537:True:=⟨⟩
theorem tw17805375393286525145:True:=⟨⟩
theorem tw13483308388160716665:True:=⟨⟩
theorem tw1760938099516911481:True:=⟨⟩
theorem tw7504022934668878425:True:=⟨⟩
theorem tw195797228579154521:True:=⟨⟩
theorem tw11266129037736892665:True:=⟨⟩
theorem tw15925481048366180601:True:=⟨⟩
theorem tw15741303081692602393:True:=⟨⟩
theorem tw10287841801749109433:True:=⟨⟩
theorem tw11666170188013902:True:=⟨⟩
theorem tw12034656612786429262:True:=⟨⟩
theorem tw4292124644429209710:True:=⟨⟩
theorem tw6714678847661489262:True:=⟨⟩
theorem tw5246501284691441710:True:=⟨⟩
theorem tw17748941975480150062:True:=⟨⟩
theorem tw8722938342819674158:True:=⟨⟩
theorem tw6387178735628264494:True:=⟨⟩
theorem tw16347810527638631630:True:=⟨⟩
theorem tw12695656491558541806:True:=⟨⟩
theorem tw15834621417332309486:True:=⟨⟩
theorem tw13997896966902399118:True:=⟨⟩
theorem tw8191383141383413902:True:=⟨⟩
theorem tw5928093246952578990:True:=⟨⟩
theorem tw11109855531362756974:True:=⟨⟩
theorem tw11923671214888560654:True:=⟨⟩
theorem tw1847498129718734126:True:=⟨⟩
theorem tw4669232988116832430:True:=⟨⟩
theorem tw16633321846759511662:True:=⟨⟩
theorem tw3692537525332797038:True:=⟨⟩
theorem tw12917748928761252462:True:=⟨⟩
theorem tw11122842944015723790:True:=⟨⟩
theorem tw80207222412747470:True:=⟨⟩
theorem tw1480571949376996046:True:=⟨⟩
theorem tw2155674874500533966:True:=⟨⟩
theorem tw15500987786846045838:True:=⟨⟩
theorem tw11959612452944106126:True:=⟨⟩
theorem tw15696606389434149294:True:=⟨⟩
theorem tw4779477324305771598:True:=⟨⟩
theorem tw13693779402814154830:True:=⟨⟩
theorem tw16520977018256573966:True:=⟨⟩
theorem tw2382034009712293678:True:=⟨⟩
theorem tw10200059711980206030:True:=⟨⟩
theorem tw14709833418497948910:True:=⟨⟩
theorem tw1737164910517545198:True:=⟨⟩
theorem tw14642527364979015918:True:=⟨⟩
theorem tw1981489257346161902:True:=⟨⟩
theorem tw16009306857160682382:True:=⟨⟩
theorem tw17233589022662653838:True:=⟨⟩
theorem tw1920314895626431374:True:=⟨⟩
theorem tw4424279083300782990:True:=⟨⟩
theorem tw8602555600028458894:True:=⟨⟩
theorem tw8994223850203857199:True:=⟨⟩
theorem tw9372208762206411727:True:=⟨⟩
theorem tw17510342927460740847:True:=⟨⟩
theorem tw69890677706110351:True:=⟨⟩
theorem tw9810849677208565135:True:=⟨⟩
theorem tw14679928423975458991:True:=⟨⟩
theorem tw4429364384745439407:True:=⟨⟩
theorem tw15101716383203956559:True:=⟨⟩
theorem tw10671393477618117455:True:=⟨⟩
theorem tw18134286326933579599:True:=⟨⟩
theorem tw8048615277679874159:True:=⟨⟩
theorem tw3604189019820491887:True:=⟨⟩
theorem tw1728196956790604047:True:=⟨⟩
theorem tw13821990636101746223:True:=⟨⟩
theorem tw4572055151466897615:True:=⟨⟩
theorem tw11234803216861417679:True:=⟨⟩
theorem tw1874159405358719183:True:=⟨⟩
theorem tw12822435600720695279:True:=⟨⟩
theorem tw1664424002330261135:True:=⟨⟩
theorem tw5371229575969440175:True:=⟨⟩
theorem tw13953861978323313743:True:=⟨⟩
theorem tw10142378343001408303:True:=⟨⟩
theorem tw1166830999486302671:True:=⟨⟩
theorem tw8971800947757722863:True:=⟨⟩
theorem tw16753550483799774095:True:=⟨⟩
theorem tw3692403537964248751:True:=⟨⟩
theorem tw7046368057735379631:True:=⟨⟩
theorem tw8881279393935526575:True:=⟨⟩
theorem tw10652557068286136655:True:=⟨⟩
theorem tw8631647698044649071:True:=⟨⟩
theorem tw9539737241629129775:True:=⟨⟩
theorem tw16140346037966671567:True:=⟨⟩
theorem tw3016420499884711631:True:=⟨⟩
theorem tw4287501998611880655:True:=⟨⟩
theorem tw6553926801971918991:True:=⟨⟩
theorem tw7416292914021302191:True:=⟨⟩
theorem tw9366875484532515407:True:=⟨⟩
theorem tw17309730176458506095:True:=⟨⟩
theorem tw12842273774859365231:True:=⟨⟩
theorem tw6809180150348452684:True:=⟨⟩
theorem tw1487619136494144620:True:=⟨⟩
theorem tw3780787445193727532:True:=⟨⟩
theorem tw9669889567957919948:True:=⟨⟩
theorem tw16720935359968133324:True:=⟨⟩
theorem tw14026952437868980204:True:=⟨⟩
theorem tw18212267438146297484:True:=⟨⟩
theorem tw9048594486883216300:True:=⟨⟩
theorem tw7430934849479919532:True:=⟨⟩
theorem tw10755821558809116012:True:=⟨⟩
theorem tw7882796304002442028:True:=⟨⟩
theorem tw9193979096431994668:True:=⟨⟩
theorem tw10257909930514227660:True:=⟨⟩
theorem tw7685305048303408588:True:=⟨⟩
theorem tw16611703323094282476:True:=⟨⟩
theorem tw11862501624678476012:True:=⟨⟩
theorem tw9735997196182214540:True:=⟨⟩
theorem tw14321712812228375884:True:=⟨⟩
theorem tw7095182050415464044:True:=⟨⟩
theorem tw15614994299816657964:True:=⟨⟩
theorem tw8621839932002950188:True:=⟨⟩
theorem tw4761188538168918444:True:=⟨⟩
theorem tw3434568106166762924:True:=⟨⟩
theorem tw2337606911067854252:True:=⟨⟩
theorem tw11680542252808841068:True:=⟨⟩
theorem tw2364733319659085324:True:=⟨⟩
theorem tw12801012565498045964:True:=⟨⟩
theorem tw11875649815601129772:True:=⟨⟩
theorem tw6452426570276761996:True:=⟨⟩
theorem tw8401526953307532:True:=⟨⟩
theorem tw10459998452446265740:True:=⟨⟩
theorem tw9745053878982180236:True:=⟨⟩
theorem tw1886097375651017517:True:=⟨⟩
theorem tw17316199666452605741:True:=⟨⟩
theorem tw9259770788124725997:True:=⟨⟩
theorem tw12382532101624025837:True:=⟨⟩
theorem tw12842129537826997421:True:=⟨⟩
theorem tw16116582832771544909:True:=⟨⟩
theorem tw2253076609543119693:True:=⟨⟩
theorem tw7231647588127744845:True:=⟨⟩
theorem tw15473961653952966477:True:=⟨⟩
theorem tw15768255177571059533:True:=⟨⟩
theorem tw16028368227544363629:True:=⟨⟩
theorem tw13185193354669925997:True:=⟨⟩
theorem tw9046533771756868877:True:=⟨⟩
theorem tw14941774590477668621:True:=⟨⟩
theorem tw9821591817271157005:True:=⟨⟩
theorem tw13988012559056256269:True:=⟨⟩
theorem tw5063007335932810957:True:=⟨⟩
theorem tw17339922335847191533:True:=⟨⟩
theorem tw10980597926105621645:True:=⟨⟩
theorem tw3731410014628475021:True:=⟨⟩
theorem tw9715329189748447661:True:=⟨⟩
theorem tw4947095375946911149:True:=⟨⟩
theorem tw11570111164570437037:True:=⟨⟩
theorem tw6350475880396880301:True:=⟨⟩
theorem tw2316390732353752141:True:=⟨⟩
theorem tw5563909161867252813:True:=⟨⟩
theorem tw9424071236715195469:True:=⟨⟩
theorem tw10288849259350499405:True:=⟨⟩
theorem tw5874622170150204493:True:=⟨⟩
theorem tw17915111120718918509:True:=⟨⟩
theorem tw3952330419289308013:True:=⟨⟩
theorem tw14066897420323017581:True:=⟨⟩
theorem tw1635092285416264557:True:=⟨⟩
theorem tw13655080880385067533:True:=⟨⟩
theorem tw29851341024097229:True:=⟨⟩
theorem tw13971359600739959757:True:=⟨⟩
theorem tw13566373518162323693:True:=⟨⟩
theorem tw7082444589050389901:True:=⟨⟩
theorem tw11900943390969748877:True:=⟨⟩
theorem tw6984009111069617485:True:=⟨⟩
theorem tw15876243489191307597:True:=⟨⟩
theorem tw9870564867049460845:True:=⟨⟩
theorem tw9412117496694199405:True:=⟨⟩
theorem tw6342410221627838221:True:=⟨⟩
theorem tw8766153797292197645:True:=⟨⟩
theorem tw7828148429267724845:True:=⟨⟩
theorem tw7839665609038958061:True:=⟨⟩
theorem tw17772274698961265293:True:=⟨⟩
theorem tw3867037960071472045:True:=⟨⟩
theorem tw14616110268253331021:True:=⟨⟩
theorem tw7863745022479089229:True:=⟨⟩
theorem tw18403829441425892717:True:=⟨⟩
theorem tw2075781144131075437:True:=⟨⟩
theorem tw11044803229060463981:True:=⟨⟩
theorem tw7404191238989333517:True:=⟨⟩
theorem tw4437483791414902797:True:=⟨⟩
theorem tw5694999222942433661:True:=⟨⟩
theorem tw2205217724480322914:True:=⟨⟩
end Mine.Internal.hd
namespace Mine.Internal
set_option Elab.async true
set_option maxRecDepth 100000 in
set_option maxHeartbeats 8000000 in
theorem hd : PySem.Challenge.rw_xw0352_01.Holds := by
  w_on; o_law; o_head (kHook K2 K2a K2a_eq)
  case hw => w_witness2
  case hc => exact walk _ _ _ _ _ rfl
end Mine.Internal
end THeadK
theorem PySem.Challenge.cw_xw0352_01_holds : PySem.Challenge.rw_xw0352_01.Holds :=
  Mine.Internal.hd
